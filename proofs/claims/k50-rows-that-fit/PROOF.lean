import PyProof.Rows.All
import Wide.All
import OpenK.AllK
import Wide.FinOn
import KE.KStateDown
import Lean
import HandS.List
import HandS.Text
import HandS.Base
import HandS.Call
import HandS.Comp
import HandS.Exc
import KE.KeyNested
import HandS.CallSlots
import HandS.TryOnly
import HandS.TryMany
import HandS.TryElse
import HandS.ExcOwn
import HandS.Words
import HandS.WordsExc
import HandS.ExcInit
import HandS.Iter
import HandS.Zip
import HandS.Deep
import HandS.TupAny
import HandS.More
import HandS.IsInst
import PyProof.Rows.StrMul
import KE.KDictKeyed
import KE.KDictWalk
import HandS.Dict
import HandS.Ends
import HandS.Defaults
import HandS.HeadEnd
import HandS.Codes
import HandS.Head0
import HandS.Head1
import HandS.Head2
import HandS.HeadHook1
import HandS.HeadHook2
import PySem.Challenge.RW_limb_k50_rows_that_fit
set_option Elab.async false
set_option linter.all false
set_option maxRecDepth 100000
set_option maxHeartbeats 0
/-! Zp: pure values, the list heap, combinators. -/
namespace Z
open PySem L2

/-- a pure value: tuples are trees, lists, dicts and instances are places of the heap -/
inductive PV where
  | non | bl (b : Bool) | int (i : Int) | str (s : Str) | tup (xs : List PV) | ref (n : Nat)
instance : Inhabited PV := ⟨.non⟩
mutual
def PV.beq : PV → PV → Bool
  | .non, .non => true
  | .bl a, .bl b => a == b
  | .int a, .int b => a == b
  | .str a, .str b => decide (a = b)
  | .tup a, .tup b => PV.beqs a b
  | .ref a, .ref b => a == b
  | _, _ => false
def PV.beqs : List PV → List PV → Bool
  | [], [] => true
  | a :: r, b :: t => PV.beq a b && PV.beqs r t
  | _, _ => false
end
mutual
theorem PV.beq_refl : ∀ a : PV, PV.beq a a = true
  | .non => rfl
  | .bl a => by simp [PV.beq]
  | .int a => by simp [PV.beq]
  | .str a => by simp [PV.beq]
  | .tup a => by rw [PV.beq]; exact PV.beqs_refl a
  | .ref a => by simp [PV.beq]
theorem PV.beqs_refl : ∀ a : List PV, PV.beqs a a = true
  | [] => rfl
  | a :: r => by rw [PV.beqs, PV.beq_refl a, PV.beqs_refl r]; rfl
end
mutual
theorem PV.eq_of_beq : ∀ (a b : PV), PV.beq a b = true → a = b
  | .non, b, h => by cases b <;> simp_all [PV.beq]
  | .bl a, b, h => by cases b <;> simp_all [PV.beq]
  | .int a, b, h => by cases b <;> simp_all [PV.beq]
  | .str a, b, h => by cases b <;> simp_all [PV.beq]
  | .ref a, b, h => by cases b <;> simp_all [PV.beq]
  | .tup a, b, h => by
    cases b with
    | tup c => rw [PV.beq] at h; rw [PV.eqs_of_beqs a c h]
    | _ => simp [PV.beq] at h
theorem PV.eqs_of_beqs : ∀ (a b : List PV), PV.beqs a b = true → a = b
  | [], [], _ => rfl
  | [], _ :: _, h => by simp [PV.beqs] at h
  | _ :: _, [], h => by simp [PV.beqs] at h
  | a :: r, b :: t, h => by
    rw [PV.beqs, Bool.and_eq_true] at h
    rw [PV.eq_of_beq a b h.1, PV.eqs_of_beqs r t h.2]
end
instance : DecidableEq PV := fun a b =>
  if h : PV.beq a b = true then .isTrue (PV.eq_of_beq a b h) else .isFalse fun e => h (e ▸ PV.beq_refl a)

/-- what stands at a place -/
inductive PO where
  | lst (xs : List PV) | frz (xs : List PV) | dct (ep : Nat) (kvs : List (PV × PV)) | ins (c : Nat) (fs : List (Str × PV))
abbrev PH := List PO
structure Exn where
  c : Nat
  f : Option PV
inductive Res (α : Type) where
  | ok (a : α) (h : PH) | exc (e : Exn) (h : PH) | bad
def Res.bind {α β : Type} (r : Res α) (f : α → PH → Res β) : Res β := match r with
  | .ok a h => f a h
  | .exc e h => .exc e h
  | .bad => .bad
abbrev PEnv := List (Option PV)
abbrev EF := PEnv → PH → Res PV
abbrev AF := PEnv → PH → Res (List PV)
abbrev OF := PEnv → PH → Res (Option Int)
/-- a def: its arguments -/
abbrev FF := List PV → PH → Res PV
inductive SR where
  | nx (r : PEnv) (h : PH) | ret (v : PV) (h : PH) | exc (e : Exn) (r : PEnv) (h : PH) | bad
abbrev SF := PEnv → PH → SR
/-- a target: what is stored where -/
abbrev GF := PV → PEnv → PH → Res PEnv
def Res.toS (r : Res PV) (env : PEnv) (f : PV → PH → SR) : SR := match r with
  | .ok a h => f a h
  | .exc e h => .exc e env h
  | .bad => .bad
/-- a primitive: its value and the heap behind it, or no such thing -/
abbrev Rp (α : Type) := Option (α × PH)
def Rp.r {α : Type} (o : Rp α) : Res α := match o with
  | some (a, h) => .ok a h
  | none => .bad
abbrev P1 := PV → PH → Rp PV
abbrev P2 := PV → PV → PH → Rp PV
abbrev PN := List PV → PH → Rp PV

/-! ### expressions -/
def eVar (i : Nat) : EF := fun r h => match r[i]? with
  | some (some v) => .ok v h
  | _ => .bad
def eC (v : PV) : EF := fun _ h => .ok v h
def eUn (p : P1) (f : EF) : EF := fun r h => (f r h).bind fun x h1 => (p x h1).r
def eBin (p : P2) (f g : EF) : EF := fun r h => (f r h).bind fun x h1 => (g r h1).bind fun y h2 => (p x y h2).r
def aNil : AF := fun _ h => .ok [] h
def aCons (f : EF) (a : AF) : AF := fun r h => (f r h).bind fun x h1 => (a r h1).bind fun xs h2 => .ok (x :: xs) h2
def eArg (p : PN) (a : AF) : EF := fun r h => (a r h).bind fun vs h1 => (p vs h1).r
/-- a, and b where a is true, both truths -/
def eAnd (f g : EF) : EF := fun r h => (f r h).bind fun x h1 => match x with
  | .bl true => (g r h1).bind fun y h2 => match y with
    | .bl b => .ok (.bl b) h2
    | _ => .bad
  | .bl false => .ok (.bl false) h1
  | _ => .bad
def eOr (f g : EF) : EF := fun r h => (f r h).bind fun x h1 => match x with
  | .bl true => .ok (.bl true) h1
  | .bl false => (g r h1).bind fun y h2 => match y with
    | .bl b => .ok (.bl b) h2
    | _ => .bad
  | _ => .bad
def eNot (f : EF) : EF := fun r h => (f r h).bind fun x h1 => match x with
  | .bl b => .ok (.bl (!b)) h1
  | _ => .bad
def eIf (c f g : EF) : EF := fun r h => (c r h).bind fun x h1 => match x with
  | .bl true => f r h1
  | .bl false => g r h1
  | _ => .bad
/-- a op b op' c -/
def eChain (p p' : P2) (f g k : EF) : EF := fun r h => (f r h).bind fun x h1 => (g r h1).bind fun y h2 => (p x y h2).r.bind fun z h3 => match z with
  | .bl true => (k r h3).bind fun w h4 => (p' y w h4).r
  | .bl false => .ok (.bl false) h3
  | _ => .bad
def oNo : OF := fun _ h => .ok none h
def oPart (f : EF) : OF := fun r h => (f r h).bind fun x h1 => match x with
  | .int i => .ok (some i) h1
  | _ => .bad
abbrev PSl := PV → Option Int → Option Int → PH → Rp PV
def eSl (p : PSl) (f : EF) (l u : OF) : EF := fun r h => (f r h).bind fun x h1 => (l r h1).bind fun a h2 => (u r h2).bind fun b h3 => (p x a b h3).r
/-- a method of a built-in type -/
abbrev PM := PV → List PV → PH → Rp PV
def eBM (ty : PV → PH → Bool) (p : PM) (f : EF) (a : AF) : EF := fun r h => (f r h).bind fun x h1 => if ty x h1 then (a r h1).bind fun vs h2 => (p x vs h2).r else .bad
/-- an attribute of an instance -/
def fldOf (cs : List Nat) (n : Nat) (name : Str) (h : PH) : Option PV := match h[n]? with
  | some (.ins c fs) => if c ∈ cs then fs.lookup name else none
  | _ => none
/-- cs: the classes whose instances have it -/
def eFld (cs : List Nat) (f : EF) (name : Str) : EF := fun r h => (f r h).bind fun x h1 => match x with
  | .ref n => (match fldOf cs n name h1 with
    | some v => .ok v h1
    | none => .bad)
  | _ => .bad
def eCall (F : FF) (a : AF) : EF := fun r h => (a r h).bind F
/-- o.m(..): the class tells the def -/
def eMeth (tbl : Nat → Option FF) (name : Str) (f : EF) (a : AF) : EF := fun r h => (f r h).bind fun x h1 => match x with
  | .ref n => (match h1[n]? with
    | some (.ins c fs) => (match fs.lookup name, tbl c with
      | none, some F => (a r h1).bind fun vs h2 => F (x :: vs) h2
      | _, _ => .bad)
    | _ => .bad)
  | _ => .bad
/-- C(..): a new instance, then __init__ -/
def eMake (c : Nat) (F : FF) (a : AF) : EF := fun r h => (a r h).bind fun vs h1 => (F (.ref h1.length :: vs) (h1 ++ [.ins c []])).bind fun v h2 => match v with
  | .non => .ok (.ref h1.length) h2
  | _ => .bad

/-! ### targets -/
def gName (i : Nat) : GF := fun v r h => if i < r.length then .ok (r.set i (some v)) h else .bad
abbrev GFs := List PV → PEnv → PH → Res PEnv
def gsNil : GFs := fun vs r h => match vs with
  | [] => .ok r h
  | _ => .bad
def gsCons (g : GF) (gs : GFs) : GFs := fun vs r h => match vs with
  | v :: t => (g v r h).bind fun r1 h1 => gs t r1 h1
  | [] => .bad
def gTup (n : Nat) (gs : GFs) : GF := fun v r h => match v with
  | .tup xs => if xs.length = n then gs xs r h else .bad
  | _ => .bad
/-- o[i] = .. -/
abbrev P3 := PV → PV → PV → PH → Option PH
def gSub (p : P3) (f g : EF) : GF := fun v r h => (f r h).bind fun o h1 => (g r h1).bind fun i h2 => match p o i v h2 with
  | some h3 => .ok r h3
  | none => .bad

/-! ### statements -/
def sNx : SF := fun r h => .nx r h
def SR.thn (s : SR) (f : SF) : SR := match s with
  | .nx r h => f r h
  | s => s
def sSeq (f g : SF) : SF := fun r h => (f r h).thn g
def sAsg (f : EF) (g : GF) : SF := fun r h => (f r h).toS r fun v h1 => match g v r h1 with
  | .ok r2 h2 => .nx r2 h2
  | _ => .bad
def setFld (cs : List Nat) (n : Nat) (name : Str) (v : PV) (h : PH) : Option PH := match h[n]? with
  | some (.ins c fs) => if c ∈ cs ∧ fs.length < 1000 then some (h.set n (.ins c (putFP name v fs))) else none
  | _ => none
where putFP (f : Str) (v : PV) : List (Str × PV) → List (Str × PV)
  | [] => [(f, v)]
  | (g, x) :: r => if g = f then (g, v) :: r else (g, x) :: putFP f v r
def sFld (cs : List Nat) (o f : EF) (name : Str) : SF := fun r h => (f r h).toS r fun v h1 => (o r h1).toS r fun x h2 => match x with
  | .ref n => (match setFld cs n name v h2 with
    | some h3 => .nx r h3
    | none => .bad)
  | _ => .bad
def sExpr (f : EF) : SF := fun r h => (f r h).toS r fun _ h1 => .nx r h1
def sRet (f : EF) : SF := fun r h => (f r h).toS r fun v h1 => .ret v h1
def sRetN : SF := fun _ h => .ret .non h
def sIf (c : EF) (f g : SF) : SF := fun r h => (c r h).toS r fun v h1 => match v with
  | .bl true => f r h1
  | .bl false => g r h1
  | _ => .bad
/-- what is never come to -/
def sNever : SF := fun _ _ => .bad
def whileN (c : EF) (b : SF) : Nat → SF
  | 0 => fun _ _ => .bad
  | n + 1 => fun r h => (c r h).toS r fun v h1 => match v with
    | .bl true => (b r h1).thn (whileN c b n)
    | .bl false => .nx r h1
    | _ => .bad
/-- the turns of a while: at most so many -/
def big : Nat := 1000000
def sWhile (c : EF) (b : SF) : SF := whileN c b big

/-! ### what is walked -/
/-- turn i: the item, or the end (none), or no such thing (bad) -/
structure Src where
  n : Nat
  get : Nat → PH → Option (Option PV)
abbrev IF := PEnv → PH → Res Src
def forG (get : Nat → PH → Option (Option PV)) (g : GF) (b : SF) : Nat → Nat → SF
  | 0, i => fun r h => match get i h with
    | some none => .nx r h
    | _ => .bad
  | k + 1, i => fun r h => match get i h with
    | some (some v) => (match g v r h with
      | .ok r1 h1 => (b r1 h1).thn (forG get g b k (i + 1))
      | _ => .bad)
    | _ => .bad
def sFor (f : IF) (g : GF) (b : SF) : SF := fun r h => match f r h with
  | .ok s h1 => forG s.get g b s.n 0 r h1
  | .exc e h1 => .exc e r h1
  | .bad => .bad
/-- a list (or the script) at n, a tuple -/
def listAt (h : PH) (n : Nat) : Option (List PV) := match h[n]? with
  | some (.lst xs) => some xs
  | some (.frz xs) => some xs
  | _ => none
def seqOf (h : PH) : PV → Option (List PV)
  | .tup xs => some xs
  | .ref n => listAt h n
  | _ => none
def srcSeq (v : PV) (n : Nat) : Src := ⟨n, fun i h => (seqOf h v).map fun xs => xs[i]?⟩
def iSeq (f : EF) : IF := fun r h => (f r h).bind fun v h1 => match seqOf h1 v with
  | some xs => .ok (srcSeq v xs.length) h1
  | none => .bad
/-- lo, lo + 1, .. -/
def srcRng (lo : Int) (n : Nat) : Src := ⟨n, fun i _ => some (if i < n then some (.int (lo + i)) else none)⟩
def inR (i : Int) : Bool := decide (-(2 ^ 62) ≤ i ∧ i < 2 ^ 62)
def iRng1 (f : AF) : IF := fun r h => (f r h).bind fun vs h1 => match vs with
  | [.int n] => if inR n then .ok (srcRng 0 n.toNat) h1 else .bad
  | _ => .bad
def iRng2 (f : AF) : IF := fun r h => (f r h).bind fun vs h1 => match vs with
  | [.int a, .int b] => if inR a && inR b then .ok (srcRng a (b - a).toNat) h1 else .bad
  | _ => .bad
/-- [e for g in f if t]; own: the block's own slots -/
def wipe (r : PEnv) : List Nat → PEnv
  | [] => r
  | v :: vs => (wipe r vs).set v none
def lcG (get : Nat → PH → Option (Option PV)) (g : GF) (t e : EF) (r : PEnv) (d : Nat) : Nat → Nat → PH → Res PV
  | 0, i, h => match get i h with
    | some none => .ok (.ref d) h
    | _ => .bad
  | k + 1, i, h => match get i h with
    | some (some v) => (match g v r h with
      | .ok r1 h1 => (match t r1 h1 with
        | .ok (.bl true) h2 => (match e r1 h2 with
          | .ok y h3 => (match h3[d]? with
            | some (.lst acc) => if acc.length < sizeLine then lcG get g t e r d k (i + 1) (h3.set d (.lst (acc ++ [y]))) else .bad
            | _ => .bad)
          | _ => .bad)
        | .ok (.bl false) h2 => lcG get g t e r d k (i + 1) h2
        | _ => .bad)
      | _ => .bad)
    | _ => .bad
def eLc (f : IF) (g : GF) (t e : EF) (own : List Nat) : EF := fun r h => (f r h).bind fun s h1 => lcG s.get g t e (wipe r own) h1.length s.n 0 (h1 ++ [.lst []])

/-! ### a def -/
def runF (n : Nat) (b : SF) : FF := fun vs h => match b (vs.map some ++ List.replicate (n - vs.length) none) h with
  | .nx _ h1 => .ok .non h1
  | .ret v h1 => .ok v h1
  | .exc e _ h1 => .exc e h1
  | .bad => .bad
end Z
/-! Zs: what pure values and heaps stand for; judgements. -/
namespace Z
open PySem L2

/-- the written part, the world, the classes' addresses and the names of their errors' fields -/
structure Par where
  K : PySem.W.Frag
  w : World
  ca : Nat → Addr
  xf : Nat → Str

/-! ### values -/
/-- a text that may be met -/
def sOk (s : Str) : Bool := PyData.strOk s && decide (s.length ≤ sizeLine)
mutual
def RV (K : PySem.W.Frag) (m : List Addr) (H : Hp) : PV → V → Prop
  | .non, v => v = .non
  | .bl b, v => v = .bl b
  | .int i, v => v = .int i
  | .str s, v => v = .str s ∧ sOk s = true
  | .tup xs, v => ∃ a vs, v = .ref a ∧ SqT K H a vs ∧ RVs K m H xs vs
  | .ref n, v => ∃ a, m[n]? = some a ∧ v = .ref a
def RVs (K : PySem.W.Frag) (m : List Addr) (H : Hp) : List PV → List V → Prop
  | [], vs => vs = []
  | x :: xs, vs => ∃ v r, vs = v :: r ∧ RV K m H x v ∧ RVs K m H xs r
end
/-- the tuples stay -/
def TK (H H' : Hp) : Prop := ∀ a xs, Rd H a (.tup xs) → Rd H' a (.tup xs)
theorem TK.refl (H : Hp) : TK H H := fun _ _ h => h
theorem TK.trans {H H1 H2 : Hp} (a : TK H H1) (b : TK H1 H2) : TK H H2 := fun x xs h => b x xs (a x xs h)
theorem TK.upd {H : Hp} {a : Addr} {o : HO} (h : ∀ xs, ¬ Rd H a (.tup xs)) : TK H (upd H a o) := fun b xs r => by
  have hb : b ≠ a := fun e => h xs (e ▸ r)
  rcases r with r | ⟨u, r⟩
  · exact Or.inl (by rw [upd_ne hb]; exact r)
  · exact Or.inr ⟨u, by rw [upd_ne hb]; exact r⟩
theorem noRd_none {H : Hp} {a : Addr} (h : H a = none) : ∀ xs, ¬ Rd H a (.tup xs) := fun xs r => by
  rcases r with r | ⟨u, r⟩ <;> rw [h] at r <;> cases r
theorem TK.new {H : Hp} {a : Addr} {o : HO} (h : H a = none) : TK H (L2.upd H a o) := TK.upd (noRd_none h)
theorem sqT_tk {K : PySem.W.Frag} {H H' : Hp} {a : Addr} {xs : List V} (t : TK H H') (h : SqT K H a xs) : SqT K H' a xs := by
  rcases h with h | h
  · exact Or.inl (t a xs h)
  · exact Or.inr h
/-- more places, the tuples kept -/
structure Step (m : List Addr) (H : Hp) (m' : List Addr) (H' : Hp) : Prop where
  pre : ∃ t, m' = m ++ t
  tk : TK H H'
theorem Step.refl {m : List Addr} {H : Hp} : Step m H m H := ⟨⟨[], by simp⟩, TK.refl H⟩
theorem Step.trans {m m1 m2 : List Addr} {H H1 H2 : Hp} (a : Step m H m1 H1) (b : Step m1 H1 m2 H2) : Step m H m2 H2 := by
  obtain ⟨t, rfl⟩ := a.pre
  obtain ⟨u, rfl⟩ := b.pre
  exact ⟨⟨t ++ u, by simp⟩, a.tk.trans b.tk⟩
theorem Step.of {m : List Addr} {H H' : Hp} (t : TK H H') : Step m H m H' := ⟨⟨[], by simp⟩, t⟩
theorem pre_get {m t : List Addr} {n : Nat} {a : Addr} (h : m[n]? = some a) : (m ++ t)[n]? = some a := by
  rw [List.getElem?_append_left (List.getElem?_eq_some_iff.mp h).1]
  exact h
section
variable {K : PySem.W.Frag} {m m' : List Addr} {H H' : Hp}
mutual
theorem RV.mono (s : Step m H m' H') : ∀ {x : PV} {v : V}, RV K m H x v → RV K m' H' x v
  | .non, _, h => h
  | .bl _, _, h => h
  | .int _, _, h => h
  | .str _, _, h => h
  | .tup xs, v, h => by
    rw [RV] at h ⊢
    obtain ⟨a, vs, e, q, r⟩ := h
    exact ⟨a, vs, e, sqT_tk s.tk q, RVs.mono s r⟩
  | .ref n, v, h => by
    rw [RV] at h ⊢
    obtain ⟨a, e, q⟩ := h
    obtain ⟨t, rfl⟩ := s.pre
    exact ⟨a, pre_get e, q⟩
theorem RVs.mono (s : Step m H m' H') : ∀ {xs : List PV} {vs : List V}, RVs K m H xs vs → RVs K m' H' xs vs
  | [], _, h => h
  | x :: xs, vs, h => by
    rw [RVs] at h ⊢
    obtain ⟨v, r, e, a, b⟩ := h
    exact ⟨v, r, e, RV.mono s a, RVs.mono s b⟩
end
theorem RVs.nil : RVs K m H [] [] := by rw [RVs]
theorem RVs.cons {x : PV} {v : V} {xs : List PV} {vs : List V} (a : RV K m H x v) (b : RVs K m H xs vs) : RVs K m H (x :: xs) (v :: vs) := by
  rw [RVs]; exact ⟨v, vs, rfl, a, b⟩
theorem RVs.length : ∀ {xs : List PV} {vs : List V}, RVs K m H xs vs → vs.length = xs.length
  | [], _, h => by rw [RVs] at h; subst h; rfl
  | x :: xs, vs, h => by
    rw [RVs] at h
    obtain ⟨v, r, rfl, _, b⟩ := h
    simp [RVs.length b]
theorem RVs.get : ∀ {xs : List PV} {vs : List V} {i : Nat} {x : PV}, RVs K m H xs vs → xs[i]? = some x → ∃ v, vs[i]? = some v ∧ RV K m H x v
  | [], _, _, _, _, e => by simp at e
  | y :: xs, vs, i, x, h, e => by
    rw [RVs] at h
    obtain ⟨v, r, rfl, a, b⟩ := h
    cases i with
    | zero => simp at e; subst e; exact ⟨v, rfl, a⟩
    | succ i =>
      obtain ⟨u, h1, h2⟩ := RVs.get (i := i) (x := x) b (by simpa using e)
      exact ⟨u, by simpa using h1, h2⟩
theorem RVs.getV {xs : List PV} {vs : List V} {i : Nat} {v : V} (h : RVs K m H xs vs) (e : vs[i]? = some v) : ∃ x, xs[i]? = some x ∧ RV K m H x v := by
  have hl : i < xs.length := by rw [← h.length]; exact (List.getElem?_eq_some_iff.mp e).1
  obtain ⟨u, h1, h2⟩ := h.get (List.getElem?_eq_getElem hl)
  rw [e] at h1; cases h1
  exact ⟨_, List.getElem?_eq_getElem hl, h2⟩
theorem RVs.append : ∀ {xs ys : List PV} {vs us : List V}, RVs K m H xs vs → RVs K m H ys us → RVs K m H (xs ++ ys) (vs ++ us)
  | [], _, _, _, h, h' => by rw [RVs] at h; subst h; exact h'
  | x :: xs, ys, vs, us, h, h' => by
    rw [RVs] at h
    obtain ⟨v, r, rfl, a, b⟩ := h
    exact RVs.cons a (RVs.append b h')
theorem RVs.take : ∀ {xs : List PV} {vs : List V} (n : Nat), RVs K m H xs vs → RVs K m H (xs.take n) (vs.take n)
  | _, _, 0, _ => by simp [RVs]
  | [], _, n + 1, h => by rw [RVs] at h; subst h; simp [RVs]
  | x :: xs, vs, n + 1, h => by
    rw [RVs] at h
    obtain ⟨v, r, rfl, a, b⟩ := h
    exact RVs.cons a (RVs.take n b)
theorem RVs.drop : ∀ {xs : List PV} {vs : List V} (n : Nat), RVs K m H xs vs → RVs K m H (xs.drop n) (vs.drop n)
  | _, _, 0, h => h
  | [], _, n + 1, h => by rw [RVs] at h; subst h; simp [RVs]
  | x :: xs, vs, n + 1, h => by
    rw [RVs] at h
    obtain ⟨v, r, rfl, a, b⟩ := h
    simpa using RVs.drop n b
theorem RVs.set : ∀ {xs : List PV} {vs : List V} {x : PV} {v : V} (n : Nat), RVs K m H xs vs → RV K m H x v → RVs K m H (xs.set n x) (vs.set n v)
  | [], _, _, _, n, h, _ => by rw [RVs] at h; subst h; simp [RVs]
  | y :: xs, vs, x, v, n, h, q => by
    rw [RVs] at h
    obtain ⟨u, r, rfl, a, b⟩ := h
    cases n with
    | zero => exact RVs.cons q b
    | succ n => exact RVs.cons a (RVs.set n b q)
theorem RVs.reverse : ∀ {xs : List PV} {vs : List V}, RVs K m H xs vs → RVs K m H xs.reverse vs.reverse
  | [], _, h => by rw [RVs] at h; subst h; simp [RVs]
  | x :: xs, vs, h => by
    rw [RVs] at h
    obtain ⟨v, r, rfl, a, b⟩ := h
    rw [List.reverse_cons, List.reverse_cons]
    exact RVs.append (RVs.reverse b) (RVs.cons a RVs.nil)
theorem RVs.inv1 {x : PV} {vs : List V} (h : RVs K m H [x] vs) : ∃ v, vs = [v] ∧ RV K m H x v := by
  rw [RVs] at h
  obtain ⟨v, r, rfl, a, b⟩ := h
  rw [RVs] at b; subst b
  exact ⟨v, rfl, a⟩
theorem RVs.inv2 {x y : PV} {vs : List V} (h : RVs K m H [x, y] vs) : ∃ v u, vs = [v, u] ∧ RV K m H x v ∧ RV K m H y u := by
  rw [RVs] at h
  obtain ⟨v, r, rfl, a, b⟩ := h
  obtain ⟨u, rfl, q⟩ := b.inv1
  exact ⟨v, u, rfl, a, q⟩
end

/-! ### keys -/
mutual
/-- a value as a key of a dict -/
def nk : PV → NestedKey
  | .non => .none
  | .int i => .num i
  | .str s => .text s
  | .tup xs => .tup (nks xs)
  | .bl _ => .none
  | .ref _ => .none
def nks : List PV → List NestedKey
  | [] => []
  | x :: xs => nk x :: nks xs
end
mutual
/-- at most so deep, of None, whole numbers, texts, tuples -/
def kOk : Nat → PV → Bool
  | _, .non => true
  | _, .int _ => true
  | _, .str _ => true
  | 0, .tup _ => false
  | n + 1, .tup xs => kOks n xs
  | _, .bl _ => false
  | _, .ref _ => false
def kOks : Nat → List PV → Bool
  | _, [] => true
  | n, x :: xs => kOk n x && kOks n xs
end

/-! ### objects -/
def FsR (K : PySem.W.Frag) (m : List Addr) (H : Hp) : List (Str × PV) → List (Str × V) → Prop
  | [], l => l = []
  | (f, x) :: r, l => ∃ v t, l = (f, v) :: t ∧ RV K m H x v ∧ FsR K m H r t
/-- a pure value and a value of the machine -/
def RU (K : PySem.W.Frag) (m : List Addr) (H : Hp) (x : PV) (u : Value) : Prop := ∃ v, RV K m H x v ∧ RelV v u
def KvR (G : Par) (m : List Addr) (H : Hp) : List (PV × PV) → List DictEntry → Prop
  | [], l => l = []
  | (k, x) :: r, l => ∃ e t, l = e :: t ∧ e.hash = (nk k).hash G.w ∧ RU G.K m H k e.key ∧ RU G.K m H x e.val ∧ KvR G m H r t
/-- at a stands a dict of these entries -/
def dictAt (a : Addr) (l : List DictEntry) (ep : Nat) : Heap → Prop := fun h => ∃ o es, h.get? a = some o ∧ o.ExactDict ∧ o.data = .dict es ep ∧ es.toList = l
/-- each key once, all of them keys -/
def KvOk (kvs : List (PV × PV)) : Prop := (kvs.map (·.1)).Nodup ∧ kvs.length ≤ sizeLine ∧ ∀ p ∈ kvs, kOk 8 p.1 = true
/-- the script: frozen, or an object of the written part -/
def FrzL (K : PySem.W.Frag) (H : Hp) (a : Addr) (vs : List V) : Prop := (∃ o, H a = some (.frz o (.lst vs))) ∨
  ∃ (o : Obj) (its : Array Value) (n : Nat), K.lookup a = some o ∧ o.cls = .type "list" ∧ o.dict = none ∧ o.data = .seq its n ∧ its.size ≤ sizeLine ∧ Vals vs its.toList
theorem FrzL.sq {K : PySem.W.Frag} {H : Hp} {a : Addr} {vs : List V} (h : FrzL K H a vs) : SqL K H a vs := by
  rcases h with h | h
  · exact Or.inl (Or.inr h)
  · exact Or.inr h
def RO (G : Par) (m : List Addr) (H : Hp) (a : Addr) : PO → Prop
  | .lst xs => ∃ vs, H a = some (.lst vs) ∧ RVs G.K m H xs vs
  | .frz xs => ∃ vs, FrzL G.K H a vs ∧ RVs G.K m H xs vs
  | .dct ep kvs => (a == sysModules) = false ∧ KvOk kvs ∧ ∃ l, H a = some (.ext (dictAt a l ep)) ∧ KvR G m H kvs l
  | .ins c fs => ∃ dx gs, H a = some (.ins (G.ca c) dx gs) ∧ FsR G.K m H fs gs
theorem FsR.mono {K : PySem.W.Frag} {m m' : List Addr} {H H' : Hp} (s : Step m H m' H') : ∀ {fs : List (Str × PV)} {gs : List (Str × V)}, FsR K m H fs gs → FsR K m' H' fs gs
  | [], _, h => h
  | (f, x) :: r, l, h => by
    rw [FsR] at h ⊢
    obtain ⟨v, t, e, a, b⟩ := h
    exact ⟨v, t, e, a.mono s, FsR.mono s b⟩
theorem RU.mono {K : PySem.W.Frag} {m m' : List Addr} {H H' : Hp} (s : Step m H m' H') {x : PV} {u : Value} (h : RU K m H x u) : RU K m' H' x u :=
  let ⟨v, a, b⟩ := h; ⟨v, a.mono s, b⟩
theorem KvR.mono {G : Par} {m m' : List Addr} {H H' : Hp} (s : Step m H m' H') : ∀ {kvs : List (PV × PV)} {l : List DictEntry}, KvR G m H kvs l → KvR G m' H' kvs l
  | [], _, h => h
  | (k, x) :: r, l, h => by
    rw [KvR] at h ⊢
    obtain ⟨e, t, el, eh, a, b, c⟩ := h
    exact ⟨e, t, el, eh, a.mono s, b.mono s, KvR.mono s c⟩
theorem FsR.lookup {K : PySem.W.Frag} {m : List Addr} {H : Hp} {name : Str} : ∀ {fs : List (Str × PV)} {gs : List (Str × V)}, FsR K m H fs gs → (fs.lookup name = none → gs.lookup name = none) ∧ ∀ x, fs.lookup name = some x → ∃ v, gs.lookup name = some v ∧ RV K m H x v
  | [], _, h => by rw [FsR] at h; subst h; exact ⟨fun _ => rfl, fun x e => by simp at e⟩
  | (f, x) :: r, l, h => by
    rw [FsR] at h
    obtain ⟨v, t, rfl, a, b⟩ := h
    have ih := FsR.lookup (name := name) b
    by_cases hf : name = f
    · subst hf
      refine ⟨fun e => ?_, fun y e => ?_⟩
      · simp [List.lookup_cons] at e
      · simp [List.lookup_cons] at e
        subst e
        exact ⟨v, by simp [List.lookup_cons], a⟩
    · have hb : (name == f) = false := by simpa using hf
      simp only [List.lookup_cons, hb]
      exact ih
theorem FsR.put {K : PySem.W.Frag} {m : List Addr} {H : Hp} {name : Str} {x : PV} {v : V} (q : RV K m H x v) : ∀ {fs : List (Str × PV)} {gs : List (Str × V)}, FsR K m H fs gs → FsR K m H (setFld.putFP name x fs) (putF name v gs)
  | [], _, h => by
    rw [FsR] at h; subst h
    show FsR K m H [(name, x)] [(name, v)]
    exact ⟨v, [], rfl, q, rfl⟩
  | (f, y) :: r, l, h => by
    rw [FsR] at h
    obtain ⟨u, t, rfl, a, b⟩ := h
    unfold setFld.putFP putF
    by_cases hf : f = name
    · rw [if_pos hf, if_pos hf]; exact ⟨v, t, rfl, q, b⟩
    · rw [if_neg hf, if_neg hf]; exact ⟨u, _, rfl, a, FsR.put q b⟩
theorem FsR.length {K : PySem.W.Frag} {m : List Addr} {H : Hp} : ∀ {fs : List (Str × PV)} {gs : List (Str × V)}, FsR K m H fs gs → gs.length = fs.length
  | [], _, h => by rw [FsR] at h; subst h; rfl
  | (f, x) :: r, l, h => by
    rw [FsR] at h
    obtain ⟨v, t, rfl, a, b⟩ := h
    simp [FsR.length b]

/-! ### heaps -/
def isFrz (h : PH) (n : Nat) : Bool := match h[n]? with
  | some (.frz _) => true
  | _ => false
structure Sim (G : Par) (m : List Addr) (h : PH) (H : Hp) : Prop where
  len : m.length = h.length
  nd : ∀ (n n' : Nat) (a : Addr), m[n]? = some a → m[n']? = some a → isFrz h n = false → isFrz h n' = false → n = n'
  ob : ∀ (n : Nat) (o : PO), h[n]? = some o → ∃ a, m[n]? = some a ∧ RO G m H a o
section
variable {G : Par} {m m' : List Addr} {H H' : Hp} {h : PH}
/-- an object stays while its place and the tuples stay -/
theorem RO.keep (s : Step m H m' H') {a : Addr} {o : PO} (e : ∀ u, H a = some u → H' a = some u) (q : RO G m H a o) : RO G m' H' a o := by
  cases o with
  | lst xs => obtain ⟨vs, x, r⟩ := q; exact ⟨vs, e _ x, r.mono s⟩
  | frz xs =>
    obtain ⟨vs, x, r⟩ := q
    refine ⟨vs, ?_, r.mono s⟩
    rcases x with ⟨o, x⟩ | x
    · exact Or.inl ⟨o, e _ x⟩
    · exact Or.inr x
  | dct ep kvs => obtain ⟨z, y, l, x, r⟩ := q; exact ⟨z, y, l, e _ x, r.mono s⟩
  | ins c fs => obtain ⟨dx, gs, x, r⟩ := q; exact ⟨dx, gs, e _ x, r.mono s⟩
theorem isFrz_app {h : PH} {o : PO} {n : Nat} (hn : n < h.length) : isFrz (h ++ [o]) n = isFrz h n := by
  unfold isFrz; rw [List.getElem?_append_left hn]
/-- a tuple, or what is not told, is laid -/
theorem Sim.tk (S : Sim G m h H) (t : TK H H') (e : ∀ (n : Nat) (o : PO) a u, h[n]? = some o → m[n]? = some a → H a = some u → H' a = some u) : Sim G m h H' :=
  ⟨S.len, S.nd, fun n o q => by
    obtain ⟨a, ha, r⟩ := S.ob n o q
    exact ⟨a, ha, r.keep (Step.of t) fun u z => e n o a u q ha z⟩⟩
theorem Sim.tup (S : Sim G m h H) {p : Addr} {vs : List V} (hp : H p = none) : Sim G m h (upd H p (.tup vs)) :=
  S.tk (TK.new hp) fun n o a u _ _ z => by rw [upd_ne (ne_of_none z hp)]; exact z
/-- a new object at p -/
theorem Sim.new (S : Sim G m h H) {p : Addr} {o : PO} (hp : H p = none) (t : TK H H') (e : ∀ a u, H a = some u → H' a = some u) (q : RO G (m ++ [p]) H' p o) (hf : ∀ xs, o ≠ .frz xs) : Sim G (m ++ [p]) (h ++ [o]) H' := by
  have st : Step m H (m ++ [p]) H' := ⟨⟨[p], rfl⟩, t⟩
  have old : ∀ n a, m[n]? = some a → isFrz h n = false → a ≠ p := fun n a ha hn z => by
    subst z
    have hl : n < h.length := by rw [← S.len]; exact (List.getElem?_eq_some_iff.mp ha).1
    obtain ⟨b, hb, r⟩ := S.ob n _ (List.getElem?_eq_getElem hl)
    rw [ha] at hb; cases hb
    cases ho : h[n]'hl with
    | lst xs => rw [ho] at r; obtain ⟨vs, x, _⟩ := r; rw [hp] at x; cases x
    | frz xs => unfold isFrz at hn; rw [List.getElem?_eq_getElem hl, ho] at hn; cases hn
    | dct ep kvs => rw [ho] at r; obtain ⟨_, _, l, x, _⟩ := r; rw [hp] at x; cases x
    | ins c fs => rw [ho] at r; obtain ⟨dx, gs, x, _⟩ := r; rw [hp] at x; cases x
  refine ⟨by simp [S.len], fun n n' a h1 h2 f1 f2 => ?_, fun n o' q' => ?_⟩
  · have b1 : n < m.length + 1 := by simpa using (List.getElem?_eq_some_iff.mp h1).1
    have b2 : n' < m.length + 1 := by simpa using (List.getElem?_eq_some_iff.mp h2).1
    by_cases c1 : n < m.length
    · rw [List.getElem?_append_left c1] at h1
      rw [isFrz_app (by rw [← S.len]; exact c1)] at f1
      by_cases c2 : n' < m.length
      · rw [List.getElem?_append_left c2] at h2
        rw [isFrz_app (by rw [← S.len]; exact c2)] at f2
        exact S.nd n n' a h1 h2 f1 f2
      · have e2 : n' = m.length := by omega
        subst e2
        simp at h2
        exact absurd h2.symm (old n a h1 f1)
    · have e1 : n = m.length := by omega
      subst e1
      simp at h1
      by_cases c2 : n' < m.length
      · rw [List.getElem?_append_left c2] at h2
        rw [isFrz_app (by rw [← S.len]; exact c2)] at f2
        exact absurd h1.symm (old n' a h2 f2)
      · omega
  · by_cases c : n < h.length
    · rw [List.getElem?_append_left c] at q'
      obtain ⟨a, ha, r⟩ := S.ob n o' q'
      exact ⟨a, pre_get ha, r.keep st fun u z => e a u z⟩
    · have b : n < h.length + 1 := by simpa using (List.getElem?_eq_some_iff.mp q').1
      have e1 : n = h.length := by omega
      subst e1
      simp at q'
      subst q'
      exact ⟨p, by rw [← S.len]; simp, q⟩
/-- the object at place n is written -/
theorem Sim.set (S : Sim G m h H) {n : Nat} {a : Addr} {o o' : PO} {u' : HO} (hn : h[n]? = some o) (ha : m[n]? = some a) (hf : ∀ xs, o ≠ .frz xs) (hf' : ∀ xs, o' ≠ .frz xs) (hr : ∀ xs, ¬ Rd H a (.tup xs)) (hz : ∀ z xs, H a ≠ some (.frz z xs))
    (q : RO G m (upd H a u') a o') : Sim G m (h.set n o') (upd H a u') := by
  have hl : n < h.length := (List.getElem?_eq_some_iff.mp hn).1
  have fr : ∀ k, isFrz (h.set n o') k = isFrz h k := fun k => by
    unfold isFrz
    by_cases hk : k = n
    · subst hk
      rw [List.getElem?_set_self hl, hn]
      cases o with
      | frz xs => exact absurd rfl (hf xs)
      | _ => cases o' with
        | frz xs => exact absurd rfl (hf' xs)
        | _ => rfl
    · rw [List.getElem?_set_ne (Ne.symm hk)]
  have fn : isFrz h n = false := by
    unfold isFrz; rw [hn]
    cases o with
    | frz xs => exact absurd rfl (hf xs)
    | _ => rfl
  refine ⟨by simp [S.len], fun k k' b h1 h2 f1 f2 => S.nd k k' b h1 h2 (by rw [← fr k]; exact f1) (by rw [← fr k']; exact f2), fun k ok qk => ?_⟩
  by_cases hk : k = n
  · subst hk
    rw [List.getElem?_set_self hl] at qk
    cases qk
    exact ⟨a, ha, q⟩
  · rw [List.getElem?_set_ne (Ne.symm hk)] at qk
    obtain ⟨b, hb, r⟩ := S.ob k ok qk
    refine ⟨b, hb, ?_⟩
    by_cases hba : b = a
    · subst hba
      -- only a frozen one of the written part may share the place
      have fk : isFrz h k = true := by
        cases z : isFrz h k with
        | true => rfl
        | false => exact absurd (S.nd k n b hb ha z fn) hk
      cases ok with
      | frz xs =>
        obtain ⟨vs, x, r⟩ := r
        refine ⟨vs, ?_, r.mono (Step.of (TK.upd hr))⟩
        rcases x with ⟨z, x⟩ | x
        · exact absurd x (hz z _)
        · exact Or.inr x
      | lst xs => unfold isFrz at fk; rw [qk] at fk; cases fk
      | dct ep xs => unfold isFrz at fk; rw [qk] at fk; cases fk
      | ins c xs => unfold isFrz at fk; rw [qk] at fk; cases fk
    · exact r.keep (Step.of (TK.upd hr)) fun u z => by rw [upd_ne hba]; exact z
theorem Sim.lst (S : Sim G m h H) {n : Nat} {xs : List PV} (hn : h[n]? = some (.lst xs)) : ∃ a vs, m[n]? = some a ∧ H a = some (.lst vs) ∧ RVs G.K m H xs vs := by
  obtain ⟨a, ha, vs, x, r⟩ := S.ob n _ hn
  exact ⟨a, vs, ha, x, r⟩
theorem noRd_lst {a : Addr} {vs : List V} (x : H a = some (.lst vs)) : ∀ xs, ¬ Rd H a (.tup xs) := fun xs r => by
  rcases r with r | ⟨u, r⟩ <;> rw [x] at r <;> cases r
theorem Sim.setL (S : Sim G m h H) {n : Nat} {a : Addr} {xs ys : List PV} {vs us : List V} (hn : h[n]? = some (.lst xs)) (ha : m[n]? = some a) (x : H a = some (.lst vs)) (r : RVs G.K m H ys us) : Sim G m (h.set n (.lst ys)) (upd H a (.lst us)) :=
  S.set hn ha (fun _ e => by cases e) (fun _ e => by cases e) (noRd_lst x) (fun z xs e => by rw [x] at e; cases e) ⟨us, upd_same, r.mono (Step.of (TK.upd (noRd_lst x)))⟩
theorem Sim.newL (S : Sim G m h H) {p : Addr} {ys : List PV} {us : List V} (hp : H p = none) (r : RVs G.K m H ys us) : Sim G (m ++ [p]) (h ++ [.lst ys]) (upd H p (.lst us)) :=
  S.new hp (TK.new hp) (fun a u z => by rw [upd_ne (ne_of_none z hp)]; exact z) ⟨us, upd_same, r.mono ⟨⟨[p], rfl⟩, TK.new hp⟩⟩ fun _ e => by cases e
/-- a list or the script, read -/
theorem Sim.list (S : Sim G m h H) {n : Nat} {xs : List PV} (hn : listAt h n = some xs) : ∃ a vs, m[n]? = some a ∧ SqL G.K H a vs ∧ RVs G.K m H xs vs := by
  unfold listAt at hn
  split at hn
  · rename_i ys e
    cases hn
    obtain ⟨a, vs, ha, x, r⟩ := S.lst e
    exact ⟨a, vs, ha, Or.inl (Or.inl x), r⟩
  · rename_i ys e
    cases hn
    obtain ⟨a, ha, vs, x, r⟩ := S.ob n _ e
    exact ⟨a, vs, ha, x.sq, r⟩
  · cases hn
/-- a sequence by value: the address, the items -/
theorem Sim.seq (S : Sim G m h H) {x : PV} {v : V} {xs : List PV} (hx : seqOf h x = some xs) (r : RV G.K m H x v) : ∃ a vs, v = .ref a ∧ (SqL G.K H a vs ∨ SqT G.K H a vs) ∧ RVs G.K m H xs vs := by
  cases x with
  | tup ys =>
    cases hx
    rw [RV] at r
    obtain ⟨a, vs, rfl, q, rr⟩ := r
    exact ⟨a, vs, rfl, Or.inr q, rr⟩
  | ref n =>
    rw [RV] at r
    obtain ⟨a, ha, rfl⟩ := r
    obtain ⟨b, vs, hb, q, rr⟩ := S.list hx
    rw [ha] at hb; cases hb
    exact ⟨a, vs, rfl, Or.inl q, rr⟩
  | _ => cases hx
end

/-! ### slots -/
def REnv (K : PySem.W.Frag) (m : List Addr) (H : Hp) (r : PEnv) (σ : L2.St) : Prop := r.length = σ.length ∧ ∀ (i : Nat) (x : PV), r[i]? = some (some x) → ∃ v, σ[i]? = some (some v) ∧ RV K m H x v
theorem REnv.mono {K : PySem.W.Frag} {m m' : List Addr} {H H' : Hp} {r : PEnv} {σ : L2.St} (s : Step m H m' H') (e : REnv K m H r σ) : REnv K m' H' r σ :=
  ⟨e.1, fun i x h => let ⟨v, a, b⟩ := e.2 i x h; ⟨v, a, b.mono s⟩⟩
theorem REnv.set {K : PySem.W.Frag} {m : List Addr} {H : Hp} {r : PEnv} {σ : L2.St} (e : REnv K m H r σ) {i : Nat} {x : PV} {v : V} (hi : i < r.length) (q : RV K m H x v) : REnv K m H (r.set i (some x)) (σ.set i (some v)) := by
  refine ⟨by simp [e.1], fun j y h => ?_⟩
  by_cases hj : j = i
  · subst hj
    rw [List.getElem?_set_self hi] at h
    cases h
    exact ⟨v, List.getElem?_set_self (by rw [← e.1]; exact hi), q⟩
  · rw [List.getElem?_set_ne (Ne.symm hj)] at h
    obtain ⟨u, a, b⟩ := e.2 j y h
    exact ⟨u, by rw [List.getElem?_set_ne (Ne.symm hj)]; exact a, b⟩
theorem wipe_length (r : PEnv) : ∀ l : List Nat, (wipe r l).length = r.length
  | [] => rfl
  | v :: vs => by rw [wipe, List.length_set]; exact wipe_length r vs
theorem REnv.wipe {K : PySem.W.Frag} {m : List Addr} {H : Hp} {r : PEnv} {σ : L2.St} (e : REnv K m H r σ) : ∀ l : List Nat, REnv K m H (Z.wipe r l) (L2.wipe σ l)
  | [] => e
  | v :: vs => by
    have ih := REnv.wipe e vs
    rw [Z.wipe, L2.wipe]
    refine ⟨by simp [ih.1], fun j y h => ?_⟩
    by_cases hj : j = v
    · subst hj
      have hl : j < (Z.wipe r vs).length := by
        have := (List.getElem?_eq_some_iff.mp h).1
        simpa using this
      rw [List.getElem?_set_self hl] at h
      cases h
    · rw [List.getElem?_set_ne (Ne.symm hj)] at h
      obtain ⟨u, a, b⟩ := ih.2 j y h
      exact ⟨u, by rw [List.getElem?_set_ne (Ne.symm hj)]; exact a, b⟩
end Z
/-! Zr: the judgements, expressions, statements. -/
namespace Z
open PySem L2

def RX (G : Par) (m : List Addr) (H : Hp) (e : Exn) (d : Option Addr) : Prop := match e.f with
  | none => d = none
  | some x => ∃ (dd : Addr) (v : V), d = some dd ∧ H dd = some (.xd [(G.xf e.c, v)]) ∧ RV G.K m H x v
/-- behind an expression -/
def Aft (G : Par) (W : WX) (σ : L2.St) (m : List Addr) (H : Hp) (r : Res PV) (Q : VK) : Prop := match r with
  | .ok x h' => ∀ m' H' v, Step m H m' H' → Sim G m' h' H' → RV G.K m' H' x v → Q v H'
  | .exc e h' => ∀ m' H' d, Step m H m' H' → Sim G m' h' H' → RX G m' H' e d → W (.ref (G.ca e.c)) d σ H'
  | .bad => False
def AftA (G : Par) (W : WX) (σ : L2.St) (m : List Addr) (H : Hp) (r : Res (List PV)) (Q : List V → Hp → Prop) : Prop := match r with
  | .ok x h' => ∀ m' H' v, Step m H m' H' → Sim G m' h' H' → RVs G.K m' H' x v → Q v H'
  | .exc e h' => ∀ m' H' d, Step m H m' H' → Sim G m' h' H' → RX G m' H' e d → W (.ref (G.ca e.c)) d σ H'
  | .bad => False
def AftO (G : Par) (W : WX) (σ : L2.St) (m : List Addr) (H : Hp) (r : Res (Option Int)) (Q : Option Int → Hp → Prop) : Prop := match r with
  | .ok x h' => ∀ m' H', Step m H m' H' → Sim G m' h' H' → Q x H'
  | .exc e h' => ∀ m' H' d, Step m H m' H' → Sim G m' h' H' → RX G m' H' e d → W (.ref (G.ca e.c)) d σ H'
  | .bad => False
/-- behind a primitive -/
def AftP (G : Par) (m : List Addr) (H : Hp) (r : Rp PV) (Q : VK) : Prop := match r with
  | some (x, h') => ∀ m' H' v, Step m H m' H' → Sim G m' h' H' → RV G.K m' H' x v → Q v H'
  | none => False
/-- behind a statement -/
def AftS (G : Par) (W : WX) (m : List Addr) (H : Hp) (r : SR) (D : Ends) : Prop := match r with
  | .nx e h' => ∀ m' H' σ', Step m H m' H' → Sim G m' h' H' → REnv G.K m' H' e σ' → D.nx σ' H'
  | .ret x h' => ∀ m' H' v, Step m H m' H' → Sim G m' h' H' → RV G.K m' H' x v → D.rt v H'
  | .exc x e h' => ∀ m' H' σ' d, Step m H m' H' → Sim G m' h' H' → REnv G.K m' H' e σ' → RX G m' H' x d → W (.ref (G.ca x.c)) d σ' H'
  | .bad => False
def tE (G : Par) (W : WX) (f : EF) : TE := fun σ H Q => ∃ m r h, Sim G m h H ∧ REnv G.K m H r σ ∧ Aft G W σ m H (f r h) Q
/-- as a test -/
def tT (G : Par) (W : WX) (f : EF) : TT := fun σ H Q => ∃ m r h, Sim G m h H ∧ REnv G.K m H r σ ∧ Aft G W σ m H (f r h) fun v H' => ∃ b, v = .bl b ∧ Q b H'
def tA (G : Par) (W : WX) (f : AF) : TA := fun σ H Q => ∃ m r h, Sim G m h H ∧ REnv G.K m H r σ ∧ AftA G W σ m H (f r h) Q
def tO (G : Par) (W : WX) (f : OF) : TO := fun σ H Q => ∃ m r h, Sim G m h H ∧ REnv G.K m H r σ ∧ AftO G W σ m H (f r h) Q
def tS (G : Par) (W : WX) (f : SF) : TS := fun D σ H => ∃ m r h, Sim G m h H ∧ REnv G.K m H r σ ∧ AftS G W m H (f r h) D
abbrev JE (X : Cx) (G : Par) (W : WX) (e : Expr) (f : EF) : Prop := PE X e (tE G W f)
abbrev JT (X : Cx) (G : Par) (W : WX) (e : Expr) (f : EF) : Prop := PT X e (tT G W f)
abbrev JW (X : Cx) (G : Par) (W : WX) (e : Expr) (f : EF) : Prop := PW X e (tT G W f)
abbrev JA (X : Cx) (G : Par) (W : WX) (es : List Expr) (f : AF) : Prop := PA X es (tA G W f)
abbrev JO (X : Cx) (G : Par) (W : WX) (e : Option Expr) (f : OF) : Prop := L2.PO X e (tO G W f)
abbrev JS (X : Cx) (G : Par) (W : WX) (st : Stmt) (f : SF) : Prop := PS X st (tS G W f)
abbrev JSs (X : Cx) (G : Par) (W : WX) (st : List Stmt) (f : SF) : Prop := PSs X st (tS G W f)

/-! ### weaker readings -/
theorem pe_imp {X : Cx} {e : Expr} {t u : TE} (h : PE X e t) (i : ∀ σ H Q, u σ H Q → t σ H Q) : PE X e u := ⟨fun pins s σ H Q I q => h.run pins s σ H Q I (i σ H Q q)⟩
theorem pt_imp {X : Cx} {e : Expr} {t u : TT} (h : PT X e t) (i : ∀ σ H Q, u σ H Q → t σ H Q) : PT X e u := ⟨fun pins s σ H Q I q => h.run pins s σ H Q I (i σ H Q q)⟩
theorem pw_imp {X : Cx} {e : Expr} {t u : TT} (h : PW X e t) (i : ∀ σ H Q, u σ H Q → t σ H Q) : PW X e u := ⟨fun w pins s σ H Q I q => h.run w pins s σ H Q I (i σ H Q q)⟩
theorem pa_imp {X : Cx} {e : List Expr} {t u : TA} (h : PA X e t) (i : ∀ σ H Q, u σ H Q → t σ H Q) : PA X e u := ⟨fun p pins s σ H Q I q => h.run p pins s σ H Q I (i σ H Q q)⟩
theorem po_imp {X : Cx} {e : Option Expr} {t u : TO} (h : L2.PO X e t) (i : ∀ σ H Q, u σ H Q → t σ H Q) : L2.PO X e u := ⟨fun pins s σ H Q I q => h.run pins s σ H Q I (i σ H Q q)⟩
theorem ps_imp {X : Cx} {e : Stmt} {t u : TS} (h : PS X e t) (i : ∀ D σ H, u D σ H → t D σ H) : PS X e u := ⟨fun pins s σ H D I q => h.run pins s σ H D I (i D σ H q)⟩
theorem pss_imp {X : Cx} {e : List Stmt} {t u : TS} (h : PSs X e t) (i : ∀ D σ H, u D σ H → t D σ H) : PSs X e u := ⟨fun pins s σ H D I q => h.run pins s σ H D I (i D σ H q)⟩

section
variable {G : Par} {W : WX} {σ : L2.St} {m m1 : List Addr} {H H1 : Hp}
theorem Aft.step (s : Step m H m1 H1) : ∀ {r : Res PV} {Q : VK}, Aft G W σ m H r Q → Aft G W σ m1 H1 r Q
  | .ok _ _, _, h => fun m' H' v t => h m' H' v (s.trans t)
  | .exc _ _, _, h => fun m' H' d t => h m' H' d (s.trans t)
  | .bad, _, h => h
theorem AftP.step (s : Step m H m1 H1) : ∀ {r : Rp PV} {Q : VK}, AftP G m H r Q → AftP G m1 H1 r Q
  | some (_, _), _, h => fun m' H' v t => h m' H' v (s.trans t)
  | none, _, h => h
theorem AftS.step (s : Step m H m1 H1) {D : Ends} : ∀ {r : SR}, AftS G W m H r D → AftS G W m1 H1 r D
  | .nx _ _, h => fun m' H' σ' t => h m' H' σ' (s.trans t)
  | .ret _ _, h => fun m' H' v t => h m' H' v (s.trans t)
  | .exc _ _ _, h => fun m' H' σ' d t => h m' H' σ' d (s.trans t)
  | .bad, h => h
theorem Aft.p {p : Rp PV} {Q : VK} (h : Aft G W σ m H p.r Q) : AftP G m H p Q := by
  cases p with
  | none => exact h
  | some q => obtain ⟨x, h'⟩ := q; exact h
theorem AftP.of {x : PV} {v : V} {h : PH} {Q : VK} (S : Sim G m h H) (r : RV G.K m H x v) (q : AftP G m H (some (x, h)) Q) : Q v H := q m H v Step.refl S r
/-- one part, then the rest -/
theorem Aft.bind {r : Res PV} {f : PV → PH → Res PV} {Q : VK} (a : Aft G W σ m H (r.bind f) Q) : Aft G W σ m H r fun v H' => ∃ m' x h', Step m H m' H' ∧ Sim G m' h' H' ∧ RV G.K m' H' x v ∧ Aft G W σ m' H' (f x h') Q := by
  cases r with
  | ok x h1 => exact fun m' H' v s S q => ⟨m', x, h1, s, S, q, Aft.step s a⟩
  | exc e h1 => exact a
  | bad => exact a
theorem Aft.bindA {r : Res (List PV)} {f : List PV → PH → Res PV} {Q : VK} (a : Aft G W σ m H (r.bind f) Q) : AftA G W σ m H r fun v H' => ∃ m' x h', Step m H m' H' ∧ Sim G m' h' H' ∧ RVs G.K m' H' x v ∧ Aft G W σ m' H' (f x h') Q := by
  cases r with
  | ok x h1 => exact fun m' H' v s S q => ⟨m', x, h1, s, S, q, Aft.step s a⟩
  | exc e h1 => exact a
  | bad => exact a
theorem Aft.bindO {r : Res (Option Int)} {f : Option Int → PH → Res PV} {Q : VK} (a : Aft G W σ m H (r.bind f) Q) : AftO G W σ m H r fun x H' => ∃ m' h', Step m H m' H' ∧ Sim G m' h' H' ∧ Aft G W σ m' H' (f x h') Q := by
  cases r with
  | ok x h1 => exact fun m' H' s S => ⟨m', h1, s, S, Aft.step s a⟩
  | exc e h1 => exact a
  | bad => exact a
end

/-! ### primitives by rules -/
def Ok1 (G : Par) (r : V → Hp → VK → Prop) (p : P1) : Prop := ∀ m h H x v Q, Sim G m h H → RV G.K m H x v → AftP G m H (p x h) Q → r v H Q
def Ok2 (G : Par) (r : R2) (p : P2) : Prop := ∀ m h H x y v u Q, Sim G m h H → RV G.K m H x v → RV G.K m H y u → AftP G m H (p x y h) Q → r v u H Q
def OkN (G : Par) (r : List V → Hp → VK → Prop) (p : PN) : Prop := ∀ m h H xs vs Q, Sim G m h H → RVs G.K m H xs vs → AftP G m H (p xs h) Q → r vs H Q
def OkM (G : Par) (r : V → List V → Hp → VK → Prop) (p : PM) : Prop := ∀ m h H x xs v vs Q, Sim G m h H → RV G.K m H x v → RVs G.K m H xs vs → AftP G m H (p x xs h) Q → r v vs H Q
def OkSl (G : Par) (r : V → Option Int → Option Int → Hp → VK → Prop) (p : PSl) : Prop := ∀ m h H x l u v Q, Sim G m h H → RV G.K m H x v → AftP G m H (p x l u h) Q → r v l u H Q
def Ok3 (G : Par) (r : TSet) (p : P3) : Prop := ∀ m h H o i x vo vi v (Q : Hp → Prop), Sim G m h H → RV G.K m H o vo → RV G.K m H i vi → RV G.K m H x v →
  (match p o i x h with
    | some h' => ∀ m' H', Step m H m' H' → Sim G m' h' H' → Q H'
    | none => False) → r vo vi v H Q

section
variable {X : Cx} {G : Par} {W : WX} {a b c : Expr} {f g k : EF} {pos : Pos} {es : List Expr} {fa : AF}
/-! ### expressions -/
theorem je_var {i : Nat} {x : Str} (hN : X.N[i]? = some x) (hv : Vis X.env.scope x) (hd : (x == ("__debug__" : Str)) = false := by decide) (hcd : (x == ("__classdict__" : Str)) = false := by decide) : JE X G W (.Name x pos) (eVar i) :=
  pe_imp (pe_var hN hv hd hcd) fun σ H Q ⟨m, r, h, S, E, q⟩ => by
    unfold eVar at q
    split at q
    · rename_i x e
      obtain ⟨v, e1, e2⟩ := E.2 i x e
      exact ⟨v, e1, q m H v Step.refl S e2⟩
    · exact q.elim
theorem je_c {e : Expr} {x : PV} {v : V} (h : PE X e (tC v)) (r : ∀ m H, RV G.K m H x v) : JE X G W e (eC x) :=
  pe_imp h fun σ H Q ⟨m, _, h', S, E, q⟩ => q m H v Step.refl S (r m H)
theorem je_int {i : Int} {j} : JE X G W (.Constant (.int i) j pos) (eC (.int i)) := je_c pe_int fun _ _ => by rw [RV]
theorem je_bl {b : Bool} {j} : JE X G W (.Constant (.bool b) j pos) (eC (.bl b)) := je_c pe_bl fun _ _ => by rw [RV]
theorem je_non {j} : JE X G W (.Constant .none j pos) (eC .non) := je_c pe_non fun _ _ => by rw [RV]
theorem je_str {x : Str} {j} (hx : sOk x = true := by decide) : JE X G W (.Constant (.str x) j pos) (eC (.str x)) := je_c pe_str fun _ _ => by rw [RV]; exact ⟨rfl, hx⟩
/-- two parts in a row -/
theorem tE_two {Q : VK} {R : V → V → Hp → Prop} {σ : L2.St} {H : Hp} {p : PV → PV → PH → Res PV} (t : tE G W (fun r h => (f r h).bind fun x h1 => (g r h1).bind fun y h2 => p x y h2) σ H Q)
    (h : ∀ m h H x y v u, Sim G m h H → RV G.K m H x v → RV G.K m H y u → Aft G W σ m H (p x y h) Q → R v u H) : tE G W f σ H fun v H1 => tE G W g σ H1 fun u H2 => R v u H2 := by
  obtain ⟨m, r, h0, S, E, q⟩ := t
  refine ⟨m, r, h0, S, E, ?_⟩
  have q1 := Aft.bind (f := fun x h1 => (g r h1).bind fun y h2 => p x y h2) q
  revert q1
  cases hf : f r h0 with
  | bad => exact fun z => z
  | exc e h1 => exact fun z => z
  | ok x h1 =>
    intro z m1 H1 v s1 S1 r1
    obtain ⟨m2, x2, h2, s2, S2, r2, q2⟩ := z m1 H1 v s1 S1 r1
    refine ⟨m2, r, h2, S2, E.mono s2, ?_⟩
    have q3 := Aft.bind q2
    revert q3
    cases hg : g r h2 with
    | bad => exact fun z => z
    | exc e h1 => exact fun z => z
    | ok y h3 =>
      intro z m3 H3 u s3 S3 r3
      obtain ⟨m4, y4, h4, s4, S4, r4, q4⟩ := z m3 H3 u s3 S3 r3
      exact h m4 h4 H3 x2 y4 v u S4 (r2.mono s4) r4 q4
theorem je_op {op : Operator} {r : R2} {p : P2} (ho : OpR X (binaryOp op) r) (hp : Ok2 G r p) (ha : JE X G W a f) (hb : JE X G W b g) : JE X G W (.BinOp a op b pos) (eBin p f g) :=
  pe_imp (pe_op ho ha hb) fun σ H Q t => tE_two (R := fun v u H => r v u H Q) t fun m h H x y v u S rx ry q => hp m h H x y v u Q S rx ry (Aft.p q)
theorem je_ix {r : R2} {p : P2} (hr : IxR X r) (hp : Ok2 G r p) (ha : JE X G W a f) (hb : JE X G W b g) (hs : PlainIx b := by exact fun _ _ => rfl) : JE X G W (.Subscript a b pos) (eBin p f g) :=
  pe_imp (pe_ix hr ha hb hs) fun σ H Q t => tE_two (R := fun v u H => r v u H Q) t fun m h H x y v u S rx ry q => hp m h H x y v u Q S rx ry (Aft.p q)
theorem je_cmp {op : CmpOp} {r : R2} {p : P2} (ho : OpR X (compareOp op) r) (hp : Ok2 G r p) (ha : JE X G W a f) (hb : JE X G W b g) (hm : behindInMarks op b = false) : JE X G W (.Compare a [op] [b] pos) (eBin p f g) :=
  pe_imp (pe_cmpR ho ha hb hm) fun σ H Q t => tE_two (R := fun v u H => r v u H Q) t fun m h H x y v u S rx ry q => hp m h H x y v u Q S rx ry (Aft.p q)
/-- a value known to be a truth, as a test -/
theorem tE_tT {Q : Bool → Hp → Prop} {σ : L2.St} {H : Hp} (t : tT G W f σ H Q) : tE G W f σ H fun v H' => ∃ b, v = .bl b ∧ Q b H' := t
theorem jt_cmp {op : CmpOp} {r : R2} {p : P2} (ho : OpR X (compareOp op) r) (hp : Ok2 G r p) (ha : JE X G W a f) (hb : JE X G W b g) (hm : behindInMarks op b = false) : JT X G W (.Compare a [op] [b] pos) (eBin p f g) :=
  pt_imp (pt_cmpR ho ha hb hm) fun σ H Q t => tE_two (R := fun v u H => r v u H fun v H' => ∃ b, v = .bl b ∧ Q b H') (tE_tT t) fun m h H x y v u S rx ry q => hp m h H x y v u _ S rx ry (Aft.p q)
theorem jt_val {e : Expr} (h : JE X G W e f) (he : ∀ whole, isTrue e X.env whole = (do let v ← whole; standAt e.pos; holding [v] (truthy v)) := by intro _; rfl) : JT X G W e f :=
  pt_imp (pt_val h he) fun σ H Q t => t
theorem je_un {op : UnaryOp} {r : V → Hp → VK → Prop} {p : P1} (ho : UnR X (unaryOp op) r) (hp : Ok1 G r p) (ha : JE X G W a f) : JE X G W (.UnaryOp op a pos) (eUn p f) :=
  pe_imp (pe_un ho ha) fun σ H Q ⟨m, r, h, S, E, q⟩ => by
    refine ⟨m, r, h, S, E, ?_⟩
    have q1 := Aft.bind (f := fun x h1 => (p x h1).r) q
    revert q1
    cases hf : f r h with
    | bad => exact fun z => z
    | exc e h1 => exact fun z => z
    | ok x h1 =>
      intro z m1 H1 v s1 S1 r1
      obtain ⟨m2, x2, h2, s2, S2, r2, q2⟩ := z m1 H1 v s1 S1 r1
      exact hp m2 h2 H1 x2 v Q S2 r2 (Aft.p q2)
/-! and, or, not -/
theorem RV.bl_inv {K : PySem.W.Frag} {m : List Addr} {H : Hp} {b : Bool} {v : V} (h : RV K m H (.bl b) v) : v = .bl b := by rw [RV] at h; exact h
theorem jt_not (ha : JT X G W a f) : JT X G W (.UnaryOp .Not a pos) (eNot f) :=
  pt_imp (pt_not ha) fun σ H Q ⟨m, r, h, S, E, q⟩ => by
    refine ⟨m, r, h, S, E, ?_⟩
    unfold eNot at q
    have q1 := Aft.bind q
    revert q1
    cases hf : f r h with
    | bad => exact fun z => z
    | exc e h1 => exact fun z => z
    | ok x h1 =>
      intro z m1 H1 v s1 S1 r1
      obtain ⟨m2, x2, h2, s2, S2, r2, q2⟩ := z m1 H1 v s1 S1 r1
      cases x2 with
      | bl b =>
        have e := RV.bl_inv r2
        obtain ⟨c, e2, q3⟩ := q2 m2 H1 (.bl !b) Step.refl S2 (by rw [RV])
        cases e2
        exact ⟨b, e, q3⟩
      | _ => exact q2.elim
theorem je_not (ha : JE X G W a f) : JE X G W (.UnaryOp .Not a pos) (eNot f) :=
  pe_imp (pe_not ha) fun σ H Q ⟨m, r, h, S, E, q⟩ => by
    refine ⟨m, r, h, S, E, ?_⟩
    unfold eNot at q
    have q1 := Aft.bind q
    revert q1
    cases hf : f r h with
    | bad => exact fun z => z
    | exc e h1 => exact fun z => z
    | ok x h1 =>
      intro z m1 H1 v s1 S1 r1
      obtain ⟨m2, x2, h2, s2, S2, r2, q2⟩ := z m1 H1 v s1 S1 r1
      cases x2 with
      | bl b => exact ⟨b, RV.bl_inv r2, q2 m2 H1 (.bl !b) Step.refl S2 (by rw [RV])⟩
      | _ => exact q2.elim
/-- the first part a truth, then by it -/
theorem tE_fst {Q : VK} {R : Bool → Hp → Prop} {σ : L2.St} {H : Hp} {p : PV → PH → Res PV} {r : PEnv} {m : List Addr} {h : PH} (S : Sim G m h H) (E : REnv G.K m H r σ) (q : Aft G W σ m H ((f r h).bind p) Q)
    (hb : ∀ x, (∀ b, x ≠ .bl b) → ∀ h, p x h = .bad)
    (k : ∀ m h H b, Sim G m h H → REnv G.K m H r σ → Aft G W σ m H (p (.bl b) h) Q → R b H) : tE G W f σ H fun v H1 => ∃ c, v = .bl c ∧ R c H1 := by
  refine ⟨m, r, h, S, E, ?_⟩
  have q1 := Aft.bind q
  revert q1
  cases hf : f r h with
  | bad => exact fun z => z
  | exc e h1 => exact fun z => z
  | ok x h1 =>
    intro z m1 H1 v s1 S1 r1
    obtain ⟨m2, x2, h2, s2, S2, r2, q2⟩ := z m1 H1 v s1 S1 r1
    cases x2 with
    | bl b => exact ⟨b, RV.bl_inv r2, k m2 h2 H1 b S2 (E.mono s2) q2⟩
    | _ => rw [hb _ (by simp)] at q2; exact q2.elim
theorem aft_bl {σ : L2.St} {m : List Addr} {H : Hp} {r : Res PV} {Q : VK} (q : Aft G W σ m H (r.bind fun y h2 => match y with
    | .bl b => .ok (.bl b) h2
    | _ => .bad) Q) : Aft G W σ m H r Q := by
  cases r with
  | bad => exact q
  | exc e h => exact q
  | ok x h =>
    cases x with
    | bl b => exact q
    | _ => exact q.elim
theorem jt_and (ha : JT X G W a f) (hb : JW X G W (.BoolOp .And (b :: es) pos) g) : JW X G W (.BoolOp .And (a :: b :: es) pos) (eAnd f g) :=
  pw_imp (pw_and ha hb) fun σ H Q ⟨m, r, h, S, E, q⟩ => by
    unfold eAnd at q
    refine tE_fst S E q (fun x hx h => by cases x with
      | bl b => exact absurd rfl (hx b)
      | _ => rfl) fun m h H b S E q => ?_
    cases b with
    | true => exact ⟨m, r, h, S, E, aft_bl q⟩
    | false =>
      obtain ⟨b, e, q⟩ := q m H (.bl false) Step.refl S (by rw [RV])
      cases e
      exact q
theorem jt_or (ha : JT X G W a f) (hb : JW X G W (.BoolOp .Or (b :: es) pos) g) : JW X G W (.BoolOp .Or (a :: b :: es) pos) (eOr f g) :=
  pw_imp (pw_or ha hb) fun σ H Q ⟨m, r, h, S, E, q⟩ => by
    unfold eOr at q
    refine tE_fst S E q (fun x hx h => by cases x with
      | bl b => exact absurd rfl (hx b)
      | _ => rfl) fun m h H b S E q => ?_
    cases b with
    | true =>
      obtain ⟨b, e, q⟩ := q m H (.bl true) Step.refl S (by rw [RV])
      cases e
      exact q
    | false => exact ⟨m, r, h, S, E, aft_bl q⟩
theorem jt_and1 (ha : JT X G W a f) : JW X G W (.BoolOp .And [a] pos) f := pw_imp (pw_and1 ha) fun _ _ _ t => t
theorem jt_or1 (ha : JT X G W a f) : JW X G W (.BoolOp .Or [a] pos) f := pw_imp (pw_or1 ha) fun _ _ _ t => t
theorem je_and (ha : JE X G W a f) (hb : JE X G W (.BoolOp .And (b :: es) pos) g) : JE X G W (.BoolOp .And (a :: b :: es) pos) (eAnd f g) :=
  pe_imp (pe_and ha hb) fun σ H Q ⟨m, r, h, S, E, q⟩ => by
    unfold eAnd at q
    refine tE_fst S E q (fun x hx h => by cases x with
      | bl b => exact absurd rfl (hx b)
      | _ => rfl) fun m h H b S E q => ?_
    cases b with
    | true => exact ⟨m, r, h, S, E, aft_bl q⟩
    | false => exact q m H (.bl false) Step.refl S (by rw [RV])
theorem je_or (ha : JE X G W a f) (hb : JE X G W (.BoolOp .Or (b :: es) pos) g) : JE X G W (.BoolOp .Or (a :: b :: es) pos) (eOr f g) :=
  pe_imp (pe_or ha hb) fun σ H Q ⟨m, r, h, S, E, q⟩ => by
    unfold eOr at q
    refine tE_fst S E q (fun x hx h => by cases x with
      | bl b => exact absurd rfl (hx b)
      | _ => rfl) fun m h H b S E q => ?_
    cases b with
    | true => exact q m H (.bl true) Step.refl S (by rw [RV])
    | false => exact ⟨m, r, h, S, E, aft_bl q⟩
theorem je_one {op} (ha : JE X G W a f) : JE X G W (.BoolOp op [a] pos) f := pe_one ha
theorem je_if (hc : JT X G W c k) (ha : JE X G W a f) (hb : JE X G W b g) : JE X G W (.IfExp c a b pos) (eIf k f g) :=
  pe_imp (pe_ifExp hc ha hb) fun σ H Q ⟨m, r, h, S, E, q⟩ => by
    unfold eIf at q
    refine tE_fst S E q (fun x hx h => by cases x with
      | bl b => exact absurd rfl (hx b)
      | _ => rfl) fun m h H b S E q => ?_
    cases b with
    | true => exact ⟨m, r, h, S, E, q⟩
    | false => exact ⟨m, r, h, S, E, q⟩
/-! arguments -/
theorem ja_nil : JA X G W [] aNil := pa_imp pa_nil fun σ H Q ⟨m, r, h, S, E, q⟩ => q m H [] Step.refl S RVs.nil
theorem ja_cons (ha : JE X G W a f) (hr : JA X G W es fa) (hs : starEach (a :: es) X.env = (false, eval a X.env) :: starEach es X.env := by rfl) : JA X G W (a :: es) (aCons f fa) :=
  pa_imp (pa_cons ha hr hs) fun σ H Q ⟨m, r, h, S, E, q⟩ => by
    refine ⟨m, r, h, S, E, ?_⟩
    unfold aCons at q
    cases hf : f r h with
    | bad => rw [hf] at q; exact q
    | exc e h1 => rw [hf] at q; exact q
    | ok x h1 =>
      rw [hf] at q
      intro m1 H1 v s1 S1 r1
      refine ⟨m1, r, h1, S1, E.mono s1, ?_⟩
      revert q
      show AftA G W σ m H ((fa r h1).bind fun xs h2 => .ok (x :: xs) h2) Q → _
      cases hg : fa r h1 with
      | bad => exact fun q => q
      | exc e h2 => exact fun q m' H' d s => q m' H' d (s1.trans s)
      | ok xs h2 => exact fun q m2 H2 vs s2 S2 r2 => q m2 H2 (v :: vs) (s1.trans s2) S2 (RVs.cons (r1.mono s2) r2)
/-- arguments, then a primitive -/
theorem tE_args {Q : VK} {R : List V → Hp → Prop} {σ : L2.St} {H : Hp} {p : List PV → PH → Res PV} (t : tE G W (fun r h => (fa r h).bind p) σ H Q)
    (h : ∀ m h H xs vs r, Sim G m h H → REnv G.K m H r σ → RVs G.K m H xs vs → Aft G W σ m H (p xs h) Q → R vs H) : tA G W fa σ H R := by
  obtain ⟨m, r, h0, S, E, q⟩ := t
  refine ⟨m, r, h0, S, E, ?_⟩
  have q1 := Aft.bindA q
  revert q1
  cases hf : fa r h0 with
  | bad => exact fun z => z
  | exc e h1 => exact fun z => z
  | ok x h1 =>
    intro z m1 H1 v s1 S1 r1
    obtain ⟨m2, x2, h2, s2, S2, r2, q2⟩ := z m1 H1 v s1 S1 r1
    exact h m2 h2 H1 x2 v r S2 (E.mono s2) r2 q2
/-- a display -/
def pTup : PN := fun xs h => if xs.length ≤ sizeLine then some (.tup xs, h) else none
def pLst : PN := fun xs h => if xs.length ≤ sizeLine then some (.ref h.length, h ++ [.lst xs]) else none
theorem AftP.tup {m : List Addr} {h : PH} {H : Hp} {xs : List PV} {vs : List V} {Q : VK} (S : Sim G m h H) (r : RVs G.K m H xs vs) (q : AftP G m H (some (.tup xs, h)) Q) : ∀ p, H p = none → Q (.ref p) (upd H p (.tup vs)) := fun p hp =>
  q m _ _ (Step.of (TK.new hp)) (S.tup hp) (by rw [RV]; exact ⟨p, vs, rfl, SqT.of upd_same, r.mono (Step.of (TK.new hp))⟩)
theorem AftP.newL {m : List Addr} {h : PH} {H : Hp} {xs : List PV} {vs : List V} {Q : VK} (S : Sim G m h H) (r : RVs G.K m H xs vs) (q : AftP G m H (some (.ref h.length, h ++ [.lst xs])) Q) : ∀ p, H p = none → Q (.ref p) (upd H p (.lst vs)) := fun p hp =>
  q (m ++ [p]) _ _ ⟨⟨[p], rfl⟩, TK.new hp⟩ (S.newL hp r) (by rw [RV]; exact ⟨p, by rw [← S.len]; simp, rfl⟩)
theorem je_tup {x1} (h : JA X G W es fa) : JE X G W (.Tuple es x1 pos) (eArg pTup fa) :=
  pe_imp (pe_tup h) fun σ H Q t => tE_args (R := fun xs H1 => xs.length ≤ sizeLine ∧ ∀ p, H1 p = none → Q (.ref p) (upd H1 p (.tup xs))) t fun m h H xs vs r S E rr q => by
    unfold pTup at q
    split at q
    · rename_i hl
      exact ⟨by rw [rr.length]; exact hl, AftP.tup S rr (Aft.p q)⟩
    · exact q.elim
theorem je_lst (h : JA X G W es fa) : JE X G W (.List es pos) (eArg pLst fa) :=
  pe_imp (pe_lst h) fun σ H Q t => tE_args (R := fun xs H1 => xs.length ≤ sizeLine ∧ ∀ p, H1 p = none → Q (.ref p) (upd H1 p (.lst xs))) t fun m h H xs vs r S E rr q => by
    unfold pLst at q
    split at q
    · rename_i hl
      exact ⟨by rw [rr.length]; exact hl, AftP.newL S rr (Aft.p q)⟩
    · exact q.elim
end
end Z
/-! Zr2: fields, calls, methods, makes, slices, targets, statements, loops, comprehensions. -/
namespace Z
open PySem L2

/-! ### a def's promise -/
def AftF (G : Par) (m : List Addr) (H : Hp) (r : Res PV) (Q : VK) (E : XK) : Prop := match r with
  | .ok x h' => ∀ m' H' v, Step m H m' H' → Sim G m' h' H' → RV G.K m' H' x v → Q v H'
  | .exc e h' => ∀ m' H' d, Step m H m' H' → Sim G m' h' H' → RX G m' H' e d → E (.ref (G.ca e.c)) d H'
  | .bad => False
def spF (G : Par) (n : Nat) (F : FF) : Sp := fun vs H Q E => ∃ m h xs, Sim G m h H ∧ RVs G.K m H xs vs ∧ xs.length = n ∧ AftF G m H (F xs h) Q E
theorem Aft.f {G : Par} {W : WX} {σ : L2.St} {m : List Addr} {H : Hp} {r : Res PV} {Q : VK} (q : Aft G W σ m H r Q) : AftF G m H r Q (WE W σ) := by
  cases r with
  | ok x h => exact q
  | exc e h => exact q
  | bad => exact q
section
variable {X : Cx} {G : Par} {W : WX} {a b c e o : Expr} {f g k : EF} {pos apos p : Pos} {es : List Expr} {fa : AF}

/-! ### attributes -/
theorem je_fld {name : Str} {cs : List Nat} (he : JE X G W e f) (hc : ∀ c ∈ cs, Cls X.K (G.ca c) ∧ NoAttr X.K (G.ca c) name)
    (hb : attributeBase e name X.env (eval e X.env) = eval e X.env := by rfl) : JE X G W (.Attribute e name pos) (eFld cs f name) :=
  pe_imp (pe_fld he hb) fun σ H Q ⟨m, r, h, S, E, q⟩ => by
    refine ⟨m, r, h, S, E, ?_⟩
    unfold eFld at q
    have q1 := Aft.bind q
    revert q1
    cases hf : f r h with
    | bad => exact fun z => z
    | exc e h1 => exact fun z => z
    | ok x h1 =>
      intro z m1 H1 v s1 S1 r1
      obtain ⟨m2, x2, h2, s2, S2, r2, q2⟩ := z m1 H1 v s1 S1 r1
      cases x2 with
      | ref n =>
        dsimp only at q2
        cases hx : fldOf cs n name h2 with
        | none => rw [hx] at q2; exact q2.elim
        | some y =>
          rw [hx] at q2
          unfold fldOf at hx
          split at hx
          · rename_i c fs hn
            split at hx
            · rename_i hcs
              rw [RV] at r2
              obtain ⟨a, ha, rfl⟩ := r2
              obtain ⟨a', ha', dx, gs, hH, hfs⟩ := S2.ob n _ hn
              rw [ha] at ha'; cases ha'
              obtain ⟨w, hw, rw'⟩ := hfs.lookup.2 y hx
              obtain ⟨k1, k2⟩ := hc c hcs
              exact ⟨a, G.ca c, dx, gs, w, rfl, hH, k1, k2, hw, q2 m2 H1 w Step.refl S2 rw'⟩
            · cases hx
          · cases hx
      | _ => exact q2.elim

/-! ### calls -/
theorem aftF_app {sp : Sp} {n : Nat} {F : FF} {m : List Addr} {h : PH} {H : Hp} {xs : List PV} {vs : List V} {Q : VK} {E : XK} (S : Sim G m h H) (r : RVs G.K m H xs vs) (hl : xs.length = n) (q : AftF G m H (F xs h) Q E) : spF G n F vs H Q E :=
  ⟨m, h, xs, S, r, hl, q⟩
theorem ja_len : ∀ {r : PEnv} {h h' : PH} {xs : List PV} {n : Nat}, (∀ r h xs h', fa r h = .ok xs h' → xs.length = n) → fa r h = .ok xs h' → xs.length = n := fun a b => a _ _ _ _ b
/-- how many arguments are written -/
def AF.Len (fa : AF) (n : Nat) : Prop := ∀ r h xs h', fa r h = .ok xs h' → xs.length = n
theorem AF.len_nil : AF.Len aNil 0 := fun r h xs h' e => by cases e; rfl
theorem AF.len_cons {n : Nat} (l : AF.Len fa n) : AF.Len (aCons f fa) (n + 1) := fun r h xs h' e => by
  unfold aCons Res.bind at e
  split at e
  · dsimp only at e
    split at e
    · rename_i ys h2 hy
      cases e
      simp [l _ _ _ _ hy]
    · cases e
    · cases e
  · cases e
  · cases e
theorem tA_args {Q : VK} {R : List V → Hp → Prop} {σ : L2.St} {H : Hp} {n : Nat} {p : List PV → PH → Res PV} (l : AF.Len fa n) {m : List Addr} {r : PEnv} {h0 : PH} (S : Sim G m h0 H) (E : REnv G.K m H r σ) (q : Aft G W σ m H ((fa r h0).bind p) Q)
    (h : ∀ m1 h H1 xs vs, Step m H m1 H1 → Sim G m1 h H1 → RVs G.K m1 H1 xs vs → xs.length = n → Aft G W σ m1 H1 (p xs h) Q → R vs H1) : tA G W fa σ H R := by
  refine ⟨m, r, h0, S, E, ?_⟩
  have ln := l r h0
  revert q ln
  cases hf : fa r h0 with
  | bad => exact fun z _ => z
  | exc e h1 => exact fun z _ => z
  | ok x h1 =>
    intro q ln m1 H1 v s1 S1 r1
    exact h m1 h1 H1 x v s1 S1 r1 (ln x h1 rfl) (Aft.step s1 q)
theorem je_call {F : FF} {n j : Nat} {fn : Addr} {fd : FuncData} {ps : List Str} {x : Str} (F0 : FnOk X.prog X.w X.K X.mg X.base (L2.CX X.prog X.w) j fn fd ps (spF G n F)) (hr : Room j X.A) (tk : Takes X W) (hg : Gl X x) (hm : X.mg x = some (.ref fn))
    (hk : PySem.W.keepIn X.K (.ref fn) = true) (hb : Binds X.K fd ps []) (ha : JA X G W (e :: es) fa) (ln : AF.Len fa n) (hdb : (x == ("__debug__" : Str)) = false := by decide)
    (he : starEach (e :: es) X.env = (false, eval e X.env) :: starEach es X.env := by rfl) (hpl : (backTo pos (starEach es X.env)).any (·.1) = false := by rfl) :
    JE X G W (.Call (.Name x p) (e :: es) [] pos) (eCall F fa) :=
  pe_imp (pe_callS F0 hr hg hm hk hb (fun σ => passAt tk σ) ha hdb he hpl) fun σ H Q ⟨m, r, h, S, E, q⟩ =>
    tA_args ln S E q fun m1 h1 H1 xs vs _ S1 r1 hl q1 => ⟨m1, h1, xs, S1, r1, hl, Aft.f q1⟩
/-- a method of the class numbered c -/
structure MOk (X : Cx) (G : Par) (j : Nat) (nm : Str) (n : Nat) (c : Nat) (F : FF) : Prop where
  ex : ∃ (fn : Addr) (fd : FuncData) (ps : List Str), Cls X.K (G.ca c) ∧ Meth X.K (G.ca c) nm fn ∧ FnOk X.prog X.w X.K X.mg X.base (L2.CX X.prog X.w) j fn fd ps (spF G n F) ∧ Binds X.K fd ps []
/-- the receiver is an instance whose class has the method; then the arguments -/
theorem meth_go {Q : VK} {σ : L2.St} {H : Hp} {n j : Nat} {nm : Str} {tbl : Nat → Option FF} {pins : List (Addr × Obj)} {s : Shared} {R : Value → Shared → Prop} {args : List Expr} {pl : Sem Bool} (he : JE X G W e f) (hM : ∀ c F, tbl c = some F → MOk X G j nm (n + 1) c F) (ln : AF.Len fa n)
    (I : Inv X pins σ H s) (t : tE G W (eMeth tbl nm f fa) σ H Q)
    (go : ∀ (a fn : Addr) (fd : FuncData) (ps : List Str) (F : FF) (H1 : Hp) (s1 : Shared), Meth X.K X.K.length nm fn ∨ True → PySem.W.keepIn X.K (.ref fn) = true → FnOk X.prog X.w X.K X.mg X.base (L2.CX X.prog X.w) j fn fd ps (spF G (n + 1) F) → Binds X.K fd ps [] → Inv X pins σ H1 s1 →
      tA G W fa σ H1 (fun vs H2 => spF G (n + 1) F (.ref a :: vs) H2 Q (WE W σ)) →
      wpAny (model X.prog X.w) X.A (callWith pos (.ref fn) [.ref a] (backTo pos (starEach args X.env)) (backToKw pos (keywordEach [] X.env))) R X.xe s1)
    (ht : eval (.Call (.Attribute e nm apos) args [] pos) X.env = (do
      let ov ← eval e X.env
      standAt apos.atName
      let (f, first) ← holding [ov] (getMethod ov nm pl)
      callWith pos f first (backTo pos (starEach args X.env)) (backToKw pos (keywordEach [] X.env)))) :
    wpAny (model X.prog X.w) X.A (eval (.Call (.Attribute e nm apos) args [] pos) X.env) R X.xe s := by
  obtain ⟨m, r, h, S, E, q⟩ := t
  unfold eMeth at q
  have q1 := Aft.bind q
  have t1 : tE G W f σ H fun v H1 => ∃ a c dx gs fn fd ps F, v = .ref a ∧ H1 a = some (.ins (G.ca c) dx gs) ∧ gs.lookup nm = none ∧ Cls X.K (G.ca c) ∧ Meth X.K (G.ca c) nm fn ∧
      FnOk X.prog X.w X.K X.mg X.base (L2.CX X.prog X.w) j fn fd ps (spF G (n + 1) F) ∧ Binds X.K fd ps [] ∧ tA G W fa σ H1 (fun vs H2 => spF G (n + 1) F (.ref a :: vs) H2 Q (WE W σ)) := by
    refine ⟨m, r, h, S, E, ?_⟩
    revert q1
    cases hf : f r h with
    | bad => exact fun z => z
    | exc e h1 => exact fun z => z
    | ok x h1 =>
      intro z m1 H1 v s1 S1 r1
      obtain ⟨m2, x2, h2, s2, S2, r2, q2⟩ := z m1 H1 v s1 S1 r1
      cases x2 with
      | ref k =>
        dsimp only at q2
        split at q2
        · rename_i c fs hk
          split at q2
          · rename_i F hl hF
            obtain ⟨fn, fd, ps, k1, k2, k3, k4⟩ := (hM c F hF).ex
            rw [RV] at r2
            obtain ⟨a, ha, rfl⟩ := r2
            obtain ⟨a', ha', dx, gs, hH, hfs⟩ := S2.ob k _ hk
            rw [ha] at ha'; cases ha'
            refine ⟨a, c, dx, gs, fn, fd, ps, F, rfl, hH, hfs.lookup.1 hl, k1, k2, k3, k4, ?_⟩
            refine tA_args ln S2 (E.mono s2) q2 fun m3 h3 H3 xs vs s3 S3 r3 hl3 q3 => ⟨m3, h3, .ref k :: xs, S3, RVs.cons ?_ r3, by simp [hl3], Aft.f q3⟩
            have : RV G.K m2 H1 (.ref k) (.ref a) := by rw [RV]; exact ⟨a, ha, rfl⟩
            exact this.mono s3
          · exact q2.elim
        · exact q2.elim
      | _ => exact q2.elim
  refine PySem.W.methodCall_KW (pl := pl) (thn (he.run pins s σ H _ I t1) fun u s1 hh => ?_) ht
  obtain ⟨v, H1, I1, rv, a, c, dx, gs, fn, fd, ps, F, rfl, hH, hl, k1, k2, k3, k4, q5⟩ := hh
  obtain rfl : u = Value.ref a := rv
  exact getmeth_ok I1 hH k1 k2 hl (go a fn fd ps F H1 s1 (Or.inr trivial) k2.kp k3 k4 I1 q5)
theorem je_meth {nm : Str} {n j : Nat} {tbl : Nat → Option FF} {pl : Sem Bool} (ho : JE X G W o f) (hM : ∀ c F, tbl c = some F → MOk X G j nm (n + 1) c F) (hr : Room j X.A) (tk : Takes X W) (ha : JA X G W (e :: es) fa) (ln : AF.Len fa n)
    (hst : starEach (e :: es) X.env = (false, eval e X.env) :: starEach es X.env := by rfl) (hpl : (backTo pos (starEach es X.env)).any (·.1) = false := by rfl)
    (ht : eval (.Call (.Attribute o nm apos) (e :: es) [] pos) X.env = (do
      let ov ← eval o X.env
      standAt apos.atName
      let (f, first) ← holding [ov] (getMethod ov nm pl)
      callWith pos f first (backTo pos (starEach (e :: es) X.env)) (backToKw pos (keywordEach [] X.env))) := by rfl) :
    JE X G W (.Call (.Attribute o nm apos) (e :: es) [] pos) (eMeth tbl nm f fa) :=
  ⟨fun pins s σ H Q I t => meth_go ho hM ln I t (fun a fn fd ps F H1 s1 _ hk k3 k4 I1 q5 => by
    refine PySem.W.callWith_K (first := [.ref a]) (h₀ := X.base) I1.ok.mod.kin hk (thn (ha.run pos pins s1 σ H1 _ I1 q5) fun us s2 hh => ?_) hst hpl
    obtain ⟨vs, H2, I2, rr, q6⟩ := hh
    exact ⟨I2.kIn, run_fnS (us := .ref a :: us) (vs := .ref a :: vs) k3 hr k4 (passAt tk σ) I2 (.cons rfl rr) q6⟩) ht⟩
theorem je_meth0 {nm : Str} {j : Nat} {tbl : Nat → Option FF} {pl : Sem Bool} (ho : JE X G W o f) (hM : ∀ c F, tbl c = some F → MOk X G j nm 1 c F) (hr : Room j X.A) (tk : Takes X W)
    (ht : eval (.Call (.Attribute o nm apos) [] [] pos) X.env = (do
      let ov ← eval o X.env
      standAt apos.atName
      let (f, first) ← holding [ov] (getMethod ov nm pl)
      callWith pos f first (backTo pos (starEach [] X.env)) (backToKw pos (keywordEach [] X.env))) := by rfl) :
    JE X G W (.Call (.Attribute o nm apos) [] [] pos) (eMeth tbl nm f aNil) :=
  ⟨fun pins s σ H Q I t => meth_go ho hM AF.len_nil I t (fun a fn fd ps F H1 s1 _ hk k3 k4 I1 q5 => by
    obtain ⟨m, r, h, S, E, q6⟩ := q5
    exact PySem.W.callWith_K0 (first := [.ref a]) I1.kIn hk (run_fnS (us := [.ref a]) (vs := [.ref a]) k3 hr k4 (passAt tk σ) I1 (.cons rfl .nil) (q6 m H1 [] Step.refl S RVs.nil))) ht⟩

/-! ### a new instance -/
theorem make_go {pins : List (Addr × Obj)} {σ : L2.St} {H : Hp} {s : Shared} {Q : VK} {us : List Value} {vs : List V} {j n c : Nat} {fn : Addr} {fd : FuncData} {ps : List Str} {F : FF} (M : Mk X.K (G.ca c) fn)
    (F0 : FnOk X.prog X.w X.K X.mg X.base (L2.CX X.prog X.w) j fn fd ps (spF G (n + 1) F)) (hr : Room (j + 1) X.A) (hb : Binds X.K fd ps []) (tk : Takes X W) (I : Inv X pins σ H s) (r : Vals vs us)
    (h : ∀ x dx, H x = none → H dx = none → dx ≠ x → spF G (n + 1) F (.ref x :: vs) (upd (upd H dx (.own x)) x (.ins (G.ca c) dx [])) (fun v H2 => v = .non ∧ Q (.ref x) H2) (WE W σ)) :
    wpAny (model X.prog X.w) X.A (call (.ref (G.ca c)) us) (EP X pins σ Q) X.xe s := by
  have hq := h (s.heap.objs.size + 1) s.heap.objs.size (I.hok.fresh (Nat.le_succ _)) (I.hok.fresh (Nat.le_refl _)) (Nat.ne_of_lt (Nat.lt_succ_self _))
  have I2 := Inv.made (C := G.ca c) I
  have rr : Vals (V.ref (s.heap.objs.size + 1) :: vs) (Value.ref (s.heap.objs.size + 1) :: us) := .cons rfl r
  have hl : (Value.ref (s.heap.objs.size + 1) :: us).length = ps.length := by rw [← rr.length]; exact F0.len _ _ _ _ hq
  have b := hb _ (Value.ref (s.heap.objs.size + 1) :: us) I2.kIn (by rw [List.append_nil]; exact hl)
  rw [List.append_nil] at b
  refine wpAny_call (make_map (f := fn) I.kIn M.makes M.init (beq_iff_eq.mp M.fn) (codeAny_mono (F0.run _ X.stack _ _ ⟨_, []⟩ _ _ _ _ (hr.make (G.ca c) us []) (I2.env0.make (G.ca c) us []) b rr hq) fun q s' hq' => ?_))
  cases q with
  | error z => exact passAt tk σ pins _ _ z s' I2 hq'
  | ok fl =>
    cases fl with
    | ret u =>
      obtain ⟨v, H', I3, rv, ev, q3⟩ := I2.after hq'
      subst ev
      exact ⟨rv, V.ref (s.heap.objs.size + 1), H', I3, rfl, q3⟩
    | next => exact hq'.elim
    | brk => exact hq'.elim
    | cont => exact hq'.elim
theorem Sim.make {m : List Addr} {h : PH} {H : Hp} (S : Sim G m h H) {x dx : Addr} {c : Nat} (hx : H x = none) (hd : H dx = none) (ne : dx ≠ x) :
    Sim G (m ++ [x]) (h ++ [.ins c []]) (upd (upd H dx (.own x)) x (.ins (G.ca c) dx [])) ∧ Step m H (m ++ [x]) (upd (upd H dx (.own x)) x (.ins (G.ca c) dx [])) := by
  have hx' : upd H dx (.own x) x = none := by rw [upd_ne (Ne.symm ne)]; exact hx
  have t : TK H (upd (upd H dx (.own x)) x (.ins (G.ca c) dx [])) := (TK.new hd).trans (TK.new hx')
  exact ⟨S.new hx t (fun a u z => by rw [upd_ne (ne_of_none z hx), upd_ne (ne_of_none z hd)]; exact z) ⟨dx, [], upd_same, rfl⟩ (fun _ e => by cases e), ⟨⟨[x], rfl⟩, t⟩⟩
theorem make_arg {Q : VK} {σ : L2.St} {m1 : List Addr} {H1 : Hp} {h1 : PH} {xs : List PV} {vs : List V} {n c : Nat} {F : FF} (S1 : Sim G m1 h1 H1) (r1 : RVs G.K m1 H1 xs vs) (hl : xs.length = n)
    (q1 : Aft G W σ m1 H1 ((F (.ref h1.length :: xs) (h1 ++ [.ins c []])).bind fun v h2 => match v with
      | .non => .ok (.ref h1.length) h2
      | _ => .bad) Q) : ∀ x dx, H1 x = none → H1 dx = none → dx ≠ x → spF G (n + 1) F (.ref x :: vs) (upd (upd H1 dx (.own x)) x (.ins (G.ca c) dx [])) (fun v H2 => v = .non ∧ Q (.ref x) H2) (WE W σ) := by
  intro x dx hx hd ne
  obtain ⟨S2, s2⟩ := S1.make (c := c) hx hd ne
  have rx : RV G.K (m1 ++ [x]) (upd (upd H1 dx (.own x)) x (.ins (G.ca c) dx [])) (.ref h1.length) (.ref x) := by rw [RV]; exact ⟨x, by rw [← S1.len]; simp, rfl⟩
  refine ⟨m1 ++ [x], _, .ref h1.length :: xs, S2, RVs.cons rx (r1.mono s2), by simp [hl], ?_⟩
  have q2 := Aft.step s2 q1
  revert q2
  cases hF : F (.ref h1.length :: xs) (h1 ++ [.ins c []]) with
  | bad => exact fun z => z
  | exc e h2 => exact fun z => z
  | ok y h2 =>
    intro q2 m3 H3 v s3 S3 r3
    cases y with
    | non =>
      rw [RV] at r3
      exact ⟨r3, q2 m3 H3 (.ref x) s3 S3 (rx.mono s3)⟩
    | _ => exact q2.elim
theorem je_make {x : Str} {c j n : Nat} {fn : Addr} {fd : FuncData} {ps : List Str} {F : FF} (M : Mk X.K (G.ca c) fn) (F0 : FnOk X.prog X.w X.K X.mg X.base (L2.CX X.prog X.w) j fn fd ps (spF G (n + 1) F)) (hr : Room (j + 1) X.A) (tk : Takes X W) (hg : Gl X x)
    (hm : X.mg x = some (.ref (G.ca c))) (hb : Binds X.K fd ps []) (ha : JA X G W (e :: es) fa) (ln : AF.Len fa n) (hdb : (x == ("__debug__" : Str)) = false := by decide)
    (he : starEach (e :: es) X.env = (false, eval e X.env) :: starEach es X.env := by rfl) (hpl : (backTo pos (starEach es X.env)).any (·.1) = false := by rfl) :
    JE X G W (.Call (.Name x p) (e :: es) [] pos) (eMake c F fa) :=
  ⟨fun pins s σ H Q I ⟨m, r, h, S, E, q⟩ => by
    refine wpAny_Call_Name_kw (ld_glob I hg hm ?_ hdb)
    have t : tA G W fa σ H fun vs H1 => ∀ x dx, H1 x = none → H1 dx = none → dx ≠ x → spF G (n + 1) F (.ref x :: vs) (upd (upd H1 dx (.own x)) x (.ins (G.ca c) dx [])) (fun v H2 => v = .non ∧ Q (.ref x) H2) (WE W σ) :=
      tA_args ln S E q fun m1 h1 H1 xs vs _ S1 r1 hl q1 => make_arg S1 r1 hl q1
    refine PySem.W.callWith_K (h₀ := X.base) I.ok.mod.kin M.kp (thn (ha.run pos pins s σ H _ I t) fun us s1 hh => ?_) he hpl
    obtain ⟨vs, H1, I1, rr, q1⟩ := hh
    exact ⟨I1.kIn, make_go M F0 hr hb tk I1 rr q1⟩⟩
theorem je_make0 {x : Str} {c j : Nat} {fn : Addr} {fd : FuncData} {ps : List Str} {F : FF} (M : Mk X.K (G.ca c) fn) (F0 : FnOk X.prog X.w X.K X.mg X.base (L2.CX X.prog X.w) j fn fd ps (spF G 1 F)) (hr : Room (j + 1) X.A) (tk : Takes X W) (hg : Gl X x)
    (hm : X.mg x = some (.ref (G.ca c))) (hb : Binds X.K fd ps []) (hdb : (x == ("__debug__" : Str)) = false := by decide) :
    JE X G W (.Call (.Name x p) [] [] pos) (eMake c F aNil) :=
  ⟨fun pins s σ H Q I ⟨m, r, h, S, E, q⟩ => by
    refine wpAny_Call_Name_kw (ld_glob I hg hm ?_ hdb)
    exact PySem.W.callWith_K0 I.kIn M.kp (make_go (us := []) (vs := []) M F0 hr hb tk I .nil (make_arg (n := 0) S RVs.nil rfl q))⟩

/-! ### slices, built-in functions and methods -/
theorem jo_none : JO X G W none oNo := po_imp po_none fun σ H Q ⟨m, r, h, S, E, q⟩ => q m H Step.refl S
theorem jo_some (h : JE X G W e f) : JO X G W (some e) (oPart f) := po_imp (po_some h) fun σ H Q ⟨m, r, h0, S, E, q⟩ => by
  refine ⟨m, r, h0, S, E, ?_⟩
  unfold oPart at q
  revert q
  cases hf : f r h0 with
  | bad => exact fun z => z
  | exc e h1 => exact fun z => z
  | ok x h1 =>
    intro q m1 H1 v s1 S1 r1
    cases x with
    | int i => rw [RV] at r1; exact ⟨i, r1, q m1 H1 s1 S1⟩
    | _ => exact q.elim
theorem je_sl {rd : V → Option Int → Option Int → Hp → VK → Prop} {p2 : Pos} {pp : PSl} {lo hi : Option Expr} {fl fu : OF} (hr : SlR X rd) (hp : OkSl G rd pp) (he : JE X G W e f) (hl : JO X G W lo fl) (hu : JO X G W hi fu) :
    JE X G W (.Subscript e (.Slice lo hi none p2) pos) (eSl pp f fl fu) :=
  pe_imp (pe_slice hr he hl hu) fun σ H Q ⟨m, r, h, S, E, q⟩ => by
    refine ⟨m, r, h, S, E, ?_⟩
    unfold eSl at q
    have q1 := Aft.bind q
    revert q1
    cases hf : f r h with
    | bad => exact fun z => z
    | exc e h1 => exact fun z => z
    | ok x h1 =>
      intro z m1 H1 v s1 S1 r1
      obtain ⟨m2, x2, h2, s2, S2, r2, q2⟩ := z m1 H1 v s1 S1 r1
      refine ⟨m2, r, h2, S2, E.mono s2, ?_⟩
      have q3 := Aft.bindO q2
      revert q3
      cases hl : fl r h2 with
      | bad => exact fun z => z
      | exc e h1 => exact fun z => z
      | ok l h3 =>
        intro z m3 H3 s3 S3
        obtain ⟨m4, h4, s4, S4, q4⟩ := z m3 H3 s3 S3
        refine ⟨m4, r, h4, S4, (E.mono s2).mono s4, ?_⟩
        have q5 := Aft.bindO q4
        revert q5
        cases hu : fu r h4 with
        | bad => exact fun z => z
        | exc e h1 => exact fun z => z
        | ok u h5 =>
          intro z m5 H5 s5 S5
          obtain ⟨m6, h6, s6, S6, q6⟩ := z m5 H5 s5 S5
          exact hp m6 h6 H5 x2 l u v Q S6 ((r2.mono s4).mono s6) (Aft.p q6)
theorem je_callB {rd : List V → Hp → VK → Prop} {pp : PN} {id : String} {x : Str} (hc : CallR X (.builtin id) rd) (hp : OkN G rd pp) (hg : Gl X x) (hm : X.mg x = none) (hv : bootBuiltins x = some (.builtin id)) (ha : JA X G W (e :: es) fa) (hn : x ≠ "__name__" := by decide) (hdb : (x == ("__debug__" : Str)) = false := by decide)
    (he : starEach (e :: es) X.env = (false, eval e X.env) :: starEach es X.env := by rfl) (hpl : (backTo pos (starEach es X.env)).any (·.1) = false := by rfl) : JE X G W (.Call (.Name x p) (e :: es) [] pos) (eArg pp fa) :=
  pe_imp (pe_callB hc hg hm hv ha hn hdb he hpl) fun σ H Q t => tE_args (R := fun vs H => rd vs H Q) t fun m h H xs vs r S E rr q => hp m h H xs vs Q S rr (Aft.p q)
theorem je_callTy {rd : List V → Hp → VK → Prop} {pp : PN} {T : String} {x : Str} (hc : CallR X (.type T) rd) (hp : OkN G rd pp) (hg : Gl X x) (hm : X.mg x = none) (hv : bootBuiltins x = some (.type T)) (ha : JA X G W (e :: es) fa) (hn : x ≠ "__name__" := by decide) (hdb : (x == ("__debug__" : Str)) = false := by decide)
    (he : starEach (e :: es) X.env = (false, eval e X.env) :: starEach es X.env := by rfl) (hpl : (backTo pos (starEach es X.env)).any (·.1) = false := by rfl) : JE X G W (.Call (.Name x p) (e :: es) [] pos) (eArg pp fa) :=
  pe_imp (pe_callTy hc hg hm hv ha hn hdb he hpl) fun σ H Q t => tE_args (R := fun vs H => rd vs H Q) t fun m h H xs vs r S E rr q => hp m h H xs vs Q S rr (Aft.p q)
end
end Z
/-! Zr3: targets, statements, loops, comprehensions. -/
namespace Z
open PySem L2
/-! ### targets -/
def AftG (G : Par) (m : List Addr) (H : Hp) (r : Res PEnv) (Q : L2.St → Hp → Prop) : Prop := match r with
  | .ok e h' => ∀ m' H' σ', Step m H m' H' → Sim G m' h' H' → REnv G.K m' H' e σ' → Q σ' H'
  | _ => False
def tG (G : Par) (g : GF) : TG := fun v σ H Q => ∃ m r h x, Sim G m h H ∧ REnv G.K m H r σ ∧ RV G.K m H x v ∧ AftG G m H (g x r h) Q
def tGs (G : Par) (g : GFs) : TGs := fun vs σ H Q => ∃ m r h xs, Sim G m h H ∧ REnv G.K m H r σ ∧ RVs G.K m H xs vs ∧ AftG G m H (g xs r h) Q
abbrev JG (X : Cx) (G : Par) (e : Expr) (g : GF) : Prop := PG X e (tG G g)
abbrev JGs (X : Cx) (G : Par) (es : List Expr) (g : GFs) : Prop := PGs X es (tGs G g)
theorem pg_imp {X : Cx} {e : Expr} {t u : TG} (h : PG X e t) (i : ∀ v σ H Q, u v σ H Q → t v σ H Q) : PG X e u := ⟨fun pins s σ H v w Q I r q => h.run pins s σ H v w Q I r (i v σ H Q q)⟩
theorem pgs_imp {X : Cx} {e : List Expr} {t u : TGs} (h : PGs X e t) (i : ∀ v σ H Q, u v σ H Q → t v σ H Q) : PGs X e u := ⟨fun pins s σ H v w Q I r q => h.run pins s σ H v w Q I r (i v σ H Q q)⟩
theorem AftG.step {G : Par} {m m1 : List Addr} {H H1 : Hp} (s : Step m H m1 H1) {Q : L2.St → Hp → Prop} : ∀ {r : Res PEnv}, AftG G m H r Q → AftG G m1 H1 r Q
  | .ok _ _, h => fun m' H' σ' t => h m' H' σ' (s.trans t)
  | .exc _ _, h => h
  | .bad, h => h
section
variable {X : Cx} {G : Par} {W : WX} {a b c e o i : Expr} {f f1 f2 k : EF} {g : GF} {gs : GFs} {pos pos' p : Pos} {es : List Expr}
theorem jg_name {j : Nat} {x : Str} (hN : X.N.Nodup) (hi : X.N[j]? = some x) (hx : Loc X.env.scope x) (hf : X.fn x = true ∨ X.env.scope.names.lookup x = some .local := by first | exact .inl rfl | exact .inr rfl | assumption) : JG X G (.Name x pos) (gName j) :=
  pg_imp (pg_name hN hi hx hf) fun v σ H Q ⟨m, r, h, x, S, E, R, q⟩ => by
    unfold Z.gName at q
    split at q
    · rename_i hl
      exact q m H _ Step.refl S (E.set hl R)
    · exact q.elim
theorem jgs_nil : JGs X G [] gsNil := pgs_imp pgs_nil fun vs σ H Q ⟨m, r, h, xs, S, E, R, q⟩ => by
  cases xs with
  | nil => rw [RVs] at R; exact ⟨R, q m H σ Step.refl S E⟩
  | cons => exact q.elim
theorem jgs_cons (h1 : JG X G e g) (h2 : JGs X G es gs) (hs : (assignEach (e :: es) X.env).map (·.2) = assign e X.env :: (assignEach es X.env).map (·.2) := by rfl) : JGs X G (e :: es) (gsCons g gs) :=
  pgs_imp (pgs_cons h1 h2 hs) fun vs σ H Q ⟨m, r, h, xs, S, E, R, q⟩ => by
    cases xs with
    | nil => exact q.elim
    | cons x t =>
      rw [RVs] at R
      obtain ⟨v, w, rfl, r1, r2⟩ := R
      refine ⟨v, w, rfl, m, r, h, x, S, E, r1, ?_⟩
      unfold gsCons at q
      revert q
      dsimp only
      cases hg : g x r h with
      | bad => exact fun z => z
      | exc e h1 => exact fun z => z.elim
      | ok r1' h1 => exact fun q m1 H1 σ1 s1 S1 E1 => ⟨m1, r1', h1, t, S1, E1, r2.mono s1, AftG.step s1 q⟩
theorem jg_tup {j n : Nat} (hc : X.calm = true) (h : JGs X G es gs) (hK : G.K = X.K := by rfl) (hn : (assignEach es X.env).length = n := by rfl) (hst : (assignEach es X.env).findIdx? (·.1) = none := by rfl) : JG X G (.Tuple es j pos) (Z.gTup n gs) :=
  pg_imp (pg_tup hc h hn hst) fun v σ H Q ⟨m, r, h, x, S, E, R, q⟩ => by
    cases x with
    | tup xs =>
      unfold Z.gTup at q
      dsimp only at q
      split at q
      · rename_i hl
        rw [RV] at R
        obtain ⟨a, vs, rfl, t, rr⟩ := R
        exact ⟨a, vs, rfl, by rw [← hK]; exact t, by rw [rr.length]; exact hl, m, r, h, xs, S, E, rr, q⟩
      · exact q.elim
    | _ => exact q.elim
/-- o[i] = .. ; what the parts may raise is not met -/
theorem jg_sub {t : TSet} {pp : P3} (ho : JE X G (fun _ _ _ _ => False) o f1) (hi : JE X G (fun _ _ _ _ => False) i f2) (hs : PSet X t) (hp : Ok3 G t pp)
    (ha : ∀ v, assign (.Subscript o i pos) X.env v = (do
      let ov ← holding [v] (eval o X.env)
      let iv ← holding [v, ov] (eval i X.env)
      standAt pos
      holding [v, ov, iv] (setItem ov iv v)
      release [v, ov, iv] []) := by intro _; rfl) : JG X G (.Subscript o i pos) (Z.gSub pp f1 f2) :=
  pg_imp (pg_sub ho hi hs ha) fun v σ H Q ⟨m, r, h, x, S, E, R, q⟩ => by
    refine ⟨m, r, h, S, E, ?_⟩
    unfold Z.gSub Res.bind at q
    revert q
    cases hf : f1 r h with
    | bad => exact fun z => z
    | exc e h1 => exact fun z => z.elim
    | ok y h1 =>
      intro q m1 H1 vo s1 S1 r1
      refine ⟨m1, r, h1, S1, E.mono s1, ?_⟩
      dsimp only at q
      revert q
      cases hg : f2 r h1 with
      | bad => exact fun z => z
      | exc e h1 => exact fun z => z.elim
      | ok w h2 =>
        intro q m2 H2 vi s2 S2 r2
        refine hp m2 h2 H2 y w x vo vi v (fun H3 => Q σ H3) S2 (r1.mono s2) r2 ((R.mono s1).mono s2) ?_
        dsimp only at q ⊢
        revert q
        cases pp y w x h2 with
        | none => exact fun z => z
        | some h3 => exact fun q m3 H3 s3 S3 => q m3 H3 σ ((s1.trans s2).trans s3) S3 (((E.mono s1).mono s2).mono s3)

/-! ### statements -/
variable {st : Stmt} {rest : List Stmt} {s t u : SF}
theorem tS_E {R : V → Hp → Prop} {σ : L2.St} {D : Ends} {m : List Addr} {H : Hp} {r : PEnv} {h : PH} {p : PV → PH → SR} (S : Sim G m h H) (E : REnv G.K m H r σ) (q : AftS G W m H ((f r h).toS r p) D)
    (k : ∀ m1 H1 h1 x v, Step m H m1 H1 → Sim G m1 h1 H1 → REnv G.K m1 H1 r σ → RV G.K m1 H1 x v → AftS G W m1 H1 (p x h1) D → R v H1) : tE G W f σ H R := by
  refine ⟨m, r, h, S, E, ?_⟩
  unfold Res.toS at q
  revert q
  cases hf : f r h with
  | bad => exact fun z => z
  | exc e h1 => exact fun q m1 H1 d s1 S1 x1 => q m1 H1 σ d s1 S1 (E.mono s1) x1
  | ok x h1 => exact fun q m1 H1 v s1 S1 r1 => k m1 H1 h1 x v s1 S1 (E.mono s1) r1 (AftS.step s1 q)
theorem js_nil : JSs X G W [] sNx := pss_imp pss_nil fun D σ H ⟨m, r, h, S, E, q⟩ => q m H σ Step.refl S E
theorem js_pass : JS X G W (.Pass pos) sNx := ps_imp ps_pass fun D σ H ⟨m, r, h, S, E, q⟩ => q m H σ Step.refl S E
theorem js_doc {x j} : JS X G W (.Expr (.Constant (.str x) j pos) pos') sNx := ps_imp ps_doc fun D σ H ⟨m, r, h, S, E, q⟩ => q m H σ Step.refl S E
theorem js_one (h : JS X G W st s) : JSs X G W [st] s := pss_one h
theorem AftS.thn {m : List Addr} {H : Hp} {r : SR} {D : Ends} (q : AftS G W m H (r.thn t) D) : AftS G W m H r { D with nx := tS G W t D } := by
  cases r with
  | nx e h => exact fun m1 H1 σ1 s1 S1 E1 => ⟨m1, e, h, S1, E1, AftS.step s1 q⟩
  | ret v h => exact q
  | exc e r h => exact q
  | bad => exact q
theorem js_cons (h1 : JS X G W st s) (h2 : JSs X G W rest t) : JSs X G W (st :: rest) (sSeq s t) :=
  pss_imp (pss_cons h1 h2) fun D σ H ⟨m, r, h, S, E, q⟩ => ⟨m, r, h, S, E, AftS.thn q⟩
theorem js_expr (he : JE X G W e f) (hs : swapsWith e none pos.line X.env = pure false := by rfl) : JS X G W (.Expr e pos) (sExpr f) :=
  ps_imp (ps_expr he hs) fun D σ H ⟨m, r, h, S, E, q⟩ => tS_E S E q fun m1 H1 h1 x v s1 S1 E1 r1 q1 => q1 m1 H1 σ Step.refl S1 E1
theorem js_ret (he : JE X G W e f) : JS X G W (.Return (some e) pos) (sRet f) :=
  ps_imp (ps_ret he) fun D σ H ⟨m, r, h, S, E, q⟩ => tS_E S E q fun m1 H1 h1 x v s1 S1 E1 r1 q1 => q1 m1 H1 v Step.refl S1 r1
theorem js_retN : JS X G W (.Return none pos) sRetN := ps_imp ps_retN fun D σ H ⟨m, r, h, S, E, q⟩ => q m H .non Step.refl S (by rw [RV])
theorem js_if {x y : List Stmt} (hc : JT X G W c f) (ha : JSs X G W x s) (hb : JSs X G W y t) : JS X G W (.If c x y pos) (sIf f s t) :=
  ps_imp (ps_if hc ha hb) fun D σ H ⟨m, r, h, S, E, q⟩ => tS_E (R := fun v H1 => ∃ b, v = .bl b ∧ if b = true then tS G W s D σ H1 else tS G W t D σ H1) S E q fun m1 H1 h1 x v s1 S1 E1 r1 q1 => by
    cases x with
    | bl b =>
      refine ⟨b, RV.bl_inv r1, ?_⟩
      cases b with
      | true => exact ⟨m1, r, h1, S1, E1, q1⟩
      | false => exact ⟨m1, r, h1, S1, E1, q1⟩
    | _ => exact q1.elim
theorem js_never : JS X G W st sNever := ps_imp ps_never fun D σ H ⟨m, r, h, S, E, q⟩ => q
theorem jss_never : JSs X G W rest sNever := pss_imp pss_never fun D σ H ⟨m, r, h, S, E, q⟩ => q
theorem js_asg {tg : Expr} (he : JE X G W e f) (hg : JG X G tg g) (hs : swapsWithSole [tg] e pos.line X.env = pure false := by rfl) (hw : swappedStores [tg] e X.env = pure none := by rfl)
    (h1 : (assignEach [tg] X.env).map (·.2) = [assign tg X.env] := by rfl) : JS X G W (.Assign [tg] e pos) (sAsg f g) :=
  ps_imp (ps_asg he hg hs hw h1) fun D σ H ⟨m, r, h, S, E, q⟩ => tS_E (R := fun v H1 => tG G g v σ H1 D.nx) S E q fun m1 H1 h1 x v s1 S1 E1 r1 q1 => by
    refine ⟨m1, r, h1, x, S1, E1, r1, ?_⟩
    revert q1
    cases g x r h1 with
    | ok r2 h2 => exact fun q => q
    | exc e h2 => exact fun q => q.elim
    | bad => exact fun q => q
theorem sAsg_aft {i : Nat} {σ : L2.St} {D : Ends} {m : List Addr} {H : Hp} {r : PEnv} {h : PH} (S : Sim G m h H) (E : REnv G.K m H r σ) (q : AftS G W m H (sAsg f (Z.gName i) r h) D) : tE G W f σ H fun v H1 => D.nx (σ.set i (some v)) H1 :=
  tS_E S E q fun m1 H1 h1 x v s1 S1 E1 r1 q1 => by
    unfold Z.gName at q1
    split at q1
    · rename_i r2 h2 e
      split at e
      · rename_i hl
        cases e
        exact q1 m1 H1 _ Step.refl S1 (E1.set hl r1)
      · cases e
    · exact q1.elim
theorem js_set {i : Nat} {x : Str} (hN : X.N.Nodup) (hi : X.N[i]? = some x) (hx : Loc X.env.scope x) (he : JE X G W e f) (hs : swapsWith e (some (.Name x pos')) pos.line X.env = pure false := by rfl) (hf : X.fn x = true ∨ X.env.scope.names.lookup x = some .local := by first | exact .inl rfl | exact .inr rfl | assumption) :
    JS X G W (.Assign [.Name x pos'] e pos) (sAsg f (Z.gName i)) :=
  ps_imp (ps_set hN hi hx he hs hf) fun D σ H ⟨m, r, h, S, E, q⟩ => sAsg_aft S E q
theorem noRd_ins {H : Hp} {a C dx : Addr} {fs : List (Str × V)} (x : H a = some (.ins C dx fs)) : ∀ xs, ¬ Rd H a (.tup xs) := fun xs r => by
  rcases r with r | ⟨u, r⟩ <;> rw [x] at r <;> cases r
theorem setFld_sim {cs : List Nat} {n : Nat} {name : Str} {x : PV} {v : V} {m : List Addr} {h h3 : PH} {H : Hp} {a : Addr} (S : Sim G m h H) (hn : m[n]? = some a) (q : setFld cs n name x h = some h3) (r : RV G.K m H x v) :
    ∃ c dx gs, c ∈ cs ∧ H a = some (.ins (G.ca c) dx gs) ∧ gs.length < 1000 ∧ Sim G m h3 (upd H a (.ins (G.ca c) dx (putF name v gs))) ∧ TK H (upd H a (.ins (G.ca c) dx (putF name v gs))) := by
  unfold setFld at q
  split at q
  · rename_i c fs hx
    split at q
    · rename_i hc
      cases q
      obtain ⟨a', ha', dx, gs, hH, hfs⟩ := S.ob n _ hx
      rw [hn] at ha'; cases ha'
      have t := TK.upd (o := .ins (G.ca c) dx (putF name v gs)) (noRd_ins hH)
      refine ⟨c, dx, gs, hc.1, hH, by rw [hfs.length]; exact hc.2, ?_, t⟩
      exact S.set hx hn (fun _ e => by cases e) (fun _ e => by cases e) (noRd_ins hH) (fun z xs e => by rw [hH] at e; cases e) ⟨dx, _, upd_same, (FsR.put r hfs).mono (Step.of t)⟩
    · cases q
  · cases q
theorem js_fld {name : Str} {cs : List Nat} (ho : JE X G W o f1) (hv : JE X G W e f) (hc : ∀ c ∈ cs, Cls X.K (G.ca c) ∧ NoAttr X.K (G.ca c) name) (hs : swapsWith e (some (.Attribute o name pos')) pos.line X.env = pure false := by rfl) :
    JS X G W (.Assign [.Attribute o name pos'] e pos) (Z.sFld cs f1 f name) :=
  ps_imp (ps_fld ho hv hs) fun D σ H ⟨m, r, h, S, E, q⟩ => tS_E (R := fun v H1 => tE G W f1 σ H1 fun x H2 => ∃ a C dx fs, x = .ref a ∧ H2 a = some (.ins C dx fs) ∧ Cls X.K C ∧ NoAttr X.K C name ∧ fs.length < 1000 ∧ D.nx σ (upd H2 a (.ins C dx (putF name v fs)))) S E q
    fun m1 H1 h1 x v s1 S1 E1 r1 q1 => tS_E S1 E1 q1 fun m2 H2 h2 y w s2 S2 E2 r2 q2 => by
      cases y with
      | ref n =>
        dsimp only at q2
        cases hf : setFld cs n name x h2 with
        | none => rw [hf] at q2; exact q2.elim
        | some h3 =>
          rw [hf] at q2
          rw [RV] at r2
          obtain ⟨a, ha, rfl⟩ := r2
          obtain ⟨c, dx, gs, k1, k2, k3, k4, k5⟩ := setFld_sim S2 ha hf (r1.mono s2)
          exact ⟨a, _, dx, gs, rfl, k2, (hc c k1).1, (hc c k1).2, k3, q2 m2 _ σ (Step.of k5) k4 (E2.mono (Step.of k5))⟩
      | _ => exact q2.elim

/-! ### while -/
theorem js_while {body : List Stmt} (hp : PassesOwn (model X.prog X.w) X.A X.env X.xe) (hc : JT X G W c f) (hb : JSs X G W body s) : JS X G W (.While c body [] pos) (sWhile f s) :=
  ps_imp (ps_while hp hc hb) fun D σ H ⟨m, r, h, S, E, q⟩ => by
    refine ⟨fun n σ H => ∃ m r h, Sim G m h H ∧ REnv G.K m H r σ ∧ AftS G W m H (whileN f s n r h) D, ⟨big, m, r, h, S, E, q⟩, ?_⟩
    rintro n σ H ⟨m, r, h, S, E, q⟩
    cases n with
    | zero => exact q.elim
    | succ n =>
      unfold whileN at q
      refine tS_E (R := fun v H1 => ∃ b, v = .bl b ∧ _) S E q fun m1 H1 h1 x v s1 S1 E1 r1 q1 => ?_
      cases x with
      | bl b =>
        refine ⟨b, RV.bl_inv r1, ?_⟩
        cases b with
        | true =>
          refine ⟨fun σ H => ∃ m r h, Sim G m h H ∧ REnv G.K m H r σ ∧ AftS G W m H (whileN f s n r h) D, fun σ' H' w => ⟨n, Nat.lt_succ_self n, w⟩, m1, r, h1, S1, E1, ?_⟩
          have q2 : AftS G W m1 H1 ((s r h1).thn (whileN f s n)) D := q1
          revert q2
          cases s r h1 with
          | nx e h => exact fun q2 m2 H2 σ2 s2 S2 E2 => ⟨m2, e, h, S2, E2, AftS.step s2 q2⟩
          | ret v h => exact fun q2 => q2
          | exc e r h => exact fun q2 => q2
          | bad => exact fun q2 => q2
        | false => exact q1 m1 H1 σ Step.refl S1 E1
      | _ => exact q1.elim

/-! ### for -/
/-- what the walked thing is by the machine -/
def Walks (G : Par) (m0 : List Addr) (H0 : Hp) (s : Src) (J : It) : Prop := ∀ (i : Nat) (m : List Addr) (H : Hp) (h : PH), Step m0 H0 m H → Sim G m h H →
  (s.get i h = some none → J.stop i H) ∧ ∀ x, s.get i h = some (some x) → J.go i H ∧ ∀ v H', J.yld i H v H' → ∃ m', Step m H m' H' ∧ Sim G m' h H' ∧ RV G.K m' H' x v
def AftI (G : Par) (W : WX) (σ : L2.St) (m : List Addr) (H : Hp) (r : Res Src) (R : It → Hp → Prop) : Prop := match r with
  | .ok s h' => ∀ m' H' J, Step m H m' H' → Sim G m' h' H' → Walks G m' H' s J → R J H'
  | .exc e h' => ∀ m' H' d, Step m H m' H' → Sim G m' h' H' → RX G m' H' e d → W (.ref (G.ca e.c)) d σ H'
  | .bad => False
def tI (G : Par) (W : WX) (f : IF) : TI := fun σ H R => ∃ m r h, Sim G m h H ∧ REnv G.K m H r σ ∧ AftI G W σ m H (f r h) R
abbrev JI (X : Cx) (G : Par) (W : WX) (tg e : Expr) (f : IF) : Prop := PI X tg e (tI G W f)
theorem pi_imp {X : Cx} {tg e : Expr} {t u : TI} (h : PI X tg e t) (i : ∀ σ H R, u σ H R → t σ H R) : PI X tg e u := ⟨fun pins s σ H R I q => h.run pins s σ H R I (i σ H R q)⟩
theorem js_for {tg iter : Expr} {body : List Stmt} {fi : IF} (hp : PassesOwn (model X.prog X.w) X.A X.env X.xe) (hc : X.calm = true) (hi : JI X G W tg iter fi) (hg : JG X G tg g) (hb : JSs X G W body s)
    (hs : ∀ x, foldedSetIterable iter X.env x = pure x := by intro _; rfl) : JS X G W (.For tg iter body [] pos) (sFor fi g s) :=
  ps_imp (ps_for hp hc hi hg hb hs) fun D σ H ⟨m, r, h, S, E, q⟩ => by
    refine ⟨m, r, h, S, E, ?_⟩
    unfold sFor at q
    revert q
    cases fi r h with
    | bad => exact fun q => q
    | exc e h1 => exact fun q m1 H1 d s1 S1 x1 => q m1 H1 σ d s1 S1 (E.mono s1) x1
    | ok w h1 =>
      intro q m1 H1 J s1 S1 w1
      have q1 : AftS G W m H (forG w.get g s w.n 0 r h1) D := q
      refine ⟨fun i n σ H => ∃ m r h, Step m1 H1 m H ∧ Sim G m h H ∧ REnv G.K m H r σ ∧ AftS G W m H (forG w.get g s n i r h) D, ⟨w.n, m1, r, h1, Step.refl, S1, E.mono s1, AftS.step s1 q1⟩, ?_⟩
      rintro i n σ H ⟨m, r, h, s2, S2, E2, q2⟩
      obtain ⟨w2, w3⟩ := w1 i m H h s2 S2
      cases n with
      | zero =>
        unfold forG at q2
        split at q2
        · rename_i hg
          exact Or.inl ⟨w2 hg, q2 m H σ Step.refl S2 E2⟩
        · exact q2.elim
      | succ n =>
        unfold forG at q2
        split at q2
        · rename_i v hv
          obtain ⟨k1, k2⟩ := w3 v hv
          refine Or.inr ⟨k1, fun σ H => ∃ m r h, Step m1 H1 m H ∧ Sim G m h H ∧ REnv G.K m H r σ ∧ AftS G W m H (forG w.get g s n (i + 1) r h) D, fun σ' H' z => ⟨n, Nat.lt_succ_self n, z⟩, fun x H' y => ?_⟩
          obtain ⟨m3, s3, S3, r3⟩ := k2 x H' y
          refine ⟨m3, r, h, v, S3, E2.mono s3, r3, ?_⟩
          revert q2
          cases g v r h with
          | bad => exact fun q => q
          | exc e h => exact fun q => q.elim
          | ok r4 h4 =>
            intro q2 m4 H4 σ4 s4 S4 E4
            refine ⟨m4, r4, h4, S4, E4, ?_⟩
            have q3 : AftS G W m4 H4 ((s r4 h4).thn (forG w.get g s n (i + 1))) D := AftS.step (s3.trans s4) q2
            revert q3
            cases s r4 h4 with
            | nx e h => exact fun q3 m5 H5 σ5 s5 S5 E5 => ⟨m5, e, h, ((s2.trans s3).trans s4).trans s5, S5, E5, AftS.step s5 q3⟩
            | ret v h => exact fun q3 => q3
            | exc e r h => exact fun q3 => q3
            | bad => exact fun q3 => q3
        · exact q2.elim

end
end Z
/-! Zr4: what is walked, comprehensions, raise, try. -/
namespace Z
open PySem L2
theorem pi_or {X : Cx} {tg e : Expr} {t u : TI} (h : PI X tg e t) (h' : PI X tg e u) : PI X tg e (fun σ H R => t σ H R ∨ u σ H R) :=
  ⟨fun pins s σ H R I q => q.elim (fun q => h.run pins s σ H R I q) fun q => h'.run pins s σ H R I q⟩
section
variable {X : Cx} {G : Par} {W : WX} {tg e e2 : Expr} {f : EF} {fa : AF} {fi : IF} {pos p tpos : Pos} {elts : List Expr} {kk : Nat}
/-- an iterable by its value -/
theorem tI_E {σ : L2.St} {H : Hp} {R : It → Hp → Prop} {p : PV → PH → Res Src} {Q : V → Hp → Prop} (t : tI G W (fun r h => (f r h).bind p) σ H R)
    (k : ∀ m h H x v, Sim G m h H → RV G.K m H x v → AftI G W σ m H (p x h) R → Q v H) : tE G W f σ H Q := by
  obtain ⟨m, r, h, S, E, q⟩ := t
  refine ⟨m, r, h, S, E, ?_⟩
  have q : AftI G W σ m H ((f r h).bind p) R := q
  revert q
  cases f r h with
  | bad => exact fun q => q
  | exc e h1 => exact fun q => q
  | ok x h1 =>
    intro q m1 H1 v s1 S1 r1
    refine k m1 h1 H1 x v S1 r1 ?_
    have q : AftI G W σ m H (p x h1) R := q
    revert q
    cases p x h1 with
    | bad => exact fun q => q
    | exc e h2 => exact fun q m2 H2 d s2 => q m2 H2 d (s1.trans s2)
    | ok s h2 => exact fun q m2 H2 J s2 => q m2 H2 J (s1.trans s2)
theorem tI_A {σ : L2.St} {H : Hp} {R : It → Hp → Prop} {p : List PV → PH → Res Src} {Q : List V → Hp → Prop} (t : tI G W (fun r h => (fa r h).bind p) σ H R)
    (k : ∀ m h H x v, Sim G m h H → RVs G.K m H x v → AftI G W σ m H (p x h) R → Q v H) : tA G W fa σ H Q := by
  obtain ⟨m, r, h, S, E, q⟩ := t
  refine ⟨m, r, h, S, E, ?_⟩
  have q : AftI G W σ m H ((fa r h).bind p) R := q
  revert q
  cases fa r h with
  | bad => exact fun q => q
  | exc e h1 => exact fun q => q
  | ok x h1 =>
    intro q m1 H1 v s1 S1 r1
    refine k m1 h1 H1 x v S1 r1 ?_
    have q : AftI G W σ m H (p x h1) R := q
    revert q
    cases p x h1 with
    | bad => exact fun q => q
    | exc e h2 => exact fun q m2 H2 d s2 => q m2 H2 d (s1.trans s2)
    | ok s h2 => exact fun q m2 H2 J s2 => q m2 H2 J (s1.trans s2)
theorem walks_list {m0 : List Addr} {H0 : Hp} {n k : Nat} {a : Addr} (ha : m0[n]? = some a) : Walks G m0 H0 (srcSeq (.ref n) k) (Itl G.K a) := fun i m H h s S => by
  have hm : m[n]? = some a := by
    obtain ⟨t, rfl⟩ := s.pre
    exact pre_get ha
  refine ⟨fun e => ?_, fun x e => ?_⟩
  · cases hl : seqOf h (.ref n) with
    | none => simp [srcSeq, hl] at e
    | some xs =>
      simp [srcSeq, hl] at e
      obtain ⟨b, vs, hb, q, r⟩ := S.list hl
      rw [hm] at hb; cases hb
      exact ⟨vs, q, by rw [r.length]; exact e⟩
  · cases hl : seqOf h (.ref n) with
    | none => simp [srcSeq, hl] at e
    | some xs =>
      simp [srcSeq, hl] at e
      obtain ⟨b, vs, hb, q, r⟩ := S.list hl
      rw [hm] at hb; cases hb
      obtain ⟨v, hv, rv⟩ := r.get e
      refine ⟨⟨vs, v, q, hv⟩, fun u H' ⟨e1, e2⟩ => ?_⟩
      subst e1
      have e3 := e2 vs q
      rw [hv] at e3; cases e3
      exact ⟨m, Step.refl, S, rv⟩
theorem walks_tup {m0 : List Addr} {H0 : Hp} {xs : List PV} {vs : List V} {k : Nat} {a : Addr} (q : SqT G.K H0 a vs) (r : RVs G.K m0 H0 xs vs) : Walks G m0 H0 (srcSeq (.tup xs) k) (Itt G.K a) := fun i m H h s S => by
  have q' := sqT_tk s.tk q
  have r' := r.mono s
  refine ⟨fun e => ?_, fun x e => ?_⟩
  · simp [srcSeq, seqOf] at e
    exact ⟨vs, q', by rw [r.length]; exact e⟩
  · simp [srcSeq, seqOf] at e
    obtain ⟨v, hv, rv⟩ := r'.get e
    refine ⟨⟨vs, v, q', hv⟩, fun u H' ⟨e1, e2⟩ => ?_⟩
    subst e1
    have e3 := e2 vs q'
    rw [hv] at e3; cases e3
    exact ⟨m, Step.refl, S, rv⟩
/-- a list, a tuple -/
theorem ji_seq (he : JE X G W e f) (hK : G.K = X.K := by rfl) : JI X G W tg e (iSeq f) :=
  pi_imp (pi_or (pi_list he) (pi_tup he)) fun σ H R t => by
    -- the value tells which
    obtain ⟨m, r, h, S, E, q⟩ := t
    have q0 := q
    cases hf : f r h with
    | bad => unfold iSeq Res.bind at q; rw [hf] at q; exact q.elim
    | exc x h1 =>
      unfold iSeq Res.bind at q; rw [hf] at q
      exact Or.inl ⟨m, r, h, S, E, by rw [hf]; exact q⟩
    | ok x h1 =>
      unfold iSeq Res.bind at q; rw [hf] at q
      dsimp only at q
      cases x with
      | ref n =>
        refine Or.inl ⟨m, r, h, S, E, ?_⟩
        rw [hf]
        intro m1 H1 v s1 S1 r1
        cases hl : seqOf h1 (.ref n) with
        | none => rw [hl] at q; exact q.elim
        | some xs =>
          rw [hl] at q
          rw [RV] at r1
          obtain ⟨a, ha, rfl⟩ := r1
          obtain ⟨b, vs, hb, q2, r2⟩ := S1.list hl
          rw [ha] at hb; cases hb
          rw [hK] at q2
          refine ⟨a, rfl, ⟨vs, q2⟩, ?_⟩
          have := q m1 H1 (Itl G.K a) s1 S1 (walks_list ha)
          rw [hK] at this
          exact this
      | tup xs =>
        refine Or.inr ⟨m, r, h, S, E, ?_⟩
        rw [hf]
        intro m1 H1 v s1 S1 r1
        rw [RV] at r1
        obtain ⟨a, vs, rfl, q2, r2⟩ := r1
        have := q m1 H1 (Itt G.K a) s1 S1 (walks_tup q2 r2)
        rw [hK] at this q2
        exact ⟨a, rfl, ⟨vs, q2⟩, this⟩
      | _ => exact q.elim
theorem walks_rng {m0 : List Addr} {H0 : Hp} {lo : Int} {n : Nat} : Walks G m0 H0 (srcRng lo n) (Itr lo n) := fun i m H h s S => by
  refine ⟨fun e => ?_, fun x e => ?_⟩
  · simp [srcRng] at e
    exact e
  · unfold srcRng at e
    dsimp only at e
    split at e
    · rename_i hi
      cases e
      refine ⟨hi, fun v H' ⟨e1, e2⟩ => ?_⟩
      subst e1 e2
      exact ⟨m, Step.refl, S, by rw [RV]⟩
    · cases e
theorem rvs_int1 {K : PySem.W.Frag} {m : List Addr} {H : Hp} {n : Int} {vs : List V} (r : RVs K m H [.int n] vs) : vs = [.int n] := by
  obtain ⟨v, rfl, q⟩ := r.inv1
  rw [RV] at q; subst q; rfl
theorem rvs_int2 {K : PySem.W.Frag} {m : List Addr} {H : Hp} {n k : Int} {vs : List V} (r : RVs K m H [.int n, .int k] vs) : vs = [.int n, .int k] := by
  obtain ⟨v, u, rfl, q, q2⟩ := r.inv2
  rw [RV] at q q2; subst q q2; rfl
theorem inR_ok {i : Int} (h : inR i = true) : -(2 ^ 62) ≤ i ∧ i < 2 ^ 62 := of_decide_eq_true h
theorem ji_rng1 {a : Expr} (hg : Gl X "range") (hm : X.mg "range" = none) (ha : JA X G W [a] fa) (hs : starEach [a] X.env = [(false, eval a X.env)] := by rfl) : JI X G W tg (.Call (.Name "range" p) [a] [] pos) (Z.iRng1 fa) :=
  pi_imp (pi_range1 hg hm ha hs) fun σ H R t => tI_A t fun m h H x v S r q => by
    split at q
    · rename_i n
      split at q
      · rename_i hn
        exact ⟨n, rvs_int1 r, (inR_ok hn).1, (inR_ok hn).2, q m H _ Step.refl S walks_rng⟩
      · exact q.elim
    · exact q.elim
theorem ji_rng2 {a b : Expr} (hg : Gl X "range") (hm : X.mg "range" = none) (ha : JA X G W [a, b] fa) (hs : starEach [a, b] X.env = [(false, eval a X.env), (false, eval b X.env)] := by rfl) (hs2 : starEach [b] X.env = [(false, eval b X.env)] := by rfl) :
    JI X G W tg (.Call (.Name "range" p) [a, b] [] pos) (Z.iRng2 fa) :=
  pi_imp (pi_range2 hg hm ha hs hs2) fun σ H R t => tI_A t fun m h H x v S r q => by
    split at q
    · rename_i i j
      split at q
      · rename_i hn
        rw [Bool.and_eq_true] at hn
        exact ⟨i, j, rvs_int2 r, ⟨(inR_ok hn.1).1, (inR_ok hn.1).2, (inR_ok hn.2).1, (inR_ok hn.2).2⟩, q m H _ Step.refl S walks_rng⟩
      · exact q.elim
    · exact q.elim
/-! a text, sign by sign -/
def sg (c : Nat) : Str := ⟨#[c]⟩
theorem sOk_code {x : Str} {c i : Nat} (ok : sOk x = true) (h : x.cps[i]? = some c) : c < 0x110000 := by
  unfold sOk PyData.strOk at ok
  rw [Bool.and_eq_true] at ok
  have := ok.1
  rw [Array.all_eq_true] at this
  obtain ⟨hi, e⟩ := Array.getElem?_eq_some_iff.mp h
  have := this i hi
  rw [e] at this
  exact of_decide_eq_true this
theorem sg_ok {x : Str} {c i : Nat} (ok : sOk x = true) (h : x.cps[i]? = some c) : sOk (sg c) = true := by
  have hc := sOk_code ok h
  unfold sOk PyData.strOk sg
  simp [Str.length, hc, sizeLine_eq]
def srcStr (x : Str) : Src := ⟨x.cps.size, fun i _ => some (x.cps[i]?.map fun c => .str (sg c))⟩
def iStrF (f : EF) : IF := fun r h => (f r h).bind fun v h1 => match v with
  | .str x => .ok (srcStr x) h1
  | _ => .bad
theorem ji_str (he : JE X G W e f) : JI X G W tg e (iStrF f) :=
  pi_imp (pi_str he) fun σ H R t => tI_E t fun m h H x v S r q => by
    cases x with
    | str x =>
      rw [RV] at r
      obtain ⟨r, ok⟩ := r
      refine ⟨x, r, q m H _ Step.refl S fun i m H h s S => ⟨fun e => ?_, fun y e => ?_⟩⟩
      · simp [srcStr] at e
        exact e
      · cases hc : x.cps[i]? with
        | none => simp [srcStr, hc] at e
        | some c =>
          simp [srcStr, hc] at e
          subst e
          refine ⟨(Array.getElem?_eq_some_iff.mp hc).1, fun v H' ⟨e1, c', e2, e3⟩ => ?_⟩
          subst e1
          rw [hc] at e2; cases e2
          exact ⟨m, Step.refl, S, by rw [RV]; exact ⟨e3, sg_ok ok hc⟩⟩
    | _ => exact q.elim
/-! enumerate(list), zip, reversed(list) -/
def srcEnum (v : PV) (n : Nat) : Src := ⟨n, fun i h => (seqOf h v).map fun xs => xs[i]?.map fun x => .tup [.int i, x]⟩
def iEnumF (fa : AF) : IF := fun r h => (fa r h).bind fun vs h1 => match vs with
  | [.ref n] => (match listAt h1 n with
    | some xs => .ok (srcEnum (.ref n) xs.length) h1
    | none => .bad)
  | _ => .bad
theorem ji_enum (hg : Gl X "enumerate") (hm : X.mg "enumerate" = none) (ha : JA X G W [e] fa) (hK : G.K = X.K := by rfl) (hs : starEach [e] X.env = [(false, eval e X.env)] := by rfl) :
    JI X G W (.Tuple elts kk tpos) (.Call (.Name "enumerate" p) [e] [] pos) (iEnumF fa) :=
  pi_imp (pi_enum hg hm ha hs) fun σ H R t => tI_A t fun m h H x v S r q => by
    split at q
    · rename_i n
      split at q
      · rename_i xs hl
        obtain ⟨w, rfl, rw'⟩ := r.inv1
        rw [RV] at rw'
        obtain ⟨a, ha, rfl⟩ := rw'
        obtain ⟨b, vs, hb, q2, r2⟩ := S.list hl
        rw [ha] at hb; cases hb
        rw [hK] at q2
        refine ⟨a, vs, rfl, q2, q m H _ Step.refl S fun i m1 H1 h1 s1 S1 => ?_⟩
        have hm : m1[n]? = some a := by
          obtain ⟨t, rfl⟩ := s1.pre
          exact pre_get ha
        refine ⟨fun z => ?_, fun y z => ?_⟩
        · cases hl : seqOf h1 (.ref n) with
          | none => simp [srcEnum, hl] at z
          | some ys =>
            simp [srcEnum, hl] at z
            obtain ⟨b, ws, hb, q3, r3⟩ := S1.list hl
            rw [hm] at hb; cases hb
            rw [hK] at q3
            exact ⟨ws, q3, by rw [r3.length]; exact z⟩
        · cases hl : seqOf h1 (.ref n) with
          | none => simp [srcEnum, hl] at z
          | some ys =>
            obtain ⟨b, ws, hb, q3, r3⟩ := S1.list hl
            rw [hm] at hb; cases hb
            rw [hK] at q3
            cases hy : ys[i]? with
            | none => simp [srcEnum, hl, hy] at z
            | some u =>
              simp [srcEnum, hl, hy] at z
              subst z
              obtain ⟨uv, hu, ru⟩ := r3.get hy
              refine ⟨⟨ws, uv, q3, hu⟩, fun v H' yy => ?_⟩
              obtain ⟨T, x, e1, e2, e3, e4⟩ := yy
              subst e1 e3
              have e5 := e4 ws q3
              rw [hu] at e5; cases e5
              have st : Step m1 H1 m1 (upd H1 T (.tup [.int i, uv])) := Step.of (TK.new e2)
              refine ⟨m1, st, S1.tup e2, ?_⟩
              rw [RV]
              exact ⟨T, _, rfl, SqT.of upd_same, RVs.cons (by rw [RV]) (RVs.cons (ru.mono st) RVs.nil)⟩
      · exact q.elim
    · exact q.elim
end
end Z
/-! Zr5: comprehensions, zip, reversed, raise, try. -/
namespace Z
open PySem L2
abbrev W0 : WX := fun _ _ _ _ => False
/-! ### comprehensions -/
/-- a target of names of the block -/
def CompTg (G : Par) (g0 : TG) (g : GF) (own : List Nat) : Prop := ∀ (v : V) (σ : L2.St) (H : Hp) (x : PV) (m : List Addr) (r : PEnv) (h : PH) (r1 : PEnv) (h1 : PH) (Q : L2.St → Hp → Prop), Sim G m h H → REnv G.K m H r (L2.wipe σ own) → RV G.K m H x v → g x r h = .ok r1 h1 →
  (h1 = h → ∀ σ2, L2.wipe σ2 own = L2.wipe σ own → REnv G.K m H r1 σ2 → Q σ2 H) → g0 v (L2.wipe σ own) H Q
theorem wipe_set {σ : L2.St} {x : Option V} {i : Nat} : ∀ {own : List Nat}, i ∈ own → L2.wipe (σ.set i x) own = L2.wipe σ own
  | [], h => by simp at h
  | j :: r, h => by
    rw [L2.wipe, L2.wipe]
    by_cases hij : i = j
    · subst hij
      by_cases hr : i ∈ r
      · rw [wipe_set hr]
      · have : ∀ (σ : L2.St) (l : List Nat), i ∉ l → L2.wipe (σ.set i x) l = (L2.wipe σ l).set i x := by
          intro σ l
          induction l with
          | nil => intro _; rfl
          | cons k t ih =>
            intro hk
            rw [List.mem_cons, not_or] at hk
            rw [L2.wipe, L2.wipe, ih hk.2, List.set_comm]
            exact hk.1
        rw [this σ r hr, List.set_set]
    · have hr : i ∈ r := by simpa [hij] using h
      rw [wipe_set hr]
theorem wipe_wipe {σ : L2.St} : ∀ (own l : List Nat), (∀ i ∈ l, i ∈ own) → L2.wipe (L2.wipe σ l) own = L2.wipe σ own
  | own, [], _ => rfl
  | own, j :: r, h => by
    rw [L2.wipe, wipe_set (h j (by simp))]
    exact wipe_wipe own r fun i hi => h i (by simp [hi])
theorem ct_name {G : Par} {i : Nat} {own : List Nat} (hi : i ∈ own) : CompTg G (L2.gName i) (Z.gName i) own := fun v σ H x m r h r1 h1 Q S E R e k => by
  unfold Z.gName at e
  split at e
  · rename_i hl
    cases e
    exact k rfl _ (by rw [wipe_set hi, wipe_wipe own own fun _ z => z]) (E.set hl R)
  · cases e
/-- several names -/
def CompTgs (G : Par) (g0 : TGs) (g : GFs) (own : List Nat) : Prop := ∀ (vs : List V) (σ σ1 : L2.St) (H : Hp) (xs : List PV) (m : List Addr) (r : PEnv) (h : PH) (r1 : PEnv) (h1 : PH) (Q : L2.St → Hp → Prop), L2.wipe σ1 own = L2.wipe σ own → Sim G m h H → REnv G.K m H r σ1 → RVs G.K m H xs vs → g xs r h = .ok r1 h1 →
  (h1 = h → ∀ σ2, L2.wipe σ2 own = L2.wipe σ own → REnv G.K m H r1 σ2 → Q σ2 H) → g0 vs σ1 H Q
theorem cts_nil {G : Par} {own : List Nat} : CompTgs G gNil gsNil own := fun vs σ σ1 H xs m r h r1 h1 Q w S E R e k => by
  cases xs with
  | nil =>
    rw [RVs] at R
    cases e
    exact ⟨R, k rfl σ1 w E⟩
  | cons => cases e
theorem cts_cons {G : Par} {i : Nat} {g0 : TGs} {g : GFs} {own : List Nat} (hi : i ∈ own) (hg : CompTgs G g0 g own) : CompTgs G (L2.gCons (L2.gName i) g0) (gsCons (Z.gName i) g) own := fun vs σ σ1 H xs m r h r1 h1 Q w S E R e k => by
  cases xs with
  | nil => cases e
  | cons x t =>
    rw [RVs] at R
    obtain ⟨v, u, rfl, q1, q2⟩ := R
    unfold gsCons Z.gName at e
    dsimp only at e
    split at e
    · rename_i hl
      exact ⟨v, u, rfl, hg u σ (σ1.set i (some v)) H t m _ h r1 h1 Q (by rw [wipe_set hi]; exact w) S (E.set hl q1) q2 e k⟩
    · cases e
theorem ct_tup {G : Par} {n : Nat} {g0 : TGs} {g : GFs} {own : List Nat} (hg : CompTgs G g0 g own) : CompTg G (L2.gTup G.K n g0) (Z.gTup n g) own := fun v σ H x m r h r1 h1 Q S E R e k => by
  unfold Z.gTup at e
  split at e
  · split at e
    · rename_i xs hl
      rw [RV] at R
      obtain ⟨a, vs, rfl, q, rr⟩ := R
      exact ⟨a, vs, rfl, q, by rw [rr.length]; exact hl, hg vs σ (L2.wipe σ own) H xs m r h r1 h1 Q (wipe_wipe own own fun _ z => z) S E rr e k⟩
    · cases e
  · cases e
section
variable {X : Cx} {G : Par} {W : WX} {tg elt iter e e2 c : Expr} {f t : EF} {fa : AF} {fi : IF} {g : GF} {g0 : TG} {pos p spos py tpos : Pos} {elts ifs : List Expr} {kk : Nat} {scope : Scope} {own : List (Str × Nat)}
abbrev JTs (X : Cx) (G : Par) (W : WX) (ifs : List Expr) (f : EF) : Prop := PTs X ifs (tT G W f)
theorem jts_nil : JTs X G W [] (eC (.bl true)) := ⟨fun pins s σ H Q I ⟨m, r, h, S, E, q⟩ => by
  refine pts_nil.run pins s σ H Q I ?_
  obtain ⟨b, e, q⟩ := q m H (.bl true) Step.refl S (by rw [RV])
  cases e
  exact q⟩
theorem jts_one (h : JT X G W c f) : JTs X G W [c] f := pts_one h
theorem lc_go {Q : VK} {σ : L2.St} {H : Hp} {o : List Nat} (cg : CompTg G g0 g o) (q : tE G W (eLc fi g t f o) σ H Q) : tLc (tI G W fi) g0 (tT G W0 t) (tE G W0 f) o σ H Q := by
  obtain ⟨m, r, h, S, E, q⟩ := q
  refine ⟨m, r, h, S, E, ?_⟩
  have q : Aft G W σ m H ((fi r h).bind fun s h1 => lcG s.get g t f (Z.wipe r o) h1.length s.n 0 (h1 ++ [.lst []])) Q := q
  revert q
  cases fi r h with
  | bad => exact fun q => q
  | exc e h1 => exact fun q => q
  | ok s h1 =>
    intro q m1 H1 J s1 S1 w1 D hD
    have q1 : Aft G W σ m1 H1 (lcG s.get g t f (Z.wipe r o) h1.length s.n 0 (h1 ++ [.lst []])) Q := Aft.step s1 q
    have st : Step m1 H1 (m1 ++ [D]) (upd H1 D (.lst [])) := ⟨⟨[D], rfl⟩, TK.new hD⟩
    refine ⟨fun i n H => ∃ m h, Step m1 H1 m H ∧ Sim G m h H ∧ m[h1.length]? = some D ∧ Aft G W σ m H (lcG s.get g t f (Z.wipe r o) h1.length n i h) Q, ⟨s.n, m1 ++ [D], _, st, S1.newL hD RVs.nil, by rw [← S1.len]; simp, Aft.step st q1⟩, ?_⟩
    rintro i n H ⟨m, h, s2, S2, hm, q2⟩
    obtain ⟨w2, w3⟩ := w1 i m H h s2 S2
    have E2 : REnv G.K m H r σ := (E.mono s1).mono s2
    cases n with
    | zero =>
      unfold lcG at q2
      split at q2
      · rename_i hg
        exact Or.inl ⟨w2 hg, q2 m H (.ref D) Step.refl S2 (by rw [RV]; exact ⟨D, hm, rfl⟩)⟩
      · exact q2.elim
    | succ n =>
      unfold lcG at q2
      split at q2
      · rename_i v hv
        obtain ⟨k1, k2⟩ := w3 v hv
        refine Or.inr ⟨k1, fun H => ∃ m h, Step m1 H1 m H ∧ Sim G m h H ∧ m[h1.length]? = some D ∧ Aft G W σ m H (lcG s.get g t f (Z.wipe r o) h1.length n (i + 1) h) Q, fun H' z => ⟨n, Nat.lt_succ_self n, z⟩, fun x H' y => ?_⟩
        obtain ⟨m3, s3, S3, r3⟩ := k2 x H' y
        split at q2
        · rename_i r4 h4 hgo
          refine cg x σ H' v m3 (Z.wipe r o) h r4 h4 _ S3 ((E2.mono s3).wipe o) r3 hgo fun eh σ2 e2 E4 => ⟨e2, ?_⟩
          subst eh
          refine ⟨m3, r4, h4, S3, E4, ?_⟩
          split at q2
          · rename_i h5 ht
            rw [ht]
            intro m5 H5 b s5 S5 r5
            refine ⟨true, RV.bl_inv r5, ?_⟩
            refine ⟨m5, r4, h5, S5, E4.mono s5, ?_⟩
            split at q2
            · rename_i y5 h6 he
              rw [he]
              intro m6 H6 y6 s6 S6 r6
              split at q2
              · rename_i acc hacc
                split at q2
                · rename_i hz
                  obtain ⟨a, vs, ha, hH, rr⟩ := S6.lst hacc
                  have hD6 : m6[h1.length]? = some D := by
                    obtain ⟨t1, rfl⟩ := s3.pre
                    obtain ⟨t2, rfl⟩ := s5.pre
                    obtain ⟨t3, rfl⟩ := s6.pre
                    exact pre_get (pre_get (pre_get hm))
                  rw [hD6] at ha; cases ha
                  have rr' := rr.append (RVs.cons r6 RVs.nil)
                  have st6 : Step m6 H6 m6 (upd H6 D (.lst (vs ++ [y6]))) := Step.of (TK.upd (noRd_lst hH))
                  refine ⟨vs, hH, by rw [rr.length]; exact hz, m6, _, ((((s2.trans s3).trans s5).trans s6).trans st6), S6.setL hacc hD6 hH rr', hD6, ?_⟩
                  exact Aft.step (((s3.trans s5).trans s6).trans st6) q2
                · exact q2.elim
              · exact q2.elim
            · exact q2.elim
          · rename_i h5 ht
            rw [ht]
            intro m5 H5 b s5 S5 r5
            refine ⟨false, RV.bl_inv r5, ?_⟩
            refine ⟨m5, h5, (s2.trans s3).trans s5, S5, ?_, Aft.step (s3.trans s5) q2⟩
            obtain ⟨t1, rfl⟩ := s3.pre
            obtain ⟨t2, rfl⟩ := s5.pre
            exact pre_get (pre_get hm)
          · exact q2.elim
        · exact q2.elim
      · exact q2.elim
theorem je_lc (hc : X.calm = true) (hN : X.N.Nodup) (hi : JI X G W tg iter fi) (ok : BlkOk X.N X.env.scope scope own)
    (hg : ∀ (s : Shared) (H : Hp) (C : Addr) (cl : List (Str × Addr)) (fp : List Addr), PG (X.blk s H scope (compEnvC scope cl C X.env) fp) tg g0) (cg : CompTg G g0 g (own.map (·.2)))
    (ht : ∀ (s : Shared) (H : Hp) (C : Addr) (cl : List (Str × Addr)) (fp : List Addr), JTs (X.blk s H scope (compEnvC scope cl C X.env) fp) G W0 ifs t)
    (he : ∀ (s : Shared) (H : Hp) (C : Addr) (cl : List (Str × Addr)) (fp : List Addr), JE (X.blk s H scope (compEnvC scope cl C X.env) fp) G W0 elt f) (hs : ∀ x, foldedSetIterable iter X.env x = pure x := by intro _; rfl) :
    JE X G W (.ListComp elt [⟨tg, iter, ifs, 0⟩] scope pos) (eLc fi g t f (own.map (·.2))) :=
  pe_imp (pe_lc hc hN hi ok hg ht he hs) fun σ H Q q => lc_go cg q
theorem js_setLc {i : Nat} {y : Str} (hc : X.calm = true) (hN : X.N.Nodup) (hy : X.N[i]? = some y) (hyl : X.env.scope.names.lookup y = some .local)
    (hsw : swapsWith (.ListComp elt [⟨tg, iter, ifs, 0⟩] scope pos) (some (.Name y py)) spos.line X.env = pure true) (hi : JI X G W tg iter fi) (ok : BlkOk X.N X.env.scope scope own)
    (hg : ∀ (s : Shared) (H : Hp) (C : Addr) (cl : List (Str × Addr)) (fp : List Addr), PG (X.blk s H scope (compEnvC scope cl C X.env) fp) tg g0) (cg : CompTg G g0 g (own.map (·.2)))
    (ht : ∀ (s : Shared) (H : Hp) (C : Addr) (cl : List (Str × Addr)) (fp : List Addr), JTs (X.blk s H scope (compEnvC scope cl C X.env) fp) G W0 ifs t)
    (he : ∀ (s : Shared) (H : Hp) (C : Addr) (cl : List (Str × Addr)) (fp : List Addr), JE (X.blk s H scope (compEnvC scope cl C X.env) fp) G W0 elt f) (hs : ∀ x, foldedSetIterable iter X.env x = pure x := by intro _; rfl) :
    JS X G W (.Assign [.Name y py] (.ListComp elt [⟨tg, iter, ifs, 0⟩] scope pos) spos) (sAsg (eLc fi g t f (own.map (·.2))) (Z.gName i)) :=
  ps_imp (ps_setLc hc hN hy hyl hsw hi ok hg ht he hs) fun D σ H ⟨m, r, h, S, E, q⟩ => by
    obtain ⟨m, r, h, S, E, q⟩ := sAsg_aft S E q
    exact lc_go cg ⟨m, r, h, S, E, q⟩
/-! ### zip of two lists or two tuples; reversed of a list -/
def zipAt (xs ys : List PV) (i : Nat) : Option PV := match xs[i]?, ys[i]? with
  | some x, some y => some (.tup [x, y])
  | _, _ => none
def srcZip (v u : PV) (n : Nat) : Src := ⟨n, fun i h => match seqOf h v, seqOf h u with
  | some xs, some ys => some (zipAt xs ys i)
  | _, _ => none⟩
def iZipF (fa : AF) : IF := fun r h => (fa r h).bind fun vs h1 => match vs with
  | [.ref n, .ref k] => (match listAt h1 n, listAt h1 k with
    | some xs, some ys => .ok (srcZip (.ref n) (.ref k) (min xs.length ys.length)) h1
    | _, _ => .bad)
  | [.tup xs, .tup ys] => .ok (srcZip (.tup xs) (.tup ys) (min xs.length ys.length)) h1
  | _ => .bad
theorem zipAt_some {xs ys : List PV} {i : Nat} {z : PV} (h : zipAt xs ys i = some z) : ∃ x y, xs[i]? = some x ∧ ys[i]? = some y ∧ z = .tup [x, y] := by
  unfold zipAt at h
  split at h
  · rename_i x y h1 h2
    cases h
    exact ⟨x, y, h1, h2, rfl⟩
  · cases h
theorem zipAt_none {xs ys : List PV} {i : Nat} (h : zipAt xs ys i = none) : xs.length ≤ i ∨ ys.length ≤ i := by
  unfold zipAt at h
  split at h
  · cases h
  · rename_i hh
    cases h1 : xs[i]? with
    | none => exact Or.inl (List.getElem?_eq_none_iff.mp h1)
    | some x =>
      cases h2 : ys[i]? with
      | none => exact Or.inr (List.getElem?_eq_none_iff.mp h2)
      | some y => exact (hh x y h1 h2).elim
theorem ji_zip (hg : Gl X "zip") (hm : X.mg "zip" = none) (ha : JA X G W [e, e2] fa) (hK : G.K = X.K := by rfl)
    (hs : starEach [e, e2] X.env = (false, eval e X.env) :: starEach [e2] X.env := by rfl) (hpl : (backTo pos (starEach [e2] X.env)).any (·.1) = false := by rfl) :
    JI X G W (.Tuple elts kk tpos) (.Call (.Name "zip" p) [e, e2] [] pos) (iZipF fa) :=
  pi_imp (RZ.pi_zipA hg hm ha hs hpl) fun σ H R t => tI_A t fun m h H x v S r q => by
    split at q
    · rename_i n k
      split at q
      · rename_i xs ys hl1 hl2
        obtain ⟨w, u, rfl, rw1, rw2⟩ := r.inv2
        rw [RV] at rw1 rw2
        obtain ⟨a, ha, rfl⟩ := rw1
        obtain ⟨b, hb, rfl⟩ := rw2
        obtain ⟨a', vs, ha', q1, r1⟩ := S.list hl1
        rw [ha] at ha'; cases ha'
        obtain ⟨b', us, hb', q2, r2⟩ := S.list hl2
        rw [hb] at hb'; cases hb'
        rw [hK] at q1 q2
        refine ⟨a, b, vs, us, rfl, Or.inl ⟨q1, q2, q m H _ Step.refl S fun i m1 H1 h1 s1 S1 => ?_⟩⟩
        have hm1 : m1[n]? = some a := by
          obtain ⟨t, rfl⟩ := s1.pre
          exact pre_get ha
        have hm2 : m1[k]? = some b := by
          obtain ⟨t, rfl⟩ := s1.pre
          exact pre_get hb
        cases hx : seqOf h1 (.ref n) with
        | none => exact ⟨fun z => by simp [srcZip, hx] at z, fun y z => by simp [srcZip, hx] at z⟩
        | some xs =>
          cases hy : seqOf h1 (.ref k) with
          | none => exact ⟨fun z => by simp [srcZip, hx, hy] at z, fun y z => by simp [srcZip, hx, hy] at z⟩
          | some ys =>
            obtain ⟨b, ws, hb, q3, r3⟩ := S1.list hx
            rw [hm1] at hb; cases hb
            obtain ⟨b, ws2, hb, q4, r4⟩ := S1.list hy
            rw [hm2] at hb; cases hb
            rw [hK] at q3 q4
            refine ⟨fun z => ?_, fun y z => ?_⟩
            · simp [srcZip, hx, hy] at z
              exact ⟨ws, ws2, q3, q4, by rw [r3.length, r4.length]; exact zipAt_none z⟩
            · simp [srcZip, hx, hy] at z
              obtain ⟨x', y', e1, e2, rfl⟩ := zipAt_some z
              obtain ⟨w1, g1, t1⟩ := r3.get e1
              obtain ⟨w2, g2, t2⟩ := r4.get e2
              refine ⟨⟨ws, ws2, w1, w2, q3, q4, g1, g2⟩, fun v H' yy => ?_⟩
              obtain ⟨T, x, y, e1, e2, e3, e4, e5⟩ := yy
              subst e1 e3
              have e6 := e4 ws q3
              have e7 := e5 ws2 q4
              rw [g1] at e6; cases e6
              rw [g2] at e7; cases e7
              have st : Step m1 H1 m1 (upd H1 T (.tup [w1, w2])) := Step.of (TK.new e2)
              refine ⟨m1, st, S1.tup e2, ?_⟩
              rw [RV]
              exact ⟨T, _, rfl, SqT.of upd_same, RVs.cons (t1.mono st) (RVs.cons (t2.mono st) RVs.nil)⟩
      · exact q.elim
    · rename_i xs ys
      obtain ⟨w, u, rfl, rw1, rw2⟩ := r.inv2
      rw [RV] at rw1 rw2
      obtain ⟨a, vs, rfl, q1, r1⟩ := rw1
      obtain ⟨b, us, rfl, q2, r2⟩ := rw2
      have q1' := q1
      have q2' := q2
      rw [hK] at q1 q2
      refine ⟨a, b, vs, us, rfl, Or.inr ⟨q1, q2, q m H _ Step.refl S fun i m1 H1 h1 s1 S1 => ?_⟩⟩
      have q3 := sqT_tk s1.tk q1
      have q4 := sqT_tk s1.tk q2
      have r3 := r1.mono s1
      have r4 := r2.mono s1
      refine ⟨fun z => ?_, fun y z => ?_⟩
      · simp [srcZip, seqOf] at z
        exact ⟨vs, us, q3, q4, by rw [r3.length, r4.length]; exact zipAt_none z⟩
      · simp [srcZip, seqOf] at z
        obtain ⟨x', y', e1, e2, rfl⟩ := zipAt_some z
        obtain ⟨w1, g1, t1⟩ := r3.get e1
        obtain ⟨w2, g2, t2⟩ := r4.get e2
        refine ⟨⟨vs, us, w1, w2, q3, q4, g1, g2⟩, fun v H' yy => ?_⟩
        obtain ⟨T, x, y, e1, e2, e3, e4, e5⟩ := yy
        subst e1 e3
        have e6 := e4 vs q3
        have e7 := e5 us q4
        rw [g1] at e6; cases e6
        rw [g2] at e7; cases e7
        have st : Step m1 H1 m1 (upd H1 T (.tup [w1, w2])) := Step.of (TK.new e2)
        refine ⟨m1, st, S1.tup e2, ?_⟩
        rw [RV]
        exact ⟨T, _, rfl, SqT.of upd_same, RVs.cons (t1.mono st) (RVs.cons (t2.mono st) RVs.nil)⟩
    · exact q.elim
def srcRev (v : PV) (n : Nat) : Src := ⟨n, fun i h => if i < n then (seqOf h v).bind fun xs => (xs[n - 1 - i]?).map some else some none⟩
def iRevF (fa : AF) : IF := fun r h => (fa r h).bind fun vs h1 => match vs with
  | [.ref n] => (match listAt h1 n with
    | some xs => .ok (srcRev (.ref n) xs.length) h1
    | none => .bad)
  | _ => .bad
theorem ji_rev (hg : Gl X "reversed") (hm : X.mg "reversed" = none) (ha : JA X G W [e] fa) (hK : G.K = X.K := by rfl) (hs : starEach [e] X.env = [(false, eval e X.env)] := by rfl) : JI X G W tg (.Call (.Name "reversed" p) [e] [] pos) (iRevF fa) :=
  pi_imp (pi_reversed hg hm ha hs) fun σ H R t => tI_A t fun m h H x v S r q => by
    split at q
    · rename_i n
      split at q
      · rename_i xs hl
        obtain ⟨w, rfl, rw'⟩ := r.inv1
        rw [RV] at rw'
        obtain ⟨a, ha, rfl⟩ := rw'
        obtain ⟨b, vs, hb, q2, r2⟩ := S.list hl
        rw [ha] at hb; cases hb
        rw [hK] at q2
        refine ⟨a, vs, rfl, q2, ?_⟩
        rw [r2.length]
        refine q m H _ Step.refl S fun i m1 H1 h1 s1 S1 => ?_
        have hm : m1[n]? = some a := by
          obtain ⟨t, rfl⟩ := s1.pre
          exact pre_get ha
        refine ⟨fun z => ?_, fun y z => ?_⟩
        · unfold srcRev at z
          dsimp only at z
          split at z
          · cases hl : seqOf h1 (.ref n) with
            | none => rw [hl] at z; simp at z
            | some ys =>
              rw [hl] at z
              dsimp only [Option.bind] at z
              cases hy : ys[xs.length - 1 - i]? with
              | none => rw [hy] at z; simp at z
              | some y => rw [hy] at z; simp at z
          · rename_i hi
            exact Nat.le_of_not_lt hi
        · unfold srcRev at z
          dsimp only at z
          split at z
          · rename_i hi
            cases hl : seqOf h1 (.ref n) with
            | none => rw [hl] at z; simp at z
            | some ys =>
              rw [hl] at z
              dsimp only [Option.bind] at z
              obtain ⟨b, ws, hb, q3, r3⟩ := S1.list hl
              rw [hm] at hb; cases hb
              rw [hK] at q3
              cases hy : ys[xs.length - 1 - i]? with
              | none => rw [hy] at z; simp at z
              | some u =>
                rw [hy] at z; simp at z
                subst z
                obtain ⟨uv, hu, ru⟩ := r3.get hy
                refine ⟨⟨hi, ws, uv, q3, hu⟩, fun v H' ⟨e1, e2⟩ => ?_⟩
                subst e1
                have e5 := e2 ws q3
                rw [hu] at e5; cases e5
                exact ⟨m1, Step.refl, S1, ru⟩
          · simp at z
      · exact q.elim
    · exact q.elim
end
end Z
/-! Zq: primitives. -/
namespace Z
open PySem L2
/-! ### arithmetic -/
def inM (i : Int) : Bool := decide (-(2 ^ 64) < i ∧ i < 2 ^ 64)
/-- a text times a small number -/
def mulS (s : Str) (n : Int) : Option Str := if -(2 ^ 63) ≤ n ∧ n ≤ 16777216 ∧ s.length * n.toNat ≤ 16777216 then some (Txt.mul s n) else none
def pSub : P2 := fun x y h => match x, y with
  | .int i, .int j => some (.int (i - j), h)
  | _, _ => none
def pAdd : P2 := fun x y h => match x, y with
  | .int i, .int j => some (.int (i + j), h)
  | .str s, .str t => if s.length + t.length ≤ sizeLine then some (.str (s ++ t), h) else none
  | .tup xs, .tup ys => if xs.length + ys.length ≤ sizeLine then some (.tup (xs ++ ys), h) else none
  | .ref n, .ref k => (match h[n]?, h[k]? with
    | some (.lst xs), some (.lst ys) => if xs.length + ys.length ≤ sizeLine then some (.ref h.length, h ++ [.lst (xs ++ ys)]) else none
    | _, _ => none)
  | _, _ => none
def pMul : P2 := fun x y h => match x, y with
  | .int i, .int j => if inM i || inM j then some (.int (i * j), h) else none
  | .str s, .int n => (mulS s n).map fun t => (.str t, h)
  | .ref k, .int n => (match h[k]? with
    | some (.lst xs) => if -(2 ^ 63) ≤ n ∧ n < 2 ^ 63 ∧ xs.length * n.toNat ≤ sizeLine then some (.ref h.length, h ++ [.lst (List.replicate n.toNat xs).flatten]) else none
    | _ => none)
  | _, _ => none
def pMod : P2 := fun x y h => match x, y with
  | .int i, .int j => if 0 < j then some (.int (i % j), h) else none
  | _, _ => none
def pDiv : P2 := fun x y h => match x, y with
  | .int i, .int j => if 0 < j ∧ j < 1073741824 then some (.int (i / j), h) else none
  | _, _ => none
def pPow : P2 := fun x y h => match x, y with
  | .int i, .int j => if 0 ≤ j ∧ j ≤ 1000000 ∧ i.natAbs < 2 ^ 64 then some (.int (i ^ j.toNat), h) else none
  | _, _ => none
def pNeg : P1 := fun x h => match x with
  | .int i => some (.int (-i), h)
  | _ => none
/-! ### comparisons -/
def pCmpI (p : Int → Int → Bool) : P2 := fun x y h => match x, y with
  | .int i, .int j => some (.bl (p i j), h)
  | _, _ => none
def scalP : PV → PV → Bool
  | .non, .non => true | .non, .int _ => true | .int _, .non => true | .non, .bl _ => true | .bl _, .non => true | .non, .str _ => true | .str _, .non => true
  | .int _, .int _ => true | .bl _, .bl _ => true | .str _, .str _ => true
  | .int _, .str _ => true | .str _, .int _ => true | .bl _, .str _ => true | .str _, .bl _ => true
  | _, _ => false
/-- the data of a value, lists and tuples at most so deep -/
def toD (h : PH) : Nat → PV → Option PyData
  | 0, _ => none
  | k + 1, x => match x with
    | .non => some .none
    | .bl b => some (.bool b)
    | .int i => some (.int i)
    | .str s => some (.str s)
    | .tup xs => (xs.mapM (toD h k)).map .tuple
    | .ref n => (listAt h n).bind fun xs => (xs.mapM (toD h k)).map .list
def eqP (x y : PV) (h : PH) : Option Bool := if scalP x y then some (decide (x = y)) else match toD h 64 x, toD h 64 y with
  | some d, some e => some (PyData.eqv d e)
  | _, _ => none
def pEq : P2 := fun x y h => (eqP x y h).map fun b => (.bl b, h)
def pNe : P2 := fun x y h => (eqP x y h).map fun b => (.bl (!b), h)
def isNon : PV → Bool
  | .non => true
  | _ => false
def pIsN : P2 := fun x y h => match y with
  | .non => some (.bl (isNon x), h)
  | _ => none
def pNotN : P2 := fun x y h => match y with
  | .non => some (.bl (!isNon x), h)
  | _ => none
/-! ### subscripts, slices -/
def pIx : P2 := fun x y h => match x, y with
  | .str s, .int i => (atI s.cps.toList i).map fun c => (.str (sg c), h)
  | x, .int i => (seqOf h x).bind fun xs => (atI xs i).map fun v => (v, h)
  | _, _ => none
def cutP {α : Type} (xs : List α) (lo hi : Option Int) : List α := (xs.drop (HT.sIx xs.length 0 lo)).take (HT.sIx xs.length xs.length hi - HT.sIx xs.length 0 lo)
def pSlc : PSl := fun x lo hi h => match x with
  | .str s => some (.str (cutS s lo hi), h)
  | .tup xs => some (.tup (cutP xs lo hi), h)
  | .ref n => (listAt h n).map fun xs => (.ref h.length, h ++ [.lst (cutP xs lo hi)])
  | _ => none
/-! ### built-in functions -/
def pLen : PN := fun vs h => match vs with
  | [.str s] => some (.int s.length, h)
  | [x] => (seqOf h x).map fun xs => (.int xs.length, h)
  | _ => none
def pList : PN := fun vs h => match vs with
  | [x] => (seqOf h x).map fun xs => (.ref h.length, h ++ [.lst xs])
  | _ => none
def pTupOf : PN := fun vs h => match vs with
  | [.tup xs] => some (.tup xs, h)
  | [.ref n] => (listAt h n).map fun xs => (.tup xs, h)
  | _ => none
def pIntOf : PN := fun vs h => match vs with
  | [.int i] => some (.int i, h)
  | [.bl b] => some (.int (if b then 1 else 0), h)
  | _ => none
def pStrOf : PN := fun vs h => match vs with
  | [.int i] => if i.natAbs.log2 < 1920 then some (.str (toString i), h) else none
  | _ => none
def pMax2 : PN := fun vs h => match vs with
  | [.int i, .int j] => some (.int (if j > i then j else i), h)
  | _ => none
def pMin2 : PN := fun vs h => match vs with
  | [.int i, .int j] => some (.int (if j < i then j else i), h)
  | _ => none
def asInts : List PV → Option (List Int)
  | [] => some []
  | .int i :: r => (asInts r).map (i :: ·)
  | _ => none
def asBls : List PV → Option (List Bool)
  | [] => some []
  | .bl i :: r => (asBls r).map (i :: ·)
  | _ => none
def pSum : PN := fun vs h => match vs with
  | [.ref n] => ((listAt h n).bind asInts).map fun ns => (.int ns.sum, h)
  | _ => none
def pAny : PN := fun vs h => match vs with
  | [.ref n] => ((listAt h n).bind asBls).map fun ns => (.bl (ns.any id), h)
  | _ => none
def pAll : PN := fun vs h => match vs with
  | [.ref n] => ((listAt h n).bind asBls).map fun ns => (.bl (ns.all id), h)
  | _ => none
/-! ### lists changed -/
def mutL (n : Nat) (h : PH) (f : List PV → Option (List PV × PV)) : Rp PV := match h[n]? with
  | some (.lst xs) => (f xs).map fun r => (r.2, h.set n (.lst r.1))
  | _ => none
def isLst : PV → PH → Bool := fun x h => match x with
  | .ref n => (listAt h n).isSome
  | _ => false
def pAppend : PM := fun x vs h => match x, vs with
  | .ref n, [y] => mutL n h fun xs => if xs.length < sizeLine then some (xs ++ [y], .non) else none
  | _, _ => none
def pPop : PM := fun x vs h => match x, vs with
  | .ref n, [] => mutL n h fun xs => (xs[xs.length - 1]?).map fun y => (xs.dropLast, y)
  | _, _ => none
def pPopAt : PM := fun x vs h => match x, vs with
  | .ref n, [.int i] => mutL n h fun xs => if -(2 ^ 63) ≤ i ∧ i < 2 ^ 63 then (ixN xs.length i).bind fun k => (xs[k]?).map fun y => (xs.eraseIdx k, y) else none
  | _, _ => none
def pReverse : PM := fun x vs h => match x, vs with
  | .ref n, [] => mutL n h fun xs => some (xs.reverse, .non)
  | _, _ => none
def pInsert : PM := fun x vs h => match x, vs with
  | .ref n, [.int i, y] => mutL n h fun xs => if xs.length < sizeLine ∧ 0 ≤ i ∧ i < 2 ^ 63 then some (xs.take i.toNat ++ [y] ++ xs.drop i.toNat, .non) else none
  | _, _ => none
/-- xs[i] = v -/
def pSetL : P3 := fun o i v h => match o, i with
  | .ref n, .int j => (match h[n]? with
    | some (.lst xs) => (ixN xs.length j).map fun k => h.set n (.lst (xs.set k v))
    | _ => none)
  | _, _ => none

/-! ## they are what the machine does -/
section
variable {G : Par} {m : List Addr} {h : PH} {H : Hp} {Q : VK}
theorem rv_int {K : PySem.W.Frag} {i : Int} {v : V} (r : RV K m H (.int i) v) : v = .int i := by rw [RV] at r; exact r
theorem rv_str {K : PySem.W.Frag} {s : Str} {v : V} (r : RV K m H (.str s) v) : v = .str s ∧ sOk s = true := by rw [RV] at r; exact r
theorem rv_non {K : PySem.W.Frag} {v : V} (r : RV K m H .non v) : v = .non := by rw [RV] at r; exact r
theorem mk_int {K : PySem.W.Frag} {i : Int} : RV K m H (.int i) (.int i) := by rw [RV]
theorem mk_bl {K : PySem.W.Frag} {i : Bool} : RV K m H (.bl i) (.bl i) := by rw [RV]
theorem mk_non {K : PySem.W.Frag} : RV K m H .non .non := by rw [RV]
theorem mk_str {K : PySem.W.Frag} {s : Str} (ok : sOk s = true) : RV K m H (.str s) (.str s) := by rw [RV]; exact ⟨rfl, ok⟩
theorem sOk_len {s : Str} (ok : sOk s = true) : s.length ≤ sizeLine := by
  unfold sOk at ok
  rw [Bool.and_eq_true] at ok
  exact of_decide_eq_true ok.2
theorem sOk_all {s : Str} : PyData.strOk s = true ↔ ∀ c ∈ s.cps.toList, c < 0x110000 := by
  unfold PyData.strOk
  rw [← Array.all_toList, List.all_eq_true]
  exact ⟨fun h c hc => of_decide_eq_true (h c hc), fun h c hc => decide_eq_true (h c hc)⟩
theorem sOk_mk {s : Str} (h1 : ∀ c ∈ s.cps.toList, c < 0x110000) (h2 : s.length ≤ sizeLine) : sOk s = true := by
  unfold sOk
  rw [Bool.and_eq_true]
  exact ⟨sOk_all.mpr h1, decide_eq_true h2⟩
theorem sOk_codes {s : Str} (ok : sOk s = true) : ∀ c ∈ s.cps.toList, c < 0x110000 := by
  unfold sOk at ok
  rw [Bool.and_eq_true] at ok
  exact sOk_all.mp ok.1
theorem sOk_app {s t : Str} (a : sOk s = true) (b : sOk t = true) (hl : s.length + t.length ≤ sizeLine) : sOk (s ++ t) = true := by
  refine sOk_mk (fun c hc => ?_) ?_
  · have hc : c ∈ (s.cps ++ t.cps).toList := hc
    rw [Array.toList_append] at hc
    rcases List.mem_append.mp hc with z | z
    · exact sOk_codes a c z
    · exact sOk_codes b c z
  · show (s.cps ++ t.cps).size ≤ sizeLine
    rw [Array.size_append]; exact hl
theorem sOk_sg {c : Nat} (h : c < 0x110000) : sOk (sg c) = true := by
  refine sOk_mk (fun d hd => ?_) (by rw [sizeLine_eq]; show 1 ≤ 16777216; decide)
  have : d = c := by simpa [sg] using hd
  rw [this]; exact h
theorem sOk_cut {s : Str} {lo hi : Option Int} (a : sOk s = true) : sOk (cutS s lo hi) = true := by
  refine sOk_mk (fun c hc => sOk_codes a c ?_) (Nat.le_trans (cutS_length s lo hi) (sOk_len a))
  have hc : c ∈ (s.cps.toList.drop (HT.sIx s.length 0 lo)).take (HT.sIx s.length s.length hi - HT.sIx s.length 0 lo) := hc
  exact List.mem_of_mem_drop (List.mem_of_mem_take hc)
/-! ### + - * // % ** - -/
theorem SqL.of' {K : PySem.W.Frag} {a : Addr} {xs : List V} (x : H a = some (.lst xs)) : SqL K H a xs := Or.inl (Or.inl x)
theorem Sim.lst' (S : Sim G m h H) {n : Nat} {xs : List PV} {v : V} (hn : h[n]? = some (.lst xs)) (r : RV G.K m H (.ref n) v) : ∃ a vs, v = .ref a ∧ m[n]? = some a ∧ H a = some (.lst vs) ∧ RVs G.K m H xs vs := by
  rw [RV] at r
  obtain ⟨a, ha, rfl⟩ := r
  obtain ⟨b, vs, hb, x, rr⟩ := S.lst hn
  rw [ha] at hb; cases hb
  exact ⟨a, vs, rfl, ha, x, rr⟩
abbrev rAddP (K : PySem.W.Frag) : R2 := fun x y H Q => (∃ i j, x = .int i ∧ y = .int j ∧ Q (.int (i + j)) H) ∨ (∃ i j, x = .str i ∧ y = .str j ∧ i.length + j.length ≤ sizeLine ∧ Q (.str (i ++ j)) H) ∨ rCatA K x y H Q ∨ rCat x y H Q
theorem op_addP {X : Cx} : OpR X (binaryOp .Add) (rAddP X.K) := OpR.or op_add (OpR.or op_add_str (OpR.or op_catA op_cat))
theorem ok_add : Ok2 G (rAddP G.K) pAdd := fun m h H x y v u Q S r1 r2 q => by
  unfold pAdd at q
  split at q
  · exact Or.inl ⟨_, _, rv_int r1, rv_int r2, AftP.of S mk_int q⟩
  · split at q
    · rename_i hl
      obtain ⟨e1, o1⟩ := rv_str r1
      obtain ⟨e2, o2⟩ := rv_str r2
      exact Or.inr (Or.inl ⟨_, _, e1, e2, hl, AftP.of S (mk_str (sOk_app o1 o2 hl)) q⟩)
    · exact q.elim
  · split at q
    · rename_i xs ys hl
      rw [RV] at r1 r2
      obtain ⟨a, vs, rfl, t1, q1⟩ := r1
      obtain ⟨b, us, rfl, t2, q2⟩ := r2
      refine Or.inr (Or.inr (Or.inl ⟨a, b, vs, us, rfl, rfl, t1, t2, by rw [q1.length, q2.length]; exact hl, fun e => ?_, fun _ e => ?_, fun _ _ => AftP.tup S (q1.append q2) q⟩))
      · have : xs = [] := List.length_eq_zero_iff.mp (by rw [← q1.length, e]; rfl)
        subst this
        exact AftP.of S (by rw [RV]; exact ⟨b, us, rfl, t2, q2⟩) q
      · have : ys = [] := List.length_eq_zero_iff.mp (by rw [← q2.length, e]; rfl)
        subst this
        rw [List.append_nil] at q
        exact AftP.of S (by rw [RV]; exact ⟨a, vs, rfl, t1, q1⟩) q
    · exact q.elim
  · split at q
    · rename_i xs ys h1 h2
      split at q
      · rename_i hl
        obtain ⟨a, vs, rfl, ha, x1, q1⟩ := S.lst' h1 r1
        obtain ⟨b, us, rfl, hb, x2, q2⟩ := S.lst' h2 r2
        exact Or.inr (Or.inr (Or.inr ⟨a, b, vs, us, rfl, rfl, x1, x2, by rw [q1.length, q2.length]; exact hl, AftP.newL S (q1.append q2) q⟩))
      · exact q.elim
    · exact q.elim
  · exact q.elim
theorem ok_sub : Ok2 G (rI0 fun i j => .int (i - j)) pSub := fun m h H x y v u Q S r1 r2 q => by
  unfold pSub at q
  split at q
  · exact ⟨_, _, rv_int r1, rv_int r2, AftP.of S mk_int q⟩
  · exact q.elim
theorem op_mul_str {X : Cx} : OpR X (binaryOp .Mult) (fun x y H Q => ∃ s n, x = .str s ∧ y = .int n ∧ MulOk s n ∧ Q (.str (Txt.mul s n)) H) := by
  intro pins s σ H x y v u Q I rx ry h
  obtain ⟨z, n, rfl, rfl, hk, q⟩ := h
  obtain ⟨t, rfl⟩ := rx
  obtain ⟨t', rfl⟩ := ry
  exact SB.mul hk fun t' k => ⟨.str (Txt.mul z n), H, I.tok _, ⟨_, rfl⟩, q⟩
abbrev rMulP : R2 := fun x y H Q => rI CMul (fun i j => .int (i * j)) x y H Q ∨ (∃ s n, x = .str s ∧ y = .int n ∧ MulOk s n ∧ Q (.str (Txt.mul s n)) H) ∨ rRep x y H Q
theorem op_mulP {X : Cx} : OpR X (binaryOp .Mult) rMulP := OpR.or op_mul (OpR.or op_mul_str op_rep)
theorem rep_mem {c : Nat} {a : Array Nat} : ∀ (k : Nat) (acc : Array Nat), c ∈ ((List.replicate k a).foldl (· ++ ·) acc).toList → c ∈ acc.toList ∨ c ∈ a.toList
  | 0, acc, h => Or.inl h
  | k + 1, acc, h => by
    rw [List.replicate_succ, List.foldl_cons] at h
    rcases rep_mem k _ h with z | z
    · rw [Array.toList_append] at z
      exact List.mem_append.mp z
    · exact Or.inr z
theorem sOk_mul {s : Str} {n : Int} (a : sOk s = true) (hn : n ≤ 16777216) (hl : s.length * n.toNat ≤ 16777216) : sOk (Txt.mul s n) = true := by
  refine sOk_mk (fun c hc => ?_) ?_
  · unfold Txt.mul at hc
    split at hc
    · simp [Str.empty] at hc
    · split at hc
      · exact sOk_codes a c hc
      · rcases rep_mem _ _ hc with z | z
        · simp at z
        · exact sOk_codes a c z
  · have e := PyProof.Rows.len_mul s n
    rw [sizeLine_eq]
    by_cases hs : n < 0
    · rw [if_pos (by simpa using hs)] at e
      simp at e
      omega
    · rw [if_neg (by simpa using hs)] at e
      have e2 : ((s.length * n.toNat : Nat) : Int) = (s.length : Int) * n := by
        rw [Int.natCast_mul, Int.toNat_of_nonneg (by omega)]
      omega
theorem ok_mul : Ok2 G rMulP pMul := fun m h H x y v u Q S r1 r2 q => by
  unfold pMul at q
  split at q
  · split at q
    · rename_i i j hc
      refine Or.inl ⟨_, _, rv_int r1, rv_int r2, ?_, AftP.of S mk_int q⟩
      rw [Bool.or_eq_true] at hc
      rcases hc with z | z
      · exact Or.inl (of_decide_eq_true z)
      · exact Or.inr (of_decide_eq_true z)
    · exact q.elim
  · rename_i s n
    unfold mulS at q
    split at q
    · rename_i hc
      obtain ⟨e1, o1⟩ := rv_str r1
      refine Or.inr (Or.inl ⟨_, _, e1, rv_int r2, ?_, AftP.of S (mk_str (sOk_mul o1 hc.2.1 hc.2.2)) q⟩)
      exact ⟨by rw [Bool.or_eq_false_iff]; exact ⟨decide_eq_false (by omega), decide_eq_false (by omega)⟩, fun h1 _ => by
        have hpos : 0 < n := by omega
        have e : ((s.length * n.toNat : Nat) : Int) = (s.length : Int) * n := by rw [Int.natCast_mul, Int.toNat_of_nonneg (by omega)]
        have h3 : (s.length : Int) * n ≤ 2 ^ 63 - 1 := by omega
        have h4 : (s.length : Int) ≤ (2 ^ 63 - 1) / n := (Int.le_ediv_iff_mul_le hpos).mpr h3
        omega, fun h1 _ => PyProof.Rows.short24 hc.2.2⟩
    · exact q.elim
  · split at q
    · rename_i k n _ xs hk
      split at q
      · rename_i hc
        obtain ⟨a, vs, rfl, ha, x1, q1⟩ := S.lst' hk r1
        have rr : ∀ j : Nat, RVs G.K m H (List.replicate j xs).flatten (List.replicate j vs).flatten := fun j => by
          induction j with
          | zero => exact RVs.nil
          | succ j ih => rw [List.replicate_succ, List.replicate_succ, List.flatten_cons, List.flatten_cons]; exact q1.append ih
        exact Or.inr (Or.inr ⟨a, n, vs, rfl, rv_int r2, x1, hc.1, hc.2.1, by rw [q1.length]; exact hc.2.2, AftP.newL S (rr n.toNat) q⟩)
      · exact q.elim
    · exact q.elim
  · exact q.elim
theorem ok_mod : Ok2 G (rI (fun _ j => 0 < j) fun i j => .int (i % j)) pMod := fun m h H x y v u Q S r1 r2 q => by
  unfold pMod at q
  split at q
  · split at q
    · rename_i hc
      exact ⟨_, _, rv_int r1, rv_int r2, hc, AftP.of S mk_int q⟩
    · exact q.elim
  · exact q.elim
theorem ok_div : Ok2 G (rI CDiv fun i j => .int (i / j)) pDiv := fun m h H x y v u Q S r1 r2 q => by
  unfold pDiv at q
  split at q
  · split at q
    · rename_i hc
      exact ⟨_, _, rv_int r1, rv_int r2, hc, AftP.of S mk_int q⟩
    · exact q.elim
  · exact q.elim
theorem ok_pow : Ok2 G (rI CPow fun i j => .int (i ^ j.toNat)) pPow := fun m h H x y v u Q S r1 r2 q => by
  unfold pPow at q
  split at q
  · split at q
    · rename_i hc
      exact ⟨_, _, rv_int r1, rv_int r2, hc, AftP.of S mk_int q⟩
    · exact q.elim
  · exact q.elim
theorem ok_neg : Ok1 G (rU fun i => .int (-i)) pNeg := fun m h H x v Q S r1 q => by
  unfold pNeg at q
  split at q
  · exact ⟨_, rv_int r1, AftP.of S mk_int q⟩
  · exact q.elim
/-! ### comparisons -/
theorem ok_cmpI {p : Int → Int → Bool} : Ok2 G (rI0 fun i j => .bl (p i j)) (pCmpI p) := fun m h H x y v u Q S r1 r2 q => by
  unfold pCmpI at q
  split at q
  · exact ⟨_, _, rv_int r1, rv_int r2, AftP.of S mk_bl q⟩
  · exact q.elim
theorem rv_scal {K : PySem.W.Frag} {x y : PV} {v u : V} (r1 : RV K m H x v) (r2 : RV K m H y u) (hs : scalP x y = true) : scal v u = true ∧ decide (v = u) = decide (x = y) := by
  cases x <;> cases y <;> first
    | (simp [scalP] at hs; done)
    | (simp only [RV] at r1 r2
       first
       | (obtain ⟨rfl, o1⟩ := r1; obtain ⟨rfl, o2⟩ := r2; exact ⟨rfl, by simp⟩)
       | (obtain ⟨rfl, o1⟩ := r1; subst r2; exact ⟨rfl, by simp⟩)
       | (obtain ⟨rfl, o2⟩ := r2; subst r1; exact ⟨rfl, by simp⟩)
       | (subst r1 r2; exact ⟨rfl, by simp⟩))
mutual
theorem toD_dp (S : Sim G m h H) : ∀ (k : Nat) (x : PV) (v : V) (d : PyData), toD h k x = some d → RV G.K m H x v → Dp G.K H v d ∧ d.canLay0 = true ∧ d.depth ≤ k
  | 0, x, v, d, e, r => by simp [toD] at e
  | k + 1, .non, v, d, e, r => by
    simp [toD] at e; subst e; rw [RV] at r; subst r
    exact ⟨.non, rfl, by simp [PyData.depth]⟩
  | k + 1, .bl b, v, d, e, r => by
    simp [toD] at e; subst e; rw [RV] at r; subst r
    exact ⟨.bl b, rfl, by simp [PyData.depth]⟩
  | k + 1, .int i, v, d, e, r => by
    simp [toD] at e; subst e; rw [RV] at r; subst r
    exact ⟨.int i, rfl, by simp [PyData.depth]⟩
  | k + 1, .str s, v, d, e, r => by
    simp [toD] at e; subst e; rw [RV] at r; obtain ⟨rfl, ok⟩ := r
    unfold sOk at ok; rw [Bool.and_eq_true] at ok
    exact ⟨.str s, by simpa [PyData.canLay0] using ok.1, by simp [PyData.depth]⟩
  | k + 1, .tup xs, v, d, e, r => by
    simp only [toD, Option.map_eq_some_iff] at e
    obtain ⟨ds, e, rfl⟩ := e
    rw [RV] at r
    obtain ⟨a, vs, rfl, t, rr⟩ := r
    obtain ⟨h1, h2, h3⟩ := toD_dps S k xs vs ds e rr
    exact ⟨.tup t h1, by simpa [PyData.canLay0] using h2, by simp only [PyData.depth]; omega⟩
  | k + 1, .ref n, v, d, e, r => by
    simp only [toD, Option.bind_eq_some_iff, Option.map_eq_some_iff] at e
    obtain ⟨xs, hl, ds, e, rfl⟩ := e
    rw [RV] at r
    obtain ⟨a, ha, rfl⟩ := r
    obtain ⟨b, vs, hb, t, rr⟩ := S.list hl
    rw [ha] at hb; cases hb
    obtain ⟨h1, h2, h3⟩ := toD_dps S k xs vs ds e rr
    exact ⟨.lst t h1, by simpa [PyData.canLay0] using h2, by simp only [PyData.depth]; omega⟩
theorem toD_dps (S : Sim G m h H) : ∀ (k : Nat) (xs : List PV) (vs : List V) (ds : List PyData), xs.mapM (toD h k) = some ds → RVs G.K m H xs vs → DpAll G.K H vs ds ∧ PyData.canLayAll0 ds = true ∧ PyData.depthAll ds ≤ k
  | k, [], vs, ds, e, r => by
    simp at e; subst e; rw [RVs] at r; subst r
    exact ⟨.nil, rfl, by simp [PyData.depthAll]⟩
  | k, x :: xs, vs, ds, e, r => by
    rw [List.mapM_cons] at e
    simp only [Option.bind_eq_bind, Option.bind_eq_some_iff, Option.pure_def, Option.some.injEq] at e
    obtain ⟨d, e1, es, e2, rfl⟩ := e
    rw [RVs] at r
    obtain ⟨v, w, rfl, r1, r2⟩ := r
    obtain ⟨a1, a2, a3⟩ := toD_dp S k x v d e1 r1
    obtain ⟨b1, b2, b3⟩ := toD_dps S k xs w es e2 r2
    exact ⟨.cons a1 b1, by simp [PyData.canLayAll0, a2, b2], by simp only [PyData.depthAll]; omega⟩
end
theorem toD_shaped (S : Sim G m h H) {x : PV} {v : V} {d : PyData} (e : toD h 64 x = some d) (r : RV G.K m H x v) : Dp G.K H v d ∧ SeqAt.shaped d = true := by
  obtain ⟨a, b, c⟩ := toD_dp S 64 x v d e r
  refine ⟨a, ?_⟩
  unfold SeqAt.shaped
  rw [b, decide_eq_true (by omega)]
  rfl
abbrev rEqP (K : PySem.W.Frag) : R2 := fun x y H Q => rEq x y H Q ∨ rEqD K x y H Q
abbrev rNeP (K : PySem.W.Frag) : R2 := fun x y H Q => rNe x y H Q ∨ rNeD K x y H Q
theorem op_eqP {X : Cx} (hu : X.A.units + 64 < cLine) : OpR X (compareOp .Eq) (rEqP X.K) := OpR.or op_eq (op_eqD hu)
theorem op_neP {X : Cx} (hu : X.A.units + 64 < cLine) : OpR X (compareOp .NotEq) (rNeP X.K) := OpR.or op_ne (op_neD hu)
theorem ok_eq : Ok2 G (rEqP G.K) pEq := fun m h H x y v u Q S r1 r2 q => by
  unfold pEq eqP at q
  split at q
  · rename_i hs
    obtain ⟨e1, e2⟩ := rv_scal r1 r2 hs
    exact Or.inl ⟨e1, by rw [e2]; exact AftP.of S mk_bl q⟩
  · split at q
    · rename_i d e h1 h2
      obtain ⟨a1, a2⟩ := toD_shaped S h1 r1
      obtain ⟨b1, b2⟩ := toD_shaped S h2 r2
      exact Or.inr ⟨d, e, a1, b1, a2, b2, AftP.of S mk_bl q⟩
    · exact q.elim
theorem ok_ne : Ok2 G (rNeP G.K) pNe := fun m h H x y v u Q S r1 r2 q => by
  unfold pNe eqP at q
  split at q
  · rename_i hs
    obtain ⟨e1, e2⟩ := rv_scal r1 r2 hs
    exact Or.inl ⟨e1, by rw [e2]; exact AftP.of S mk_bl q⟩
  · split at q
    · rename_i d e h1 h2
      obtain ⟨a1, a2⟩ := toD_shaped S h1 r1
      obtain ⟨b1, b2⟩ := toD_shaped S h2 r2
      exact Or.inr ⟨d, e, a1, b1, a2, b2, AftP.of S mk_bl q⟩
    · exact q.elim
theorem isNon_dec {K : PySem.W.Frag} {x : PV} {v : V} (r : RV K m H x v) : decide (v = .non) = isNon x := by
  cases x <;> rw [RV] at r
  · subst r; rfl
  · subst r; rfl
  · subst r; rfl
  · rw [r.1]; rfl
  · obtain ⟨a, vs, rfl, _⟩ := r; rfl
  · obtain ⟨a, _, rfl⟩ := r; rfl
theorem ok_isN : Ok2 G (fun x y H Q => y = .non ∧ Q (.bl (decide (x = .non))) H) pIsN := fun m h H x y v u Q S r1 r2 q => by
  unfold pIsN at q
  split at q
  · exact ⟨rv_non r2, by rw [isNon_dec r1]; exact AftP.of S mk_bl q⟩
  · exact q.elim
theorem ok_notN : Ok2 G (fun x y H Q => y = .non ∧ Q (.bl (!decide (x = .non))) H) pNotN := fun m h H x y v u Q S r1 r2 q => by
  unfold pNotN at q
  split at q
  · exact ⟨rv_non r2, by rw [isNon_dec r1]; exact AftP.of S mk_bl q⟩
  · exact q.elim
/-! ### subscripts, slices -/
theorem atI_rel {K : PySem.W.Frag} {xs : List PV} {vs : List V} {i : Int} {x : PV} (r : RVs K m H xs vs) (e : atI xs i = some x) : ∃ v, atI vs i = some v ∧ RV K m H x v := by
  unfold atI at e ⊢
  rw [r.length]
  cases hj : ixN xs.length i with
  | none => rw [hj] at e; cases e
  | some j =>
    rw [hj] at e
    exact r.get e
theorem ok_ix : Ok2 G (rIx G.K) pIx := fun m h H x y v u Q S r1 r2 q => by
  unfold pIx at q
  split at q
  · rename_i s i
    obtain ⟨e1, o1⟩ := rv_str r1
    cases hc : atI s.cps.toList i with
    | none => rw [hc] at q; exact q.elim
    | some c =>
      rw [hc] at q
      have hm : c ∈ s.cps.toList := by
        obtain ⟨j, _, hj, _⟩ := atI_get hc
        exact List.mem_of_getElem? hj
      exact Or.inr (Or.inr ⟨s, i, c, e1, rv_int r2, sOk_len o1, hc, AftP.of S (mk_str (sOk_sg (sOk_codes o1 c hm))) q⟩)
  · rename_i x9 i _
    cases hs : seqOf h x with
    | none => rw [hs] at q; exact q.elim
    | some xs =>
      rw [hs] at q
      dsimp only [Option.bind] at q
      cases hc : atI xs i with
      | none => rw [hc] at q; exact q.elim
      | some y =>
        rw [hc] at q
        obtain ⟨a, vs, rfl, t, rr⟩ := S.seq hs r1
        obtain ⟨w, hw, r3⟩ := atI_rel rr hc
        have q := AftP.of S r3 q
        rcases t with t | t
        · exact Or.inl ⟨a, vs, i, w, rfl, rv_int r2, t, hw, q⟩
        · exact Or.inr (Or.inl ⟨a, vs, i, w, rfl, rv_int r2, t, hw, q⟩)
  · exact q.elim
theorem cut_rel {K : PySem.W.Frag} {xs : List PV} {vs : List V} {lo hi : Option Int} (r : RVs K m H xs vs) : RVs K m H (cutP xs lo hi) (cutV vs lo hi) := by
  unfold cutP cutV
  rw [r.length]
  exact (r.drop _).take _
abbrev rSlP (K : PySem.W.Frag) : V → Option Int → Option Int → Hp → VK → Prop := fun x lo hi H Q => rSlS x lo hi H Q ∨ rSlA K x lo hi H Q ∨ rSlL K x lo hi H Q
theorem sl_any {X : Cx} : SlR X (rSlP X.K) := SlR.or sl_str (SlR.or sl_tupA sl_list)
theorem sIx_whole {n : Nat} {lo hi : Option Int} {α : Type} {xs : List α} (hn : xs.length = n) (h : HT.sIx n 0 lo = 0 ∧ HT.sIx n n hi = n) : cutP xs lo hi = xs := by
  unfold cutP
  rw [hn, h.1, h.2, List.drop_zero, Nat.sub_zero, List.take_of_length_le (by omega)]
theorem ok_sl : OkSl G (rSlP G.K) pSlc := fun m h H x lo hi v Q S r q => by
  unfold pSlc at q
  cases x with
  | str s =>
    obtain ⟨e1, o1⟩ := rv_str r
    exact Or.inl ⟨s, e1, sOk_len o1, AftP.of S (mk_str (sOk_cut o1)) q⟩
  | tup xs =>
    rw [RV] at r
    obtain ⟨a, vs, rfl, t, rr⟩ := r
    refine Or.inr (Or.inl ⟨a, vs, rfl, t, fun e => ?_, fun _ => AftP.tup S (cut_rel rr) q⟩)
    rw [rr.length] at e
    dsimp only at q
    rw [sIx_whole rfl e] at q
    exact AftP.of S (by rw [RV]; exact ⟨a, vs, rfl, t, rr⟩) q
  | ref n =>
    cases hl : listAt h n with
    | none => dsimp only at q; rw [hl] at q; exact q.elim
    | some xs =>
      dsimp only at q; rw [hl] at q
      rw [RV] at r
      obtain ⟨a, ha, rfl⟩ := r
      obtain ⟨b, vs, hb, t, rr⟩ := S.list hl
      rw [ha] at hb; cases hb
      exact Or.inr (Or.inr ⟨a, vs, rfl, t, AftP.newL S (cut_rel rr) q⟩)
  | _ => exact q.elim
/-! ### built-in functions -/
theorem ok_len : OkN G (fun xs H Q => ∃ x n, xs = [x] ∧ LenV G.K x H n ∧ Q (.int n) H) pLen := fun m h H xs vs Q S r q => by
  unfold pLen at q
  split at q
  · rename_i s
    obtain ⟨w, rfl, r1⟩ := r.inv1
    obtain ⟨e1, o1⟩ := rv_str r1
    subst e1
    exact ⟨_, s.length, rfl, ⟨sOk_len o1, rfl⟩, AftP.of S mk_int q⟩
  · rename_i x9 _
    obtain ⟨w, rfl, r1⟩ := r.inv1
    cases hs : seqOf h x9 with
    | none => rw [hs] at q; exact q.elim
    | some ys =>
      rw [hs] at q
      obtain ⟨a, us, rfl, t, rr⟩ := S.seq hs r1
      refine ⟨_, ys.length, rfl, ?_, AftP.of S mk_int q⟩
      rcases t with t | t
      · exact Or.inl ⟨us, t, rr.length.symm⟩
      · exact Or.inr ⟨us, t, rr.length.symm⟩
  · exact q.elim
theorem ok_list : OkN G (fun xs H Q => ∃ p ys, xs = [.ref p] ∧ (SqL G.K H p ys ∨ SqT G.K H p ys) ∧ ∀ l, H l = none → Q (.ref l) (upd H l (.lst ys))) pList := fun m h H xs vs Q S r q => by
  unfold pList at q
  split at q
  · rename_i x9
    obtain ⟨w, rfl, r1⟩ := r.inv1
    cases hs : seqOf h x9 with
    | none => rw [hs] at q; exact q.elim
    | some ys =>
      rw [hs] at q
      obtain ⟨a, us, rfl, t, rr⟩ := S.seq hs r1
      exact ⟨a, us, rfl, t, AftP.newL S rr q⟩
  · exact q.elim
theorem ok_tupOf : OkN G (fun xs H Q => ∃ p ys, xs = [.ref p] ∧ ((SqL G.K H p ys ∧ ∀ l, H l = none → Q (.ref l) (upd H l (.tup ys))) ∨ (SqT G.K H p ys ∧ Q (.ref p) H))) pTupOf := fun m h H xs vs Q S r q => by
  unfold pTupOf at q
  split at q
  · obtain ⟨w, rfl, r1⟩ := r.inv1
    have r2 := r1
    rw [RV] at r1
    obtain ⟨a, us, rfl, t, rr⟩ := r1
    exact ⟨a, us, rfl, Or.inr ⟨t, AftP.of S r2 q⟩⟩
  · rename_i n
    obtain ⟨w, rfl, r1⟩ := r.inv1
    cases hl : listAt h n with
    | none => rw [hl] at q; exact q.elim
    | some ys =>
      rw [hl] at q
      rw [RV] at r1
      obtain ⟨a, ha, rfl⟩ := r1
      obtain ⟨b, us, hb, t, rr⟩ := S.list hl
      rw [ha] at hb; cases hb
      exact ⟨a, us, rfl, Or.inl ⟨t, AftP.tup S rr q⟩⟩
  · exact q.elim
theorem ok_intOf : OkN G (fun xs H Q => (∃ i, xs = [.int i] ∧ Q (.int i) H) ∨ ∃ k, xs = [.bl k] ∧ Q (.int (if k then 1 else 0)) H) pIntOf := fun m h H xs vs Q S r q => by
  unfold pIntOf at q
  split at q
  · exact Or.inl ⟨_, rvs_int1 r, AftP.of S mk_int q⟩
  · obtain ⟨w, rfl, r1⟩ := r.inv1
    rw [RV] at r1; subst r1
    exact Or.inr ⟨_, rfl, AftP.of S mk_int q⟩
  · exact q.elim
theorem ok_max2 : OkN G (fun xs H Q => ∃ i j, xs = [.int i, .int j] ∧ Q (.int (if j > i then j else i)) H) pMax2 := fun m h H xs vs Q S r q => by
  unfold pMax2 at q
  split at q
  · exact ⟨_, _, rvs_int2 r, AftP.of S mk_int q⟩
  · exact q.elim
theorem ok_min2 : OkN G (fun xs H Q => ∃ i j, xs = [.int i, .int j] ∧ Q (.int (if j < i then j else i)) H) pMin2 := fun m h H xs vs Q S r q => by
  unfold pMin2 at q
  split at q
  · exact ⟨_, _, rvs_int2 r, AftP.of S mk_int q⟩
  · exact q.elim
theorem asInts_rel {K : PySem.W.Frag} : ∀ {xs : List PV} {vs : List V} {ns : List Int}, asInts xs = some ns → RVs K m H xs vs → vs = ns.map V.int
  | [], vs, ns, e, r => by rw [RVs] at r; subst r; cases e; rfl
  | x :: xs, vs, ns, e, r => by
    rw [RVs] at r
    obtain ⟨v, t, rfl, r1, r2⟩ := r
    cases x with
    | int i =>
      simp only [asInts, Option.map_eq_some_iff] at e
      obtain ⟨ms, e, rfl⟩ := e
      rw [rv_int r1, asInts_rel e r2]; rfl
    | _ => simp [asInts] at e
theorem asBls_rel {K : PySem.W.Frag} : ∀ {xs : List PV} {vs : List V} {ns : List Bool}, asBls xs = some ns → RVs K m H xs vs → vs = ns.map V.bl
  | [], vs, ns, e, r => by rw [RVs] at r; subst r; cases e; rfl
  | x :: xs, vs, ns, e, r => by
    rw [RVs] at r
    obtain ⟨v, t, rfl, r1, r2⟩ := r
    cases x with
    | bl i =>
      simp only [asBls, Option.map_eq_some_iff] at e
      obtain ⟨ms, e, rfl⟩ := e
      rw [RV.bl_inv r1, asBls_rel e r2]; rfl
    | _ => simp [asBls] at e
theorem ints_at (S : Sim G m h H) {n : Nat} {ns : List Int} {w : V} (e : (listAt h n).bind asInts = some ns) (r1 : RV G.K m H (.ref n) w) : ∃ a, w = .ref a ∧ SqL G.K H a (ns.map V.int) := by
  cases hl : listAt h n with
  | none => rw [hl] at e; cases e
  | some ys =>
    rw [hl] at e
    rw [RV] at r1
    obtain ⟨a, ha, rfl⟩ := r1
    obtain ⟨b, us, hb, t, rr⟩ := S.list hl
    rw [ha] at hb; cases hb
    rw [asInts_rel e rr] at t
    exact ⟨a, rfl, t⟩
theorem bls_at (S : Sim G m h H) {n : Nat} {ns : List Bool} {w : V} (e : (listAt h n).bind asBls = some ns) (r1 : RV G.K m H (.ref n) w) : ∃ a, w = .ref a ∧ SqL G.K H a (ns.map V.bl) := by
  cases hl : listAt h n with
  | none => rw [hl] at e; cases e
  | some ys =>
    rw [hl] at e
    rw [RV] at r1
    obtain ⟨a, ha, rfl⟩ := r1
    obtain ⟨b, us, hb, t, rr⟩ := S.list hl
    rw [ha] at hb; cases hb
    rw [asBls_rel e rr] at t
    exact ⟨a, rfl, t⟩
theorem ok_sum : OkN G (rSum G.K) pSum := fun m h H xs vs Q S r q => by
  unfold pSum at q
  split at q
  · rename_i n
    obtain ⟨w, rfl, r1⟩ := r.inv1
    cases e : (listAt h n).bind asInts with
    | none => rw [e] at q; exact q.elim
    | some ns =>
      rw [e] at q
      obtain ⟨a, rfl, t⟩ := ints_at S e r1
      exact ⟨a, ns, rfl, t, AftP.of S mk_int q⟩
  · exact q.elim
theorem ok_any : OkN G (rAny G.K) pAny := fun m h H xs vs Q S r q => by
  unfold pAny at q
  split at q
  · rename_i n
    obtain ⟨w, rfl, r1⟩ := r.inv1
    cases e : (listAt h n).bind asBls with
    | none => rw [e] at q; exact q.elim
    | some ns =>
      rw [e] at q
      obtain ⟨a, rfl, t⟩ := bls_at S e r1
      exact ⟨a, ns, rfl, t, AftP.of S mk_bl q⟩
  · exact q.elim
theorem ok_all : OkN G (rAll G.K) pAll := fun m h H xs vs Q S r q => by
  unfold pAll at q
  split at q
  · rename_i n
    obtain ⟨w, rfl, r1⟩ := r.inv1
    cases e : (listAt h n).bind asBls with
    | none => rw [e] at q; exact q.elim
    | some ns =>
      rw [e] at q
      obtain ⟨a, rfl, t⟩ := bls_at S e r1
      exact ⟨a, ns, rfl, t, AftP.of S mk_bl q⟩
  · exact q.elim
end
/-! ### in a text, in a list or tuple -/
def occS (i j : Str) : Bool := !(Builtin.Str.occurrences j i 0 j.length 1).isEmpty
def flatP : PV → Bool
  | .non => true | .bl _ => true | .int _ => true | .str _ => true
  | _ => false
def eqF : PV → PV → Bool
  | .non, .non => true
  | .bl a, .bl b => a == b
  | .bl a, .int b => (if a then 1 else 0) == b
  | .int a, .bl b => a == (if b then 1 else 0)
  | .int a, .int b => a == b
  | .str a, .str b => a == b
  | _, _ => false
def inP (x y : PV) (h : PH) : Option Bool := match y with
  | .str j => (match x with
    | .str i => some (occS i j)
    | _ => none)
  | .ref n => (listAt h n).bind fun xs => match toD h 64 x, xs.mapM (toD h 63) with
    | some d, some ds => some (ds.any fun z => PyData.eqv z d)
    | _, _ => none
  | .tup xs => if flatP x && xs.all flatP then some (xs.any fun y => eqF y x) else none
  | _ => none
def pIn : P2 := fun x y h => (inP x y h).map fun b => (.bl b, h)
def pNotIn : P2 := fun x y h => (inP x y h).map fun b => (.bl (!b), h)
section
variable {G : Par} {m : List Addr} {h : PH} {H : Hp} {Q : VK}
theorem rv_flat {K : PySem.W.Frag} {x : PV} {v : V} (r : RV K m H x v) (f : flatP x = true) : flatV v = true := by
  cases x <;> simp only [RV] at r <;> first
    | (simp [flatP] at f; done)
    | (obtain ⟨rfl, _⟩ := r; rfl)
    | (subst r; rfl)
theorem rv_eqF {K : PySem.W.Frag} {x y : PV} {v u : V} (r1 : RV K m H x v) (r2 : RV K m H y u) (f1 : flatP x = true) (f2 : flatP y = true) : eqV u v = eqF y x := by
  cases x <;> cases y <;> first
    | (simp [flatP] at f1; done)
    | (simp [flatP] at f2; done)
    | (simp only [RV] at r1 r2
       first
       | (obtain ⟨rfl, o1⟩ := r1; obtain ⟨rfl, o2⟩ := r2; rfl)
       | (obtain ⟨rfl, o1⟩ := r1; subst r2; rfl)
       | (obtain ⟨rfl, o2⟩ := r2; subst r1; rfl)
       | (subst r1 r2; rfl))
theorem rvs_flat {K : PySem.W.Frag} {x : PV} {v : V} (r1 : RV K m H x v) (f1 : flatP x = true) : ∀ {xs : List PV} {vs : List V}, RVs K m H xs vs → xs.all flatP = true → vs.all flatV = true ∧ inV v vs = xs.any fun y => eqF y x
  | [], vs, r, f => by rw [RVs] at r; subst r; exact ⟨rfl, rfl⟩
  | y :: xs, vs, r, f => by
    rw [RVs] at r
    obtain ⟨w, t, rfl, a, b⟩ := r
    rw [List.all_cons, Bool.and_eq_true] at f
    obtain ⟨c, d⟩ := rvs_flat r1 f1 b f.2
    refine ⟨by rw [List.all_cons, rv_flat a f.1, c]; rfl, ?_⟩
    unfold inV at d ⊢
    rw [List.any_cons, List.any_cons, d, rv_eqF r1 a f1 f.1]
abbrev rInP (K : PySem.W.Frag) : R2 := fun x y H Q => (∃ i j, x = .str i ∧ y = .str j ∧ Q (.bl (!(Builtin.Str.occurrences j i 0 j.length 1).isEmpty)) H) ∨ rInD K x y H Q ∨ rIn K false x y H Q
abbrev rNotInP (K : PySem.W.Frag) : R2 := fun x y H Q => (∃ i j, x = .str i ∧ y = .str j ∧ Q (.bl (!(!(Builtin.Str.occurrences j i 0 j.length 1).isEmpty))) H) ∨ rNotInD K x y H Q ∨ rIn K true x y H Q
theorem op_inP {X : Cx} (hu : X.A.units + 65 < cLine) : OpR X (compareOp .In) (rInP X.K) := OpR.or op_in_str (OpR.or (op_inD hu) op_in_seq)
theorem op_notInP {X : Cx} (hu : X.A.units + 65 < cLine) : OpR X (compareOp .NotIn) (rNotInP X.K) := OpR.or op_notin_str (OpR.or (op_notInD hu) op_notIn_seq)
theorem mapM_shaped (S : Sim G m h H) {n : Nat} {xs : List PV} {ds : List PyData} {w : V} (hl : listAt h n = some xs) (e : xs.mapM (toD h 63) = some ds) (r : RV G.K m H (.ref n) w) : Dp G.K H w (.list ds) ∧ SeqAt.shaped (.list ds) = true :=
  toD_shaped S (x := .ref n) (d := .list ds) (by
    show (listAt h n).bind (fun xs => (xs.mapM (toD h 63)).map PyData.list) = some (.list ds)
    rw [hl]
    show (xs.mapM (toD h 63)).map PyData.list = some (.list ds)
    rw [e]; rfl) r
theorem ok_in : Ok2 G (rInP G.K) pIn := fun m h H x y v u Q S r1 r2 q => by
  unfold pIn inP at q
  cases y with
  | str j =>
    cases x with
    | str i =>
      exact Or.inl ⟨i, j, (rv_str r1).1, (rv_str r2).1, AftP.of S mk_bl q⟩
    | _ => exact q.elim
  | ref n =>
    dsimp only at q
    cases hl : listAt h n with
    | none => rw [hl] at q; exact q.elim
    | some xs =>
      rw [hl] at q
      dsimp only [Option.bind] at q
      cases h1 : toD h 64 x with
      | none => rw [h1] at q; exact q.elim
      | some d =>
        cases h2 : xs.mapM (toD h 63) with
        | none => rw [h1, h2] at q; exact q.elim
        | some ds =>
          rw [h1, h2] at q
          obtain ⟨a1, a2⟩ := toD_shaped S h1 r1
          obtain ⟨b1, b2⟩ := mapM_shaped S hl h2 r2
          exact Or.inr (Or.inl ⟨d, ds, a1, b1, a2, b2, AftP.of S mk_bl q⟩)
  | tup xs =>
    dsimp only at q
    split at q
    · rename_i hf
      rw [Bool.and_eq_true] at hf
      rw [RV] at r2
      obtain ⟨a, vs, rfl, t, rr⟩ := r2
      obtain ⟨c, d⟩ := rvs_flat r1 hf.1 rr hf.2
      refine Or.inr (Or.inr ⟨a, vs, rfl, Or.inr t, rv_flat r1 hf.1, c, ?_⟩)
      rw [d]
      exact AftP.of S mk_bl q
    · exact q.elim
  | _ => exact q.elim
theorem ok_notIn : Ok2 G (rNotInP G.K) pNotIn := fun m h H x y v u Q S r1 r2 q => by
  unfold pNotIn inP at q
  cases y with
  | str j =>
    cases x with
    | str i =>
      exact Or.inl ⟨i, j, (rv_str r1).1, (rv_str r2).1, AftP.of S mk_bl q⟩
    | _ => exact q.elim
  | ref n =>
    dsimp only at q
    cases hl : listAt h n with
    | none => rw [hl] at q; exact q.elim
    | some xs =>
      rw [hl] at q
      dsimp only [Option.bind] at q
      cases h1 : toD h 64 x with
      | none => rw [h1] at q; exact q.elim
      | some d =>
        cases h2 : xs.mapM (toD h 63) with
        | none => rw [h1, h2] at q; exact q.elim
        | some ds =>
          rw [h1, h2] at q
          obtain ⟨a1, a2⟩ := toD_shaped S h1 r1
          obtain ⟨b1, b2⟩ := mapM_shaped S hl h2 r2
          exact Or.inr (Or.inl ⟨d, ds, a1, b1, a2, b2, AftP.of S mk_bl q⟩)
  | tup xs =>
    dsimp only at q
    split at q
    · rename_i hf
      rw [Bool.and_eq_true] at hf
      rw [RV] at r2
      obtain ⟨a, vs, rfl, t, rr⟩ := r2
      obtain ⟨c, d⟩ := rvs_flat r1 hf.1 rr hf.2
      refine Or.inr (Or.inr ⟨a, vs, rfl, Or.inr t, rv_flat r1 hf.1, c, ?_⟩)
      rw [d]
      exact AftP.of S mk_bl q
    · exact q.elim
  | _ => exact q.elim
/-! ### lists changed -/
theorem mutL_some {n : Nat} {f : List PV → Option (List PV × PV)} {q : Rp PV} (e : mutL n h f = q) (hq : q ≠ none) : ∃ xs ys y, h[n]? = some (.lst xs) ∧ f xs = some (ys, y) ∧ q = some (y, h.set n (.lst ys)) := by
  unfold mutL at e
  split at e
  · rename_i xs hx
    cases hf : f xs with
    | none => rw [hf] at e; exact absurd e.symm hq
    | some r =>
      rw [hf] at e
      exact ⟨xs, r.1, r.2, hx, hf, e.symm⟩
  · exact absurd e.symm hq
theorem aft_some {r : Rp PV} (q : AftP G m H r Q) : r ≠ none := fun e => by rw [e] at q; exact q
theorem AftP.mut (S : Sim G m h H) {n : Nat} {a : Addr} {xs ys : List PV} {vs us : List V} {y : PV} {w : V} (hn : h[n]? = some (.lst xs)) (ha : m[n]? = some a) (x : H a = some (.lst vs)) (r : RVs G.K m H ys us) (ry : RV G.K m H y w)
    (q : AftP G m H (some (y, h.set n (.lst ys))) Q) : Q w (upd H a (.lst us)) :=
  q m _ w (Step.of (TK.upd (noRd_lst x))) (S.setL hn ha x r) (ry.mono (Step.of (TK.upd (noRd_lst x))))
theorem ok_append : OkM G rAppend pAppend := fun m h H x xs v vs Q S r1 r2 q => by
  unfold pAppend at q
  split at q
  · rename_i n y
    obtain ⟨ys, zs, z, hn, hf, e⟩ := mutL_some rfl (aft_some q)
    rw [e] at q
    split at hf
    · rename_i hl
      cases hf
      obtain ⟨a, us, rfl, ha, x1, rr⟩ := S.lst' hn r1
      obtain ⟨w, rfl, r3⟩ := r2.inv1
      exact ⟨a, us, w, rfl, rfl, x1, by rw [rr.length]; exact hl, AftP.mut S hn ha x1 (rr.append (RVs.cons r3 RVs.nil)) mk_non q⟩
    · cases hf
  · exact q.elim
theorem ok_pop : OkM G rPop pPop := fun m h H x xs v vs Q S r1 r2 q => by
  unfold pPop at q
  split at q
  · rename_i n
    obtain ⟨ys, zs, z, hn, hf, e⟩ := mutL_some rfl (aft_some q)
    rw [e] at q
    obtain ⟨a, us, rfl, ha, x1, rr⟩ := S.lst' hn r1
    rw [RVs] at r2; subst r2
    cases hy : ys[ys.length - 1]? with
    | none => rw [hy] at hf; cases hf
    | some y =>
      rw [hy] at hf; cases hf
      obtain ⟨w, hw, r3⟩ := rr.get hy
      refine ⟨a, us, w, rfl, rfl, x1, by rw [rr.length]; exact hw, ?_⟩
      rw [List.dropLast_eq_take] at q
      rw [List.dropLast_eq_take, rr.length]
      exact AftP.mut S hn ha x1 (rr.take _) r3 q
  · exact q.elim
theorem ok_reverse : OkM G rReverse pReverse := fun m h H x xs v vs Q S r1 r2 q => by
  unfold pReverse at q
  split at q
  · rename_i n
    obtain ⟨ys, zs, z, hn, hf, e⟩ := mutL_some rfl (aft_some q)
    rw [e] at q
    obtain ⟨a, us, rfl, ha, x1, rr⟩ := S.lst' hn r1
    rw [RVs] at r2; subst r2
    cases hf
    exact ⟨a, us, rfl, rfl, x1, AftP.mut S hn ha x1 rr.reverse mk_non q⟩
  · exact q.elim
theorem rvs_erase {K : PySem.W.Frag} {xs : List PV} {vs : List V} {k : Nat} (r : RVs K m H xs vs) : RVs K m H (xs.eraseIdx k) (vs.eraseIdx k) := by
  rw [List.eraseIdx_eq_take_drop_succ, List.eraseIdx_eq_take_drop_succ]
  exact (r.take k).append (r.drop (k + 1))
theorem ok_popAt : OkM G rPopAt pPopAt := fun m h H x xs v vs Q S r1 r2 q => by
  unfold pPopAt at q
  split at q
  · rename_i n i
    obtain ⟨ys, zs, z, hn, hf, e⟩ := mutL_some rfl (aft_some q)
    rw [e] at q
    split at hf
    · rename_i hb
      obtain ⟨a, us, rfl, ha, x1, rr⟩ := S.lst' hn r1
      cases hk : ixN ys.length i with
      | none => rw [hk] at hf; cases hf
      | some k =>
        rw [hk] at hf
        dsimp only [Option.bind] at hf
        cases hy : ys[k]? with
        | none => rw [hy] at hf; cases hf
        | some y =>
          rw [hy] at hf; cases hf
          obtain ⟨w, hw, r3⟩ := rr.get hy
          exact ⟨a, us, i, k, w, rfl, rvs_int1 r2, x1, hb.1, hb.2, by rw [rr.length]; exact (ixN_seq hk).1, hw, AftP.mut S hn ha x1 (rvs_erase rr) r3 q⟩
    · cases hf
  · exact q.elim
theorem ok_insert : OkM G (fun x vs H Q => ∃ (l : Addr) (xs : List V) (i : Int) (y : V), x = .ref l ∧ vs = [.int i, y] ∧ H l = some (.lst xs) ∧ xs.length < sizeLine ∧ 0 ≤ i ∧ i < 2 ^ 63 ∧
    Q .non (upd H l (.lst (xs.take i.toNat ++ [y] ++ xs.drop i.toNat)))) pInsert := fun m h H x xs v vs Q S r1 r2 q => by
  unfold pInsert at q
  split at q
  · rename_i n i y
    obtain ⟨ys, zs, z, hn, hf, e⟩ := mutL_some rfl (aft_some q)
    rw [e] at q
    split at hf
    · rename_i hb
      cases hf
      obtain ⟨a, us, rfl, ha, x1, rr⟩ := S.lst' hn r1
      obtain ⟨w, t, rfl, r3, r4⟩ := r2.inv2
      exact ⟨a, us, i, t, rfl, by rw [rv_int r3], x1, by rw [rr.length]; exact hb.1, hb.2.1, hb.2.2, AftP.mut S hn ha x1 (((rr.take _).append (RVs.cons r4 RVs.nil)).append (rr.drop _)) mk_non q⟩
    · cases hf
  · exact q.elim
theorem ok_setL : Ok3 G rSetL pSetL := fun m h H o i x vo vi v Q S r1 r2 r3 q => by
  unfold pSetL at q
  cases o with
  | ref n =>
    cases i with
    | int j =>
      dsimp only at q
      cases hn : h[n]? with
      | none => rw [hn] at q; exact q.elim
      | some ob =>
        cases ob with
        | lst xs =>
          rw [hn] at q
          dsimp only at q
          cases hk : ixN xs.length j with
          | none => rw [hk] at q; exact q.elim
          | some k =>
            rw [hk] at q
            obtain ⟨a, us, rfl, ha, x1, rr⟩ := S.lst' hn r1
            exact ⟨a, us, j, k, rfl, rv_int r2, x1, by rw [rr.length]; exact hk, q m _ (Step.of (TK.upd (noRd_lst x1))) (S.setL hn ha x1 (rr.set k r3))⟩
        | _ => rw [hn] at q; exact q.elim
    | _ => exact q.elim
  | _ => exact q.elim
end
/-! ### methods of built-in types -/
/-- the value is of the type T -/
def TyOk (G : Par) (T : String) (ty : PV → PH → Bool) : Prop := ∀ (X : Cx), X.K = G.K → ∀ (pins : List (Addr × Obj)) (σ : L2.St) (s : Shared) (m : List Addr) (h : PH) (H : Hp) (x : PV) (v : V) (u : Value), Inv X pins σ H s → Sim G m h H → RV G.K m H x v → RelV v u → ty x h = true →
  s.TypeIs u T ∧ ∀ a, u = .ref a → ∃ ob, s.heap.get? a = some ob ∧ ob.dict = none
theorem ty_lst {G : Par} : TyOk G "list" isLst := fun X hK pins σ s m h H x v u I S r rv e => by
  unfold isLst at e
  cases x with
  | ref n =>
    dsimp only at e
    cases hl : listAt h n with
    | none => rw [hl] at e; cases e
    | some xs =>
      rw [RV] at r
      obtain ⟨a, ha, rfl⟩ := r
      obtain ⟨b, vs, hb, t, rr⟩ := S.list hl
      rw [ha] at hb; cases hb
      rw [← hK] at t
      exact tyV_is I rv (Or.inl ⟨rfl, vs, t⟩)
  | _ => cases e
def isStr : PV → PH → Bool := fun x _ => match x with
  | .str _ => true
  | _ => false
theorem ty_str {G : Par} : TyOk G "str" isStr := fun X hK pins σ s m h H x v u I S r rv e => by
  cases x with
  | str z =>
    rw [RV] at r
    obtain ⟨rfl, _⟩ := r
    exact tyV_is (X := X) I rv rfl
  | _ => cases e
section
variable {X : Cx} {G : Par} {W : WX} {o e : Expr} {es : List Expr} {f : EF} {fa : AF} {name : Str} {apos cpos : Pos} {T id : String} {rd : V → List V → Hp → VK → Prop} {pp : PM} {ty : PV → PH → Bool}
theorem bm_recv {Q : VK} {σ : L2.St} {H : Hp} {n : Nat} (t : tE G W (eBM ty pp f fa) σ H Q) (hp : OkM G rd pp) : tE G W f σ H fun v H1 => ∃ m h x, Sim G m h H1 ∧ RV G.K m H1 x v ∧ ty x h = true ∧ tA G W fa σ H1 fun vs H2 => rd v vs H2 Q := by
  obtain ⟨m, r, h, S, E, q⟩ := t
  refine ⟨m, r, h, S, E, ?_⟩
  unfold eBM at q
  have q1 := Aft.bind q
  revert q1
  cases f r h with
  | bad => exact fun z => z
  | exc e h1 => exact fun z => z
  | ok x h1 =>
    intro z m1 H1 v s1 S1 r1
    obtain ⟨m2, x2, h2, s2, S2, r2, q2⟩ := z m1 H1 v s1 S1 r1
    split at q2
    · rename_i ht
      refine ⟨m2, h2, x2, S2, r2, ht, m2, r, h2, S2, E.mono s2, ?_⟩
      have q3 := Aft.bindA q2
      revert q3
      cases fa r h2 with
      | bad => exact fun z => z
      | exc e h1 => exact fun z => z
      | ok xs h3 =>
        intro z m3 H3 vs s3 S3 r3
        obtain ⟨m4, x4, h4, s4, S4, r4, q4⟩ := z m3 H3 vs s3 S3 r3
        exact hp m4 h4 H3 x2 x4 v vs Q S4 (r2.mono s4) r4 (Aft.p q4)
    · exact q2.elim
theorem je_bm (pa : PlainAttrs T) (slot : Slot T name id) (hty : typeOf (.builtin id) = pure (.type "method_descriptor")) (hm : MtR X id rd) (hp : OkM G rd pp) (tk : TyOk G T ty) (ho : JE X G W o f) (ha : JA X G W (e :: es) fa) (hK : X.K = G.K := by rfl)
    (hbase : attributeBase o name X.env (eval o X.env) = eval o X.env := by rfl)
    (hfew : ((backTo cpos (starEach (e :: es) X.env)).all (fun x => !x.1) && (backToKw cpos (keywordEach [] X.env)).all (fun x => x.1.isSome)
      && decide ((e :: es).length + ([] : List Keyword).length + (if ([] : List Keyword).isEmpty then 0 else 1) < 30)) = true := by rfl)
    (hline : (apos.endLine == cpos.line) = true := by rfl) (hs : starEach (e :: es) X.env = (false, eval e X.env) :: starEach es X.env := by rfl) (hplain : (backTo cpos (starEach es X.env)).any (·.1) = false := by rfl) :
    JE X G W (.Call (.Attribute o name apos) (e :: es) [] cpos) (eBM ty pp f fa) := by
  refine ⟨fun pins s σ H Q I t => ?_⟩
  refine wpAny_Call_method_late hbase hfew hline rfl (thn (ho.run pins s σ H _ I (bm_recv (n := 0) t hp)) fun u s1 hh => ?_)
  obtain ⟨v, H1, I1, r1, m, h, x, S, rx, hty', q1⟩ := hh
  obtain ⟨h1, h2⟩ := tk X hK pins σ s1 m h H1 x v u I1 S rx r1 hty'
  refine ⟨T, id, pa, slot, hty, h1, h2, ?_⟩
  have hA := ha.run cpos pins s1 σ H1 _ I1 q1
  rw [hs] at hA ⊢
  refine Calls.callWith_builtin (by show (false || (backTo cpos (starEach es X.env)).any (·.1)) = false; rw [hplain] <;> rfl) (Calls.evalArgs_plain ?_)
  exact thn hA fun us s2 ⟨vs, H2, I2, r2, q2⟩ => hm pins s2 σ H2 v vs u us Q I2 r1 r2 q2
theorem je_bm0 (pa : PlainAttrs T) (slot : Slot T name id) (hty : typeOf (.builtin id) = pure (.type "method_descriptor")) (hm : MtR X id rd) (hp : OkM G rd pp) (tk : TyOk G T ty) (ho : JE X G W o f) (hK : X.K = G.K := by rfl)
    (hbase : attributeBase o name X.env (eval o X.env) = eval o X.env := by rfl) (hline : (apos.endLine == cpos.line) = true := by rfl) :
    JE X G W (.Call (.Attribute o name apos) [] [] cpos) (eBM ty pp f aNil) := by
  refine ⟨fun pins s σ H Q I t => ?_⟩
  refine wpAny_Call_method0_late hbase hline (thn (ho.run pins s σ H _ I (bm_recv (n := 0) t hp)) fun u s1 hh => ?_)
  obtain ⟨v, H1, I1, r1, m, h, x, S, rx, hty', q1⟩ := hh
  obtain ⟨h1, h2⟩ := tk X hK pins σ s1 m h H1 x v u I1 S rx r1 hty'
  obtain ⟨m2, r2, h3, S2, E2, q2⟩ := q1
  exact ⟨T, id, pa, slot, hty, h1, h2, Calls.callWith_builtin rfl (PySem.evalArgs_none (hm pins s1 σ H1 v [] u [] Q I1 r1 .nil (q2 m2 H1 [] Step.refl S2 RVs.nil)))⟩
/-! ### isinstance with a built-in type -/
def isSubT (t T : String) : Bool := t == T || (t == "bool" && T == "int")
def tyP (h : PH) : PV → Option String
  | .non => some "NoneType"
  | .bl _ => some "bool"
  | .int _ => some "int"
  | .str _ => some "str"
  | .tup _ => some "tuple"
  | .ref n => (listAt h n).map fun _ => "list"
def pIsT (T : String) : P1 := fun x h => (tyP h x).map fun t => (.bl (isSubT t T), h)
theorem kit_sub {K : PySem.W.Frag} {t T : String} (h1 : t ∈ ["NoneType", "bool", "int", "str", "tuple", "list"]) (h2 : T ∈ ["bool", "int", "str", "tuple", "list"]) : PySem.W.kitOne K (.type t) (.type T) = some (isSubT t T) := by
  have z : ∀ t ∈ ["NoneType", "bool", "int", "str", "tuple", "list"], ∀ T ∈ ["bool", "int", "str", "tuple", "list"], kitB t T = some (isSubT t T) := by decide +kernel
  exact kit_ty (z t h1 T h2)
theorem tyP_ok {m : List Addr} {h : PH} {H : Hp} {x : PV} {v : V} {t : String} (S : Sim G m h H) (r : RV G.K m H x v) (e : tyP h x = some t) : TyX G.K H v (.type t) ∧ t ∈ ["NoneType", "bool", "int", "str", "tuple", "list"] := by
  cases x with
  | non => cases e; rw [rv_non r]; exact ⟨.base .non, by decide⟩
  | bl b => cases e; rw [RV.bl_inv r]; exact ⟨.base (.bl b), by decide⟩
  | int i => cases e; rw [rv_int r]; exact ⟨.base (.int i), by decide⟩
  | str s => cases e; rw [(rv_str r).1]; exact ⟨.base (.str s), by decide⟩
  | tup xs =>
    cases e
    rw [RV] at r
    obtain ⟨a, vs, rfl, t, _⟩ := r
    refine ⟨?_, by decide⟩
    rcases t with (t | ⟨o, t⟩) | ⟨o, its, n, e1, e2, _⟩
    · exact .base (.tup t)
    · exact .fTuple t
    · exact .kTuple e1 e2
  | ref n =>
    unfold tyP at e
    dsimp only at e
    cases hl : listAt h n with
    | none => rw [hl] at e; cases e
    | some xs =>
      rw [hl] at e; cases e
      rw [RV] at r
      obtain ⟨a, ha, rfl⟩ := r
      obtain ⟨b, vs, hb, t, _⟩ := S.list hl
      rw [ha] at hb; cases hb
      refine ⟨?_, (by decide : ("list" : String) ∈ ["NoneType", "bool", "int", "str", "tuple", "list"])⟩
      rcases t with (t | ⟨o, t⟩) | ⟨o, its, n, e1, e2, _⟩
      · exact .base (.lst t)
      · exact .base (.frz t)
      · exact .kList e1 e2
theorem je_isT {Tn : Str} {p p2 pos : Pos} (hg : Gl X "isinstance") (hm : X.mg "isinstance" = none) (ho : JE X G W o f) (hgT : Gl X Tn) (hmT : X.mg Tn = none) (hvT : bootBuiltins Tn = some (.type T)) (hT : T ∈ ["bool", "int", "str", "tuple", "list"]) (hv : bootBuiltins "isinstance" = some (.builtin "isinstance")) (hK : X.K = G.K := by rfl)
    (hnT : Tn ≠ "__name__" := by decide) (hdT : (Tn == ("__debug__" : Str)) = false := by decide)
    (s1 : starEach (.Name Tn p2 :: []) X.env = (false, eval (.Name Tn p2) X.env) :: starEach [] X.env := by rfl) (s2 : starEach (o :: .Name Tn p2 :: []) X.env = (false, eval o X.env) :: starEach (.Name Tn p2 :: []) X.env := by rfl)
    (hpl : (backTo pos (starEach (.Name Tn p2 :: []) X.env)).any (·.1) = false := by rfl) :
    JE X G W (.Call (.Name "isinstance" p) [o, .Name Tn p2] [] pos) (eUn (pIsT T) f) :=
  pe_imp (pe_callB (call_isi (X := X)) hg hm hv (pa_cons ho (pa_cons (pe_bltn (v := .ty T) hgT hmT hvT rfl hnT hdT) pa_nil s1) s2) (by decide) (by decide) s2 hpl) fun σ H Q ⟨m, r, h, S, E, q⟩ => by
    refine ⟨m, r, h, S, E, ?_⟩
    have q1 := Aft.bind (f := fun x h1 => (pIsT T x h1).r) q
    revert q1
    cases hf : f r h with
    | bad => exact fun z => z
    | exc e h1 => exact fun z => z
    | ok x h1 =>
      intro z m1 H1 v s1 S1 r1
      obtain ⟨m2, x2, h2, s2, S2, r2, q2⟩ := z m1 H1 v s1 S1 r1
      have q3 := Aft.p q2
      unfold pIsT at q3
      cases ht : tyP h2 x2 with
      | none => rw [ht] at q3; exact q3.elim
      | some t =>
        rw [ht] at q3
        obtain ⟨k1, k2⟩ := tyP_ok S2 r2 ht
        rw [← hK] at k1
        exact ⟨v, .ty T, .type t, .type T, isSubT t T, rfl, .ty T, k1, kit_sub k2 hT, AftP.of S2 mk_bl q3⟩
end
end Z
/-! Zd: dicts whose keys are None, whole numbers, texts and nested tuples of such, together. -/
namespace Z
open PySem L2
/-- the entries l have the keys ks -/
structure Ents (w : World) (h : Heap) (l : List DictEntry) (ks : List NestedKey) : Prop where
  len : l.length = ks.length
  at_ : ∀ (j : Nat) (e : DictEntry), l[j]? = some e → ∃ k, ks[j]? = some k ∧ e.hash = k.hash w ∧ NestedIs h k e.key
  dep : ∀ k ∈ ks, k.depth ≤ 8
  nd : ks.Nodup
/-- where a key stands -/
def posK (ks : List NestedKey) (k : NestedKey) : Option Nat := ks.findIdx? fun x => decide (x = k)
theorem posK_some {ks : List NestedKey} {k : NestedKey} {j : Nat} (hn : ks.Nodup) (h : ks[j]? = some k) : posK ks k = some j := by
  obtain ⟨hj, e⟩ := List.getElem?_eq_some_iff.mp h
  unfold posK
  rw [List.findIdx?_eq_some_iff_getElem]
  refine ⟨hj, by simp [e], fun i hi => ?_⟩
  have : ks[i] ≠ k := fun z => by
    have := (List.getElem_inj hn).mp (z.trans e.symm)
    omega
  simp [this]
theorem posK_none {ks : List NestedKey} {k : NestedKey} (h : ∀ j : Nat, ks[j]? ≠ some k) : posK ks k = none := by
  unfold posK
  rw [List.findIdx?_eq_none_iff]
  intro x hx
  obtain ⟨j, hj⟩ := List.mem_iff_getElem?.mp hx
  have : x ≠ k := fun e => h j (e ▸ hj)
  simp [this]
theorem posK_get {ks : List NestedKey} {k : NestedKey} {j : Nat} (h : posK ks k = some j) : ks[j]? = some k := by
  unfold posK at h
  rw [List.findIdx?_eq_some_iff_getElem] at h
  obtain ⟨hj, e, _⟩ := h
  rw [List.getElem?_eq_getElem hj, of_decide_eq_true e]
section
variable {prog : Program} {w : World} {A : Around} {E : Value → Shared → Prop} {s : Shared} {d : Addr} {o : Obj} {es : Array DictEntry} {ep : Nat} {ks : List NestedKey} {k : NestedKey} {kv : Value}
/-- the places that are still to be looked at -/
structure Todo (w : World) (es : Array DictEntry) (ks : List NestedKey) (k : NestedKey) (rest : List Nat) : Prop where
  sub : ∀ i ∈ rest, i < es.size
  nd : rest.Nodup
theorem todo_tail {x : Nat} {rest : List Nat} (t : Todo w es ks k (x :: rest)) : Todo w es ks k rest ∧ x < es.size ∧ x ∉ rest := by
  have := List.nodup_cons.mp t.nd
  exact ⟨⟨fun i hi => t.sub i (List.mem_cons_of_mem _ hi), this.2⟩, t.sub x List.mem_cons_self, this.1⟩
theorem places_ok {h : Heap} (T : Ents w h es.toList ks) : Todo w es ks k (placesWithHash es.size (fun i => es[i]?.map (·.hash)) (k.hash w)) ∧ ∀ j : Nat, ks[j]? = some k → j ∈ placesWithHash es.size (fun i => es[i]?.map (·.hash)) (k.hash w) := by
  refine ⟨⟨fun i hi => ?_, ?_⟩, fun j hj => ?_⟩
  · exact List.mem_range.mp (List.mem_filter.mp hi).1
  · exact List.Pairwise.filter _ List.nodup_range
  · have hl : j < es.size := by
      have h1 := (List.getElem?_eq_some_iff.mp hj).1
      rw [← T.len, Array.length_toList] at h1
      exact h1
    obtain ⟨k', e1, e2, _⟩ := T.at_ j es[j] (by rw [Array.getElem?_toList, Array.getElem?_eq_getElem hl])
    rw [hj] at e1; cases e1
    refine List.mem_filter.mpr ⟨List.mem_range.mpr hl, ?_⟩
    dsimp only
    rw [Array.getElem?_eq_getElem hl, Option.map_some, e2]
    simp
theorem ent_at {h : Heap} (T : Ents w h es.toList ks) {x : Nat} (hx : x < es.size) : ∃ k', ks[x]? = some k' ∧ k'.depth ≤ 8 ∧ es[x].hash = k'.hash w ∧ NestedIs h k' es[x].key := by
  obtain ⟨k', e1, e2, e3⟩ := T.at_ x es[x] (by rw [Array.getElem?_toList, Array.getElem?_eq_getElem hx])
  exact ⟨k', e1, T.dep k' (List.mem_of_getElem? e1), e2, e3⟩
theorem eqB {x y : NestedKey} {a b : Value} {Q : Bool → Shared → Prop} (hu : A.units + 8 < cLine) (hx : NestedIs s.heap x a) (hy : NestedIs s.heap y b) (dx : x.depth ≤ 8) (q : Q (decide (x = y)) s) : wpAny (model prog w) A (eqBool a b) Q E s :=
  eqAt_key x y A s a b hx hy (by omega) _ _ _ _ (by rw [← NestedKey.decide_eq]; exact q)
theorem iteWp {α : Type} {c : Prop} [Decidable c] {x y : Sem α} {Q : α → Shared → Prop} {M : Model} {A : Around} {E : Value → Shared → Prop} {s : Shared} (h1 : c → wpAny M A x Q E s) (h2 : ¬ c → wpAny M A y Q E s) : wpAny M A (if c then x else y) Q E s := by
  split
  · exact h1 ‹_›
  · exact h2 ‹_›

theorem find_any {Q : Option Nat → Shared → Prop} (hu : A.units + 8 < cLine) (hk : NestedIs s.heap k kv) (dk : k.depth ≤ 8) (ho : s.heap.get? d = some o) (hd : o.data = .dict es ep) (T : Ents w s.heap es.toList ks) (h : Q (posK ks k) s) :
    wpAny (model prog w) A (dictFind d kv (k.hash w)) Q E s := by
  obtain ⟨td, all⟩ := places_ok (k := k) T
  have hkeys : ∀ v ∈ (placesWithHash es.size (fun i => es[i]?.map (·.hash)) (k.hash w)).filterMap (fun i => es[i]?.map (·.key)), ∃ k', k'.depth ≤ 8 ∧ NestedIs s.heap k' v := by
    intro v hv
    obtain ⟨i, hi, e⟩ := List.mem_filterMap.mp hv
    have hl := td.sub i hi
    obtain ⟨k', _, h2, _, h4⟩ := ent_at T hl
    rw [Array.getElem?_eq_getElem hl] at e
    cases e
    exact ⟨k', h2, h4⟩
  have plain : wpAny (model prog w) A (dictWalkPlain d kv (k.hash w) es (placesWithHash es.size (fun i => es[i]?.map (·.hash)) (k.hash w))) Q E s := by
    unfold dictWalkPlain
    refine wpAny_bind (wpAny_forIn_list _ (fun rest b s' => s' = s ∧ b = (none, ()) ∧ Todo w es ks k rest ∧ ∀ j : Nat, ks[j]? = some k → j ∈ rest) _ ?_ ?_ _ _ ⟨rfl, rfl, td, all⟩)
    · rintro x rest b s' ⟨e1, e2, t, al⟩
      subst e1 e2
      obtain ⟨t', hx, hnot⟩ := todo_tail t
      obtain ⟨k', f1, f2, f3, f4⟩ := ent_at T hx
      have go : ¬ k' = k → ∀ j : Nat, ks[j]? = some k → j ∈ rest := fun ne j hj => by
        rcases List.mem_cons.mp (al j hj) with z | z
        · subst z; rw [f1] at hj; cases hj; exact absurd rfl ne
        · exact z
      simp only [Array.getElem?_eq_getElem hx]
      by_cases hh : (es[x].hash == k.hash w) = true
      · rw [if_pos hh]
        refine wpAny_bind (wpAny_dictEpoch ho hd (wpAny_bind (eqB hu f4 hk f2 (wpAny_bind (wpAny_dictEpoch ho hd ?_)))))
        show wpAny _ _ (if (ep != ep) = true then _ else _) _ E _
        rw [if_neg (by simp)]
        by_cases hkk : k' = k
        · rw [decide_eq_true hkk]
          subst hkk
          rw [posK_some T.nd f1] at h
          exact wpAny_bind (wpAny_rule (wpAny_pure (wpAny_pure h)))
        · rw [decide_eq_false hkk]
          exact wpAny_bind (wpAny_rule (wpAny_pure ⟨rfl, rfl, t', go hkk⟩))
      · rw [if_neg hh]
        refine wpAny_pure ⟨rfl, rfl, t', go fun e => hh ?_⟩
        rw [f3, e]; simp
    · rintro b s' ⟨e1, e2, t, al⟩
      subst e1 e2
      rw [posK_none fun j hj => by have := al j hj; simp at this] at h
      exact wpAny_pure h
  have tellsF : ∀ Q' : Bool → Shared → Prop, Q' false s → wpAny (model prog w) A (tableMayTell kv ((placesWithHash es.size (fun i => es[i]?.map (·.hash)) (k.hash w)).filterMap (fun i => es[i]?.map (·.key)))) Q' E s := by
    intro Q' q
    unfold tableMayTell
    split
    · exact wpAny_pure q
    · refine wpAny_bind (quiet_key k kv 8 s hk dk A E _ ?_)
      simp only [Bool.not_true, Bool.false_eq_true, if_false]
      refine wpAny_bind (wpAny_forIn_list _ (fun rest r s' => s' = s ∧ r = (none, ()) ∧ ∀ v ∈ rest, ∃ k' : NestedKey, k'.depth ≤ 8 ∧ NestedIs s.heap k' v) _ ?_ ?_ _ _ ⟨rfl, rfl, hkeys⟩)
      · rintro x rest r s' ⟨e1, e2, hr⟩
        subst e1 e2
        obtain ⟨k', dk', hb⟩ := hr x List.mem_cons_self
        refine wpAny_bind (quiet_key k' x 8 s' hb dk' A E _ ?_)
        simp only [Bool.not_true, Bool.false_eq_true, if_false]
        exact wpAny_pure ⟨rfl, rfl, fun v hv => hr v (List.mem_cons_of_mem _ hv)⟩
      · rintro r s' ⟨e1, e2, _⟩
        subst e1 e2
        exact wpAny_pure q
  have refs : ∀ a, kv = .ref a → ¬ (es.any fun e => e.key == Value.ref a && e.hash != k.hash w) = true := by
    intro a ea
    subst ea
    rw [← Array.any_toList, List.any_eq_true]
    rintro ⟨e, hin, hc⟩
    obtain ⟨j, hj⟩ := List.mem_iff_getElem?.mp hin
    obtain ⟨k', f1, f2, f3⟩ := T.at_ j e hj
    simp only [Bool.and_eq_true, beq_iff_eq, bne_iff_ne, ne_eq] at hc
    rw [hc.1] at f3
    rw [f2, NestedIs.inj _ _ _ f3 hk] at hc
    exact hc.2 rfl
  have stext : ∀ x t, kv = .str x t → k = .text x := by
    intro x t e
    subst e
    cases hk
    rfl
  have text1 : ∀ x t, kv = .str x t → wpAny (model prog w) A (foundByValue d (.str x t) es x) Q E s := by
    intro x t e0
    have ek := stext x t e0
    subst ek e0
    unfold foundByValue
    cases hf : es.findIdx? (fun e => e.key.isStr x) with
    | none =>
      rw [posK_none fun j hj => ?_] at h
      · exact wpAny_pure h
      · have hl : j < es.size := by
          have h1 := (List.getElem?_eq_some_iff.mp hj).1
          rw [← T.len, Array.length_toList] at h1
          exact h1
        obtain ⟨k', f1, _, _, f4⟩ := ent_at T hl
        rw [hj] at f1; cases f1
        have := Array.findIdx?_eq_none_iff.mp hf es[j] (Array.getElem_mem hl)
        generalize es[j].key = kk at this f4
        cases f4
        simp [Value.isStr] at this
    | some i =>
      obtain ⟨hl, hi, _⟩ := Array.findIdx?_eq_some_iff_getElem.mp hf
      obtain ⟨k', f1, f2, _, f4⟩ := ent_at T hl
      have ek : k' = .text x := by
        generalize es[i].key = kk at hi f4
        cases f4 <;> simp [Value.isStr] at hi
        first
          | (rw [hi])
          | (rw [← hi])
      subst ek
      simp only [Array.getElem?_eq_getElem hl]
      refine wpAny_bind (wpAny_dictEpoch ho hd (wpAny_bind (eqB hu f4 hk f2 (wpAny_bind (wpAny_dictEpoch ho hd ?_)))))
      show wpAny _ _ (if (ep != ep) = true then _ else _) _ E _
      rw [if_neg (by simp), decide_eq_true rfl]
      rw [posK_some T.nd f1] at h
      exact wpAny_bind (wpAny_rule (wpAny_pure h))
  -- one place of the long walk
  have slow : ∀ (tl : Bool) (n : Nat) (body : Nat → Option (Option Nat) × Option Nat → Sem (ForInStep (Option (Option Nat) × Option Nat))),
      (∀ x hit (hx : x < es.size) (R : ForInStep (Option (Option Nat) × Option Nat) → Shared → Prop) (k' : NestedKey), ks[x]? = some k' → (k' = k → hit = none) → (k' = k → R (.done (some (some x), hit)) s ∧ R (.yield (none, some x)) s) → (¬ k' = k → R (.yield (none, hit)) s) →
        wpAny (model prog w) A (body x (none, hit)) R E s) →
      wpAny (model prog w) A (forIn (placesWithHash es.size (fun i => es[i]?.map (·.hash)) (k.hash w)) (none, none) body) (fun r s' => s' = s ∧ (r.1 = some (posK ks k) ∨ (r.1 = none ∧ r.2 = posK ks k))) E s := by
    intro tl n body hb
    refine wpAny_forIn_list _ (fun rest b s' => s' = s ∧ b.1 = none ∧ Todo w es ks k rest ∧ ((b.2 = none ∧ ∀ j : Nat, ks[j]? = some k → j ∈ rest) ∨ ∃ j : Nat, b.2 = some j ∧ ks[j]? = some k ∧ j ∉ rest)) _ ?_ ?_ _ _ ⟨rfl, rfl, td, Or.inl ⟨rfl, all⟩⟩
    · rintro x rest ⟨b1, hit⟩ s' ⟨e1, e2, t, al⟩
      subst e1
      dsimp only at e2 al
      subst e2
      obtain ⟨t', hx, hnot⟩ := todo_tail t
      obtain ⟨k', f1, f2, f3, f4⟩ := ent_at T hx
      have only : ∀ j : Nat, ks[j]? = some k' → j = x := fun j hj => by
        have p1 := posK_some T.nd hj
        rw [posK_some T.nd f1] at p1
        exact (Option.some.inj p1).symm
      refine hb x hit hx _ k' f1 (fun e => ?_) (fun e => ⟨⟨rfl, Or.inl ?_⟩, rfl, rfl, t', Or.inr ⟨x, rfl, by rw [← e]; exact f1, hnot⟩⟩) fun ne => ⟨rfl, rfl, t', ?_⟩
      · subst e
        rcases al with ⟨a, _⟩ | ⟨j, a, b, c⟩
        · exact a
        · exact absurd (only j b) fun z => c (by rw [z]; exact List.mem_cons_self)
      · subst e
        show some (some x) = some (posK ks k')
        rw [posK_some T.nd f1]
      · rcases al with ⟨a, b⟩ | ⟨j, a, b, c⟩
        · refine Or.inl ⟨a, fun j hj => ?_⟩
          rcases List.mem_cons.mp (b j hj) with z | z
          · subst z; rw [f1] at hj; cases hj; exact absurd rfl ne
          · exact z
        · exact Or.inr ⟨j, a, b, fun z => c (List.mem_cons_of_mem _ z)⟩
    · rintro ⟨b1, hit⟩ s' ⟨e1, e2, t, al⟩
      refine ⟨e1, Or.inr ⟨e2, ?_⟩⟩
      dsimp only at al ⊢
      rcases al with ⟨a, b⟩ | ⟨j, a, b, c⟩
      · rw [a, posK_none fun j hj => by have := b j hj; simp at this]
      · rw [a, posK_some T.nd b]
  have turn : ∀ (x : Nat) (hit : Option Nat) (hx : x < es.size) (R : ForInStep (Option (Option Nat) × Option Nat) → Shared → Prop) (k' : NestedKey), ks[x]? = some k' → (k' = k → R (.done (some (some x), hit)) s ∧ R (.yield (none, some x)) s) → (¬ k' = k → R (.yield (none, hit)) s) →
      ∀ (yes no : Sem (ForInStep (Option (Option Nat) × Option Nat))), (k' = k → wpAny (model prog w) A yes R E s) → (¬ k' = k → wpAny (model prog w) A no R E s) →
      wpAny (model prog w) A (if (es[x].hash == k.hash w) = true then (do
        let before ← dictEpoch d (keyPart kv)
        let same ← eqBool es[x].key kv
        let now ← dictEpoch d (keyPart kv)
        if (now != before) = true then (do let _ ← (unsupported "dict.changed-during-lookup" : Sem Unit); if same = true then yes else no) else if same = true then yes else no) else pure (ForInStep.yield (none, hit))) R E s := by
    intro x hit hx R k' f1 hy hn yes no wy wn
    obtain ⟨k2, g1, f2, f3, f4⟩ := ent_at T hx
    rw [f1] at g1; cases g1
    by_cases hh : (es[x].hash == k.hash w) = true
    · rw [if_pos hh]
      refine wpAny_bind (wpAny_dictEpoch ho hd (wpAny_bind (eqB hu f4 hk f2 (wpAny_bind (wpAny_dictEpoch ho hd ?_)))))
      rw [if_neg (by simp)]
      by_cases hkk : k' = k
      · rw [decide_eq_true hkk]; exact wy hkk
      · rw [decide_eq_false hkk]; exact wn hkk
    · rw [if_neg hh]
      exact wpAny_pure (hn fun e => hh (by rw [f3, e]; simp))
  unfold dictFind
  try with_reducible refine wpAny_holding ?_
  refine wpAny_bind (wpAny_dictEntries ho hd ?_)
  cases hk with
  | none =>
    dsimp only
    refine iteWp (fun hc => plain) fun hc => ?_
    refine iteWp (fun hs => ?_) fun hs => ?_
    · refine wpAny_bind (wpAny_pure ?_)
      rw [if_neg (by simp)]
      refine wpAny_bind (wpAny_mono (slow false 0 _ fun x hit hx R k' f1 hnone hy hn => ?_) (fun r s' hr => ?_) fun _ _ z => z)
      · simp only [Array.getElem?_eq_getElem hx]
        refine turn x hit hx R k' f1 hy hn _ _ (fun e => ?_) fun ne => ?_
        · have e2 := hnone e
          subst e2
          simp only [Option.isSome_none, Bool.false_eq_true, if_false]
          refine wpAny_bind (wpAny_rule ?_)
          split
          · exact wpAny_pure (hy e).1
          · exact wpAny_pure (hy e).2
        · refine wpAny_bind (wpAny_rule ?_)
          rw [if_neg (by simp)]
          exact wpAny_pure (hn ne)
      · obtain ⟨r1, r2⟩ := r
        obtain ⟨e1, e2⟩ := hr
        subst e1
        dsimp only at e2 ⊢
        rcases e2 with e2 | ⟨e2, e3⟩
        · subst e2; exact wpAny_pure h
        · subst e2 e3; exact wpAny_pure h
    · refine wpAny_bind (tellsF _ ?_)
      rw [if_neg (by simp)]
      refine wpAny_bind (wpAny_mono (slow false 0 _ fun x hit hx R k' f1 hnone hy hn => ?_) (fun r s' hr => ?_) fun _ _ z => z)
      · simp only [Array.getElem?_eq_getElem hx]
        refine turn x hit hx R k' f1 hy hn _ _ (fun e => ?_) fun ne => ?_
        · have e2 := hnone e
          subst e2
          simp only [Option.isSome_none, Bool.false_eq_true, if_false]
          refine wpAny_bind (wpAny_rule ?_)
          split
          · exact wpAny_pure (hy e).1
          · exact wpAny_pure (hy e).2
        · refine wpAny_bind (wpAny_rule ?_)
          rw [if_neg (by simp)]
          exact wpAny_pure (hn ne)
      · obtain ⟨r1, r2⟩ := r
        obtain ⟨e1, e2⟩ := hr
        subst e1
        dsimp only at e2 ⊢
        rcases e2 with e2 | ⟨e2, e3⟩
        · subst e2; exact wpAny_pure h
        · subst e2 e3; exact wpAny_pure h
  | bool e =>
    dsimp only
    refine iteWp (fun hc => plain) fun hc => ?_
    refine iteWp (fun hs => ?_) fun hs => ?_
    · refine wpAny_bind (wpAny_pure ?_)
      rw [if_neg (by simp)]
      refine wpAny_bind (wpAny_mono (slow false 0 _ fun x hit hx R k' f1 hnone hy hn => ?_) (fun r s' hr => ?_) fun _ _ z => z)
      · simp only [Array.getElem?_eq_getElem hx]
        refine turn x hit hx R k' f1 hy hn _ _ (fun e => ?_) fun ne => ?_
        · have e2 := hnone e
          subst e2
          simp only [Option.isSome_none, Bool.false_eq_true, if_false]
          refine wpAny_bind (wpAny_rule ?_)
          split
          · exact wpAny_pure (hy e).1
          · exact wpAny_pure (hy e).2
        · refine wpAny_bind (wpAny_rule ?_)
          rw [if_neg (by simp)]
          exact wpAny_pure (hn ne)
      · obtain ⟨r1, r2⟩ := r
        obtain ⟨e1, e2⟩ := hr
        subst e1
        dsimp only at e2 ⊢
        rcases e2 with e2 | ⟨e2, e3⟩
        · subst e2; exact wpAny_pure h
        · subst e2 e3; exact wpAny_pure h
    · refine wpAny_bind (tellsF _ ?_)
      rw [if_neg (by simp)]
      refine wpAny_bind (wpAny_mono (slow false 0 _ fun x hit hx R k' f1 hnone hy hn => ?_) (fun r s' hr => ?_) fun _ _ z => z)
      · simp only [Array.getElem?_eq_getElem hx]
        refine turn x hit hx R k' f1 hy hn _ _ (fun e => ?_) fun ne => ?_
        · have e2 := hnone e
          subst e2
          simp only [Option.isSome_none, Bool.false_eq_true, if_false]
          refine wpAny_bind (wpAny_rule ?_)
          split
          · exact wpAny_pure (hy e).1
          · exact wpAny_pure (hy e).2
        · refine wpAny_bind (wpAny_rule ?_)
          rw [if_neg (by simp)]
          exact wpAny_pure (hn ne)
      · obtain ⟨r1, r2⟩ := r
        obtain ⟨e1, e2⟩ := hr
        subst e1
        dsimp only at e2 ⊢
        rcases e2 with e2 | ⟨e2, e3⟩
        · subst e2; exact wpAny_pure h
        · subst e2 e3; exact wpAny_pure h
  | int i t =>
    dsimp only
    refine iteWp (fun hc => plain) fun hc => ?_
    refine iteWp (fun hs => ?_) fun hs => ?_
    · refine wpAny_bind (wpAny_pure ?_)
      rw [if_neg (by simp)]
      refine wpAny_bind (wpAny_mono (slow false 0 _ fun x hit hx R k' f1 hnone hy hn => ?_) (fun r s' hr => ?_) fun _ _ z => z)
      · simp only [Array.getElem?_eq_getElem hx]
        refine turn x hit hx R k' f1 hy hn _ _ (fun e => ?_) fun ne => ?_
        · have e2 := hnone e
          subst e2
          simp only [Option.isSome_none, Bool.false_eq_true, if_false]
          refine wpAny_bind (wpAny_rule ?_)
          split
          · exact wpAny_pure (hy e).1
          · exact wpAny_pure (hy e).2
        · refine wpAny_bind (wpAny_rule ?_)
          rw [if_neg (by simp)]
          exact wpAny_pure (hn ne)
      · obtain ⟨r1, r2⟩ := r
        obtain ⟨e1, e2⟩ := hr
        subst e1
        dsimp only at e2 ⊢
        rcases e2 with e2 | ⟨e2, e3⟩
        · subst e2; exact wpAny_pure h
        · subst e2 e3; exact wpAny_pure h
    · refine wpAny_bind (tellsF _ ?_)
      rw [if_neg (by simp)]
      refine wpAny_bind (wpAny_mono (slow false 0 _ fun x hit hx R k' f1 hnone hy hn => ?_) (fun r s' hr => ?_) fun _ _ z => z)
      · simp only [Array.getElem?_eq_getElem hx]
        refine turn x hit hx R k' f1 hy hn _ _ (fun e => ?_) fun ne => ?_
        · have e2 := hnone e
          subst e2
          simp only [Option.isSome_none, Bool.false_eq_true, if_false]
          refine wpAny_bind (wpAny_rule ?_)
          split
          · exact wpAny_pure (hy e).1
          · exact wpAny_pure (hy e).2
        · refine wpAny_bind (wpAny_rule ?_)
          rw [if_neg (by simp)]
          exact wpAny_pure (hn ne)
      · obtain ⟨r1, r2⟩ := r
        obtain ⟨e1, e2⟩ := hr
        subst e1
        dsimp only at e2 ⊢
        rcases e2 with e2 | ⟨e2, e3⟩
        · subst e2; exact wpAny_pure h
        · subst e2 e3; exact wpAny_pure h
  | text x t =>
    dsimp only
    refine iteWp (fun hx => text1 x t rfl) fun hx => ?_
    refine iteWp (fun hc => plain) fun hc => ?_
    refine iteWp (fun hs => ?_) fun hs => ?_
    · refine wpAny_bind (wpAny_pure ?_)
      rw [if_neg (by simp)]
      refine wpAny_bind (wpAny_mono (slow false 0 _ fun x hit hx R k' f1 hnone hy hn => ?_) (fun r s' hr => ?_) fun _ _ z => z)
      · simp only [Array.getElem?_eq_getElem hx]
        refine turn x hit hx R k' f1 hy hn _ _ (fun e => ?_) fun ne => ?_
        · have e2 := hnone e
          subst e2
          simp only [Option.isSome_none, Bool.false_eq_true, if_false]
          refine wpAny_bind (wpAny_rule ?_)
          split
          · exact wpAny_pure (hy e).1
          · exact wpAny_pure (hy e).2
        · refine wpAny_bind (wpAny_rule ?_)
          rw [if_neg (by simp)]
          exact wpAny_pure (hn ne)
      · obtain ⟨r1, r2⟩ := r
        obtain ⟨e1, e2⟩ := hr
        subst e1
        dsimp only at e2 ⊢
        rcases e2 with e2 | ⟨e2, e3⟩
        · subst e2; exact wpAny_pure h
        · subst e2 e3; exact wpAny_pure h
    · refine wpAny_bind (tellsF _ ?_)
      rw [if_neg (by simp)]
      refine wpAny_bind (wpAny_mono (slow false 0 _ fun x hit hx R k' f1 hnone hy hn => ?_) (fun r s' hr => ?_) fun _ _ z => z)
      · simp only [Array.getElem?_eq_getElem hx]
        refine turn x hit hx R k' f1 hy hn _ _ (fun e => ?_) fun ne => ?_
        · have e2 := hnone e
          subst e2
          simp only [Option.isSome_none, Bool.false_eq_true, if_false]
          refine wpAny_bind (wpAny_rule ?_)
          split
          · exact wpAny_pure (hy e).1
          · exact wpAny_pure (hy e).2
        · refine wpAny_bind (wpAny_rule ?_)
          rw [if_neg (by simp)]
          exact wpAny_pure (hn ne)
      · obtain ⟨r1, r2⟩ := r
        obtain ⟨e1, e2⟩ := hr
        subst e1
        dsimp only at e2 ⊢
        rcases e2 with e2 | ⟨e2, e3⟩
        · subst e2; exact wpAny_pure h
        · subst e2 e3; exact wpAny_pure h
  | tup h1 h2 h3 h4 =>
    dsimp only
    refine iteWp (fun hc => plain) fun hc => ?_
    rw [if_neg (refs _ rfl)]
    refine iteWp (fun hs => ?_) fun hs => ?_
    · refine wpAny_bind (wpAny_pure ?_)
      rw [if_neg (by simp)]
      refine wpAny_bind (wpAny_mono (slow false 0 _ fun x hit hx R k' f1 hnone hy hn => ?_) (fun r s' hr => ?_) fun _ _ z => z)
      · simp only [Array.getElem?_eq_getElem hx]
        refine turn x hit hx R k' f1 hy hn _ _ (fun e => ?_) fun ne => ?_
        · have e2 := hnone e
          subst e2
          simp only [Option.isSome_none, Bool.false_eq_true, if_false]
          refine wpAny_bind (wpAny_rule ?_)
          split
          · exact wpAny_pure (hy e).1
          · exact wpAny_pure (hy e).2
        · refine wpAny_bind (wpAny_rule ?_)
          rw [if_neg (by simp)]
          exact wpAny_pure (hn ne)
      · obtain ⟨r1, r2⟩ := r
        obtain ⟨e1, e2⟩ := hr
        subst e1
        dsimp only at e2 ⊢
        rcases e2 with e2 | ⟨e2, e3⟩
        · subst e2; exact wpAny_pure h
        · subst e2 e3; exact wpAny_pure h
    · refine wpAny_bind (tellsF _ ?_)
      rw [if_neg (by simp)]
      refine wpAny_bind (wpAny_mono (slow false 0 _ fun x hit hx R k' f1 hnone hy hn => ?_) (fun r s' hr => ?_) fun _ _ z => z)
      · simp only [Array.getElem?_eq_getElem hx]
        refine turn x hit hx R k' f1 hy hn _ _ (fun e => ?_) fun ne => ?_
        · have e2 := hnone e
          subst e2
          simp only [Option.isSome_none, Bool.false_eq_true, if_false]
          refine wpAny_bind (wpAny_rule ?_)
          split
          · exact wpAny_pure (hy e).1
          · exact wpAny_pure (hy e).2
        · refine wpAny_bind (wpAny_rule ?_)
          rw [if_neg (by simp)]
          exact wpAny_pure (hn ne)
      · obtain ⟨r1, r2⟩ := r
        obtain ⟨e1, e2⟩ := hr
        subst e1
        dsimp only at e2 ⊢
        rcases e2 with e2 | ⟨e2, e3⟩
        · subst e2; exact wpAny_pure h
        · subst e2 e3; exact wpAny_pure h
/-- a dict of these entries and keys stands at d -/
structure DX (w : World) (h : Heap) (d : Addr) (l : List DictEntry) (ep : Nat) (ks : List NestedKey) : Prop where
  at_ : dictAt d l ep h
  ok : Ents w h l ks
theorem DX.typeIs {l : List DictEntry} (x : DX w s.heap d l ep ks) : s.TypeIs (.ref d) "dict" := let ⟨_, _, ho, hc, _⟩ := x.at_; ⟨_, ho, hc.1⟩
/-- the value at a key -/
def valK (l : List DictEntry) (ks : List NestedKey) (k : NestedKey) : Option Value := (posK ks k).bind fun j => (l[j]?).map (·.val)
def putK (w : World) (l : List DictEntry) (ks : List NestedKey) (k : NestedKey) (kv v : Value) : List DictEntry := match posK ks k with
  | some j => l.modify j fun e => { e with val := v }
  | none => l ++ [⟨k.hash w, kv, v⟩]
def epPut (ks : List NestedKey) (k : NestedKey) (ep : Nat) : Nat := match posK ks k with
  | some _ => ep
  | none => ep + 1
def keysPut (ks : List NestedKey) (k : NestedKey) : List NestedKey := match posK ks k with
  | some _ => ks
  | none => ks ++ [k]
variable {l : List DictEntry}
theorem get_any {Q : Option Value → Shared → Prop} (hu : A.units + 8 < cLine) (hk : NestedIs s.heap k kv) (dk : k.depth ≤ 8) (x : DX w s.heap d l ep ks) (h : Q (valK l ks k) { s with toks := s.toks + k.draws }) :
    wpAny (model prog w) A (dictGet d kv) Q E s := by
  obtain ⟨⟨o, es, ho, _, hd, he⟩, T⟩ := x
  subst he
  unfold dictGet
  try with_reducible refine wpAny_holding ?_
  refine wpAny_bind (pyHash_key k kv A s _ hk (by omega) (wpAny_bind (find_any (s := { s with toks := s.toks + k.draws }) hu hk dk ho hd T ?_)))
  unfold valK at h
  cases hp : posK ks k with
  | none => rw [hp] at h; exact wpAny_pure h
  | some j =>
    rw [hp] at h
    refine wpAny_bind (wpAny_dictEntries (s := { s with toks := s.toks + k.draws }) ho hd ?_)
    refine wpAny_pure ?_
    rw [← Array.getElem?_toList]
    exact h
theorem is_keep {h h' : Heap} (hs : Heap.SameBut d h h') (hx : dictAt d l ep h) (hk : NestedIs h k kv) : NestedIs h' k kv := by
  obtain ⟨o, es, ho, _, hd, _⟩ := hx
  refine NestedIs.at (fun b ob vs n hb hc => (hs.2 b fun e => ?_).trans hb) k _ hk
  subst e
  rw [ho] at hb; cases hb
  rw [hd] at hc; cases hc
theorem ents_keep {h h' : Heap} (hs : Heap.SameBut d h h') (hx : dictAt d l ep h) {l2 : List DictEntry} {ks2 : List NestedKey} (T : Ents w h l2 ks2) : Ents w h' l2 ks2 where
  len := T.len
  at_ := fun j e q => let ⟨k, a, b, c⟩ := T.at_ j e q; ⟨k, a, b, is_keep hs hx c⟩
  dep := T.dep
  nd := T.nd
theorem ents_put {h : Heap} (T : Ents w h l ks) (hk : NestedIs h k kv) (dk : k.depth ≤ 8) (v : Value) : Ents w h (putK w l ks k kv v) (keysPut ks k) := by
  unfold putK keysPut
  cases hp : posK ks k with
  | some j =>
    refine ⟨by simp [T.len], fun i e q => ?_, T.dep, T.nd⟩
    dsimp only at q
    rw [List.getElem?_modify] at q
    cases hl : l[i]? with
    | none => rw [hl] at q; simp at q
    | some e0 =>
      rw [hl] at q
      obtain ⟨k', a, b, c⟩ := T.at_ i e0 hl
      refine ⟨k', a, ?_⟩
      by_cases hij : j = i
      · simp [hij] at q; subst q; exact ⟨b, c⟩
      · simp [hij] at q; subst q; exact ⟨b, c⟩
  | none =>
    have hno : k ∉ ks := fun z => by
      obtain ⟨j, hj⟩ := List.mem_iff_getElem?.mp z
      rw [posK_some T.nd hj] at hp; cases hp
    refine ⟨by simp [T.len], fun i e q => ?_, fun x hx => ?_, ?_⟩
    · dsimp only at q
      by_cases hi : i < l.length
      · rw [List.getElem?_append_left hi] at q
        obtain ⟨k', a, b⟩ := T.at_ i e q
        exact ⟨k', by rw [List.getElem?_append_left (by rw [← T.len]; exact hi)]; exact a, b⟩
      · rw [List.getElem?_append_right (by omega)] at q
        have hi2 : i - l.length = 0 := by
          cases z : i - l.length with
          | zero => rfl
          | succ n => rw [z] at q; simp at q
        rw [hi2] at q
        simp at q
        subst q
        refine ⟨k, ?_, rfl, hk⟩
        have : i = ks.length := by rw [← T.len]; omega
        subst this
        simp
    · rcases List.mem_append.mp hx with z | z
      · exact T.dep x z
      · simp at z; subst z; exact dk
    · rw [List.nodup_append]
      refine ⟨T.nd, by simp, fun a ha b hb => ?_⟩
      simp at hb
      subst hb
      exact fun e => hno (e ▸ ha)
theorem set_any {v : Value} {Q : Unit → Shared → Prop} (hu : A.units + 8 < cLine) (hk : NestedIs s.heap k kv) (dk : k.depth ≤ 8) (x : DX w s.heap d l ep ks) (hz : l.length ≤ sizeLine)
    (h : ∀ h', DX w h' d (putK w l ks k kv v) (epPut ks k ep) (keysPut ks k) → Heap.SameBut d s.heap h' → Q () { s with heap := h', toks := s.toks + k.draws }) : wpAny (model prog w) A (dictSet d kv v) Q E s := by
  have hx := x.at_
  obtain ⟨⟨o, es, ho, hc, hd, he⟩, T⟩ := x
  subst he
  unfold dictSet
  try with_reducible refine wpAny_holding ?_
  refine wpAny_bind (pyHash_key k kv A s _ hk (by omega) ?_)
  unfold dictSetHashed
  try with_reducible refine wpAny_holding ?_
  refine wpAny_bind (find_any (s := { s with toks := s.toks + k.draws }) hu hk dk ho hd T ?_)
  have TP := ents_put T hk dk v
  cases hp : posK ks k with
  | none =>
    refine wpAny_bind (wpAny_rule (wpAny_updateDictKeys (hz := by simpa using hz) (s := { s with toks := s.toks + k.draws }) ho hd (h _ ⟨?_, ents_keep (Heap.SameBut.update ..) hx TP⟩ (Heap.SameBut.update ..))))
    unfold epPut
    rw [hp]
    refine ⟨_, _, Heap.get?_update_self _ ho (Obj.isFreed_of_dict (Obj.data_mapDictKeys hd _)), hc.mapDictKeys _, Obj.data_mapDictKeys hd _, ?_⟩
    unfold putK
    rw [hp]
    simp
  | some j =>
    refine wpAny_bind (wpAny_rule (wpAny_bind (wpAny_updateDict (s := { s with toks := s.toks + k.draws }) ho hd (wpAny_point (h _ ⟨?_, ents_keep (Heap.SameBut.update ..) hx TP⟩ (Heap.SameBut.update ..))))))
    unfold epPut
    rw [hp]
    refine ⟨_, _, Heap.get?_update_self _ ho (Obj.isFreed_of_dict (Obj.data_mapDict hd _)), hc.mapDict _, Obj.data_mapDict hd _, ?_⟩
    unfold putK
    rw [hp]
    obtain ⟨z⟩ := es
    simp
/-! ### by the operators -/
theorem in_any {Q : Value → Shared → Prop} (hu : A.in1.units + 8 < cLine) (hk : NestedIs s.heap k kv) (dk : k.depth ≤ 8) (hd : (d == sysModules) = false) (x : DX w s.heap d l ep ks)
    (h : Q (.bool (posK ks k).isSome) { s with toks := s.toks + k.draws }) : wpAny (model prog w) A (compareOp .In kv (.ref d)) Q E s := by
  have e0 : (posK ks k).isSome = (valK l ks k).isSome := by
    unfold valK
    cases hp : posK ks k with
    | none => rfl
    | some j =>
      have hj := posK_get hp
      have hl : j < l.length := by rw [x.ok.len]; exact (List.getElem?_eq_some_iff.mp hj).1
      simp [List.getElem?_eq_getElem hl]
  rw [e0] at h
  show wpAny _ _ (do return .bool (← contains (.ref d) kv)) Q E s
  refine wpAny_bind ?_
  unfold contains
  try with_reducible refine wpAny_holding ?_
  refine wpAny_bind (wpAny_specialOf x.typeIs slot_dict_contains.lookup ?_)
  show wpAny _ _ (if (some (Value.builtin "dict.__contains__") == some Value.none) = true then _ else _) _ E s
  rw [if_neg (by rw [beq_builtin_none]; exact Bool.false_ne_true)]
  refine wpAny_bind (wpAny_callSpecialUnlessNone?_slot (name := Str.ofString "__contains__") x.typeIs slot_dict_contains
    (wpAny_call_entry slot_dict_contains x.typeIs entry_dict_contains ?_ (args_dict_contains _ _)))
  show wpAny _ _ (dictGet d kv >>= _) _ _ s
  refine wpAny_bind (get_any hu hk dk x ?_)
  cases hf : valK l ks k with
  | some p =>
    rw [hf] at h
    show wpAny _ _ (ret (.bool true)) _ _ _
    exact wpAny_pure ⟨_, rfl, wpAny_truthy_bool (wpAny_pure h)⟩
  | none =>
    rw [hf] at h
    show wpAny _ _ (Builtin.Dict.pendingKey? d kv >>= _) _ _ _
    exact wpAny_bind (wpAny_pendingKey_other hd (wpAny_pure ⟨_, rfl, wpAny_truthy_bool (wpAny_pure h)⟩))
theorem notIn_any {Q : Value → Shared → Prop} (hu : A.in1.units + 8 < cLine) (hk : NestedIs s.heap k kv) (dk : k.depth ≤ 8) (hd : (d == sysModules) = false) (x : DX w s.heap d l ep ks)
    (h : Q (.bool (!(posK ks k).isSome)) { s with toks := s.toks + k.draws }) : wpAny (model prog w) A (compareOp .NotIn kv (.ref d)) Q E s := by
  have e0 : (posK ks k).isSome = (valK l ks k).isSome := by
    unfold valK
    cases hp : posK ks k with
    | none => rfl
    | some j =>
      have hj := posK_get hp
      have hl : j < l.length := by rw [x.ok.len]; exact (List.getElem?_eq_some_iff.mp hj).1
      simp [List.getElem?_eq_getElem hl]
  rw [e0] at h
  show wpAny _ _ (do return .bool !(← contains (.ref d) kv)) Q E s
  refine wpAny_bind ?_
  unfold contains
  try with_reducible refine wpAny_holding ?_
  refine wpAny_bind (wpAny_specialOf x.typeIs slot_dict_contains.lookup ?_)
  show wpAny _ _ (if (some (Value.builtin "dict.__contains__") == some Value.none) = true then _ else _) _ E s
  rw [if_neg (by rw [beq_builtin_none]; exact Bool.false_ne_true)]
  refine wpAny_bind (wpAny_callSpecialUnlessNone?_slot (name := Str.ofString "__contains__") x.typeIs slot_dict_contains
    (wpAny_call_entry slot_dict_contains x.typeIs entry_dict_contains ?_ (args_dict_contains _ _)))
  show wpAny _ _ (dictGet d kv >>= _) _ _ s
  refine wpAny_bind (get_any hu hk dk x ?_)
  cases hf : valK l ks k with
  | some p =>
    rw [hf] at h
    show wpAny _ _ (ret (.bool true)) _ _ _
    exact wpAny_pure ⟨_, rfl, wpAny_truthy_bool (wpAny_pure h)⟩
  | none =>
    rw [hf] at h
    show wpAny _ _ (Builtin.Dict.pendingKey? d kv >>= _) _ _ _
    exact wpAny_bind (wpAny_pendingKey_other hd (wpAny_pure ⟨_, rfl, wpAny_truthy_bool (wpAny_pure h)⟩))
theorem item_any {v : Value} {Q : Value → Shared → Prop} (hu : A.in1.units + 8 < cLine) (hk : NestedIs s.heap k kv) (dk : k.depth ≤ 8) (x : DX w s.heap d l ep ks) (hv : valK l ks k = some v)
    (h : Q v { s with toks := s.toks + k.draws }) : wpAny (model prog w) A (getItem (.ref d) kv) Q E s := by
  unfold getItem
  try with_reducible refine wpAny_holding ?_
  refine wpAny_bind (wpAny_sequenceKey x.typeIs (by decide) ?_)
  refine wpAny_bind (wpAny_callSpecial?_slot (name := Str.ofString "__getitem__") x.typeIs slot_dict_getitem
    (wpAny_call_entry slot_dict_getitem x.typeIs entry_dict_getitem ?_ (args_dict_getitem _ _)))
  show wpAny _ _ (dictGet d kv >>= _) _ _ s
  refine wpAny_bind (get_any hu hk dk x ?_)
  rw [hv]
  exact wpAny_pure ⟨v, rfl, wpAny_pure h⟩
theorem setItem_any {v : Value} {Q : Unit → Shared → Prop} (hu : A.in1.units + 8 < cLine) (hk : NestedIs s.heap k kv) (dk : k.depth ≤ 8) (x : DX w s.heap d l ep ks) (hz : l.length ≤ sizeLine)
    (h : ∀ h', DX w h' d (putK w l ks k kv v) (epPut ks k ep) (keysPut ks k) → Heap.SameBut d s.heap h' → Q () { s with heap := h', toks := s.toks + k.draws }) : wpAny (model prog w) A (setItem (.ref d) kv v) Q E s := by
  unfold setItem
  try with_reducible refine wpAny_holding ?_
  refine wpAny_bind (wpAny_sequenceKey x.typeIs (by decide) ?_)
  refine wpAny_bind (wpAny_callSpecial?_slot (name := Str.ofString "__setitem__") x.typeIs slot_dict_setitem
    (wpAny_call_entry slot_dict_setitem x.typeIs entry_dict_setitem ?_ (args_dict_setitem _ _ _)))
  show wpAny _ _ (Builtin.Dict.notOrdered "__setitem__" ⟨[.ref d, kv, v], []⟩ >>= _) _ _ s
  refine wpAny_bind (wpAny_notOrdered_dict x.typeIs ?_)
  show wpAny _ _ (dictSet d kv v >>= _) _ _ s
  exact wpAny_bind (set_any hu hk dk x hz fun h' hm' hs' => wpAny_pure ⟨.none, rfl, wpAny_pure (h h' hm' hs')⟩)
end
end Z
/-! Zd2: dicts, by pure values. -/
namespace Z
open PySem L2
/-! ### pure -/
def dGet (kvs : List (PV × PV)) (k : PV) : Option PV := (kvs.find? fun p => decide (p.1 = k)).map (·.2)
def dHas (kvs : List (PV × PV)) (k : PV) : Bool := (dGet kvs k).isSome
def dPut (kvs : List (PV × PV)) (k v : PV) : List (PV × PV) := if dHas kvs k then kvs.map fun p => if p.1 = k then (p.1, v) else p else kvs ++ [(k, v)]
def dictOf (h : PH) : PV → Option (Nat × Nat × List (PV × PV))
  | .ref n => (match h[n]? with
    | some (.dct ep kvs) => some (n, ep, kvs)
    | _ => none)
  | _ => none
def pInD : P2 := fun x y h => (dictOf h y).bind fun t => if kOk 8 x then some (.bl (dHas t.2.2 x), h) else none
def pNotInD : P2 := fun x y h => (dictOf h y).bind fun t => if kOk 8 x then some (.bl (!dHas t.2.2 x), h) else none
def pIxD : P2 := fun x y h => (dictOf h x).bind fun t => if kOk 8 y then (dGet t.2.2 y).map fun v => (v, h) else none
def setD (n ep : Nat) (kvs : List (PV × PV)) (k v : PV) (h : PH) : Option PH := if kOk 8 k && decide (kvs.length < sizeLine) then some (h.set n (.dct (if dHas kvs k then ep else ep + 1) (dPut kvs k v))) else none
def pSetD : P3 := fun o i v h => (dictOf h o).bind fun t => setD t.1 t.2.1 t.2.2 i v h
def isDct : PV → PH → Bool := fun x h => (dictOf h x).isSome
def pGetD : PM := fun x vs h => (dictOf h x).bind fun t => match vs with
  | [k] => if kOk 8 k then some ((dGet t.2.2 k).getD .non, h) else none
  | [k, v] => if kOk 8 k then some ((dGet t.2.2 k).getD v, h) else none
  | _ => none
def pSetDef : PM := fun x vs h => (dictOf h x).bind fun t => match vs with
  | [k, v] => if kOk 8 k then (match dGet t.2.2 k with
    | some u => some (u, h)
    | none => (setD t.1 t.2.1 t.2.2 k v h).map fun h' => (v, h')) else none
  | _ => none
def pListD : PN := fun vs h => match vs with
  | [x] => (dictOf h x).map fun t => (.ref h.length, h ++ [.lst (t.2.2.map (·.1))])
  | _ => none
def pLenD : PN := fun vs h => match vs with
  | [x] => (dictOf h x).map fun t => (.int t.2.2.length, h)
  | _ => none
/-- {} -/
def eNewD : EF := fun _ h => .ok (.ref h.length) (h ++ [.dct 0 []])
/-- the keys, while the dict stays -/
def srcKeys (n ep k : Nat) : Src := ⟨k, fun i h => match h[n]? with
  | some (.dct ep' kvs) => if ep' = ep ∧ kvs.length = k then some ((kvs[i]?).map (·.1)) else none
  | _ => none⟩
def iKeysF (f : EF) : IF := fun r h => (f r h).bind fun v h1 => match dictOf h1 v with
  | some (n, ep, kvs) => .ok (srcKeys n ep kvs.length) h1
  | none => .bad

/-! ### keys -/
mutual
theorem nk_inj : ∀ (n : Nat) (x y : PV), kOk n x = true → kOk n y = true → nk x = nk y → x = y
  | n, .non, y, _, hy, e => by cases y <;> simp [nk, kOk] at e hy ⊢
  | n, .int i, y, _, hy, e => by cases y <;> simp [nk, kOk] at e hy ⊢ <;> exact e
  | n, .str i, y, _, hy, e => by cases y <;> simp [nk, kOk] at e hy ⊢ <;> exact e
  | 0, .tup xs, y, hx, _, _ => by simp [kOk] at hx
  | n + 1, .tup xs, y, hx, hy, e => by
    cases y with
    | tup ys =>
      simp only [nk, NestedKey.tup.injEq] at e
      rw [nks_inj n xs ys (by simpa [kOk] using hx) (by simpa [kOk] using hy) e]
    | _ => simp [nk] at e
  | n, .bl b, y, hx, _, _ => by cases n <;> simp [kOk] at hx
  | n, .ref b, y, hx, _, _ => by cases n <;> simp [kOk] at hx
theorem nks_inj : ∀ (n : Nat) (xs ys : List PV), kOks n xs = true → kOks n ys = true → nks xs = nks ys → xs = ys
  | n, [], [], _, _, _ => rfl
  | n, [], _ :: _, _, _, e => by simp [nks] at e
  | n, _ :: _, [], _, _, e => by simp [nks] at e
  | n, x :: xs, y :: ys, hx, hy, e => by
    simp only [nks, List.cons.injEq] at e
    simp only [kOks, Bool.and_eq_true] at hx hy
    rw [nk_inj n x y hx.1 hy.1 e.1, nks_inj n xs ys hx.2 hy.2 e.2]
end
mutual
theorem nk_depth : ∀ (n : Nat) (x : PV), kOk n x = true → (nk x).depth ≤ n
  | n, .non, _ => by simp [nk, NestedKey.depth]
  | n, .int i, _ => by simp [nk, NestedKey.depth]
  | n, .str i, _ => by simp [nk, NestedKey.depth]
  | 0, .tup xs, h => by simp [kOk] at h
  | n + 1, .tup xs, h => by
    simp only [nk, NestedKey.depth]
    have := nks_depth n xs (by simpa [kOk] using h)
    omega
  | n, .bl b, _ => by simp [nk, NestedKey.depth]
  | n, .ref b, _ => by simp [nk, NestedKey.depth]
theorem nks_depth : ∀ (n : Nat) (xs : List PV), kOks n xs = true → NestedKey.depthAll (nks xs) ≤ n
  | n, [], _ => by simp [nks, NestedKey.depthAll]
  | n, x :: xs, h => by
    simp only [kOks, Bool.and_eq_true] at h
    simp only [nks, NestedKey.depthAll]
    have := nk_depth n x h.1
    have := nks_depth n xs h.2
    omega
end
section
variable {X : Cx} {G : Par} {pins : List (Addr × Obj)} {σ : L2.St} {s : Shared} {m : List Addr} {H : Hp}
mutual
theorem nested_of (I : Inv X pins σ H s) : ∀ (n : Nat) (x : PV) (v : V) (u : Value), kOk n x = true → RV X.K m H x v → RelV v u → NestedIs s.heap (nk x) u
  | n, .non, v, u, h, r, q => by rw [RV] at r; subst r; cases q; exact .none
  | n, .int i, v, u, h, r, q => by rw [RV] at r; subst r; obtain ⟨t, rfl⟩ := q; exact .int i t
  | n, .str i, v, u, h, r, q => by rw [RV] at r; obtain ⟨rfl, _⟩ := r; obtain ⟨t, rfl⟩ := q; exact .text i t
  | 0, .tup xs, v, u, h, r, q => by simp [kOk] at h
  | n + 1, .tup xs, v, u, h, r, q => by
    rw [RV] at r
    obtain ⟨a, vs, rfl, t, rr⟩ := r
    cases q
    obtain ⟨its, rv, ⟨o, ho, hc, k, hd⟩, _⟩ := I.tuple t
    exact .tup ho hc hd (by simpa using nesteds_of I n xs vs its (by simpa [kOk] using h) rr rv)
  | n, .bl b, v, u, h, r, q => by cases n <;> simp [kOk] at h
  | n, .ref b, v, u, h, r, q => by cases n <;> simp [kOk] at h
theorem nesteds_of (I : Inv X pins σ H s) : ∀ (n : Nat) (xs : List PV) (vs : List V) (us : List Value), kOks n xs = true → RVs X.K m H xs vs → Vals vs us → NestedAll s.heap (nks xs) us
  | n, [], vs, us, h, r, q => by rw [RVs] at r; subst r; cases q; exact .nil
  | n, x :: xs, vs, us, h, r, q => by
    rw [RVs] at r
    obtain ⟨v, w, rfl, r1, r2⟩ := r
    simp only [kOks, Bool.and_eq_true] at h
    cases q with
    | cons q1 q2 => exact .cons (nested_of I n x v _ h.1 r1 q1) (nesteds_of I n xs w _ h.2 r2 q2)
end
/-! ### entries -/
theorem KvR.length : ∀ {kvs : List (PV × PV)} {l : List DictEntry}, KvR G m H kvs l → l.length = kvs.length
  | [], l, r => by rw [KvR] at r; subst r; rfl
  | (k, x) :: t, l, r => by
    rw [KvR] at r
    obtain ⟨e, y, rfl, _, _, _, c⟩ := r
    simp [KvR.length c]
theorem KvR.get : ∀ {kvs : List (PV × PV)} {l : List DictEntry} {j : Nat} {e : DictEntry}, KvR G m H kvs l → l[j]? = some e → ∃ k x, kvs[j]? = some (k, x) ∧ e.hash = (nk k).hash G.w ∧ RU G.K m H k e.key ∧ RU G.K m H x e.val
  | [], l, j, e, r, q => by rw [KvR] at r; subst r; simp at q
  | (k, x) :: t, l, j, e, r, q => by
    rw [KvR] at r
    obtain ⟨e', y, rfl, a, b, c, d⟩ := r
    cases j with
    | zero => simp at q; subst q; exact ⟨k, x, rfl, a, b, c⟩
    | succ j => simpa using KvR.get (j := j) d (by simpa using q)
theorem KvR.append : ∀ {kvs kws : List (PV × PV)} {l l2 : List DictEntry}, KvR G m H kvs l → KvR G m H kws l2 → KvR G m H (kvs ++ kws) (l ++ l2)
  | [], kws, l, l2, r, r2 => by rw [KvR] at r; subst r; exact r2
  | (k, x) :: t, kws, l, l2, r, r2 => by
    rw [KvR] at r
    obtain ⟨e, y, rfl, a, b, c, d⟩ := r
    show KvR G m H ((k, x) :: (t ++ kws)) (e :: (y ++ l2))
    exact ⟨e, y ++ l2, rfl, a, b, c, KvR.append d r2⟩
theorem ents_of (hK : X.K = G.K) (hw : X.w = G.w) (I : Inv X pins σ H s) {kvs : List (PV × PV)} {l : List DictEntry} (r : KvR G m H kvs l) (ok : KvOk kvs) : Ents X.w s.heap l (kvs.map fun p => nk p.1) where
  len := by rw [r.length, List.length_map]
  at_ := fun j e q => by
    obtain ⟨k, x, a, b, ⟨v, c, d⟩, _⟩ := r.get q
    refine ⟨nk k, by rw [List.getElem?_map, a]; rfl, by rw [hw]; exact b, ?_⟩
    exact nested_of (m := m) I 8 k v _ (ok.2.2 (k, x) (List.mem_of_getElem? a)) (by rw [hK]; exact c) d
  dep := fun k hk => by
    obtain ⟨p, hp, rfl⟩ := List.mem_map.mp hk
    exact nk_depth 8 p.1 (ok.2.2 p hp)
  nd := by
    have h1 := ok.1
    rw [List.nodup_iff_pairwise_ne] at h1 ⊢
    rw [List.pairwise_map] at h1 ⊢
    refine h1.imp_of_mem fun {a b} ha hb ne e => ne (nk_inj 8 a.1 b.1 (ok.2.2 a ha) (ok.2.2 b hb) e)
theorem posK_map {kvs : List (PV × PV)} {k : PV} (ok : ∀ p ∈ kvs, kOk 8 p.1 = true) (hk : kOk 8 k = true) : posK (kvs.map fun p => nk p.1) (nk k) = kvs.findIdx? fun p => decide (p.1 = k) := by
  unfold posK
  induction kvs with
  | nil => rfl
  | cons p t ih =>
    rw [List.map_cons, List.findIdx?_cons, List.findIdx?_cons]
    have e : decide (nk p.1 = nk k) = decide (p.1 = k) := by
      by_cases z : p.1 = k
      · rw [z]; simp
      · rw [decide_eq_false z, decide_eq_false fun y => z (nk_inj 8 _ _ (ok p (by simp)) hk y)]
    rw [e, ih fun q hq => ok q (by simp [hq])]
theorem find_idx {kvs : List (PV × PV)} {f : PV × PV → Bool} : kvs.find? f = (kvs.findIdx? f).bind fun j => kvs[j]? := by
  induction kvs with
  | nil => rfl
  | cons p t ih =>
    rw [List.find?_cons, List.findIdx?_cons]
    cases f p with
    | true => rfl
    | false =>
      dsimp only
      rw [ih]
      cases t.findIdx? f <;> simp
theorem dHas_pos {kvs : List (PV × PV)} {k : PV} (ok : ∀ p ∈ kvs, kOk 8 p.1 = true) (hk : kOk 8 k = true) : (posK (kvs.map fun p => nk p.1) (nk k)).isSome = dHas kvs k := by
  rw [posK_map ok hk]
  unfold dHas dGet
  rw [find_idx]
  cases hj : kvs.findIdx? fun p => decide (p.1 = k) with
  | none => rfl
  | some j =>
    rw [List.findIdx?_eq_some_iff_getElem] at hj
    obtain ⟨h1, _⟩ := hj
    simp [List.getElem?_eq_getElem h1]
/-- the value at a key: both ways -/
theorem valK_get {kvs : List (PV × PV)} {l : List DictEntry} {k : PV} (r : KvR G m H kvs l) (ok : ∀ p ∈ kvs, kOk 8 p.1 = true) (hk : kOk 8 k = true) :
    (∀ x, dGet kvs k = some x → ∃ u, valK l (kvs.map fun p => nk p.1) (nk k) = some u ∧ RU G.K m H x u) ∧ (dGet kvs k = none → valK l (kvs.map fun p => nk p.1) (nk k) = none) := by
  unfold dGet valK
  rw [posK_map ok hk, find_idx]
  cases hj : kvs.findIdx? fun p => decide (p.1 = k) with
  | none => exact ⟨fun x e => by simp at e, fun _ => rfl⟩
  | some j =>
    rw [List.findIdx?_eq_some_iff_getElem] at hj
    obtain ⟨h1, _⟩ := hj
    have h2 : j < l.length := by rw [r.length]; exact h1
    obtain ⟨k', x', a, _, _, c⟩ := r.get (List.getElem?_eq_getElem h2)
    rw [List.getElem?_eq_getElem h1] at a
    refine ⟨fun x e => ?_, fun e => ?_⟩
    · simp [List.getElem?_eq_getElem h1] at e
      refine ⟨l[j].val, by simp [List.getElem?_eq_getElem h2], ?_⟩
      have a := Option.some.inj a
      rw [a] at e
      rw [← e]; exact c
    · simp [List.getElem?_eq_getElem h1] at e
theorem KvR.mk : ∀ {kvs : List (PV × PV)} {l : List DictEntry}, l.length = kvs.length → (∀ (j : Nat) (e : DictEntry) (k x : PV), l[j]? = some e → kvs[j]? = some (k, x) → e.hash = (nk k).hash G.w ∧ RU G.K m H k e.key ∧ RU G.K m H x e.val) → KvR G m H kvs l
  | [], l, hl, _ => by rw [KvR]; exact List.length_eq_zero_iff.mp hl
  | (k, x) :: t, [], hl, _ => by simp at hl
  | (k, x) :: t, e :: l, hl, h => by
    rw [KvR]
    obtain ⟨a, b, c⟩ := h 0 e k x rfl rfl
    exact ⟨e, l, rfl, a, b, c, KvR.mk (by simpa using hl) fun j e' k' x' h1 h2 => h (j + 1) e' k' x' (by simpa using h1) (by simpa using h2)⟩
theorem KvR.put {kvs : List (PV × PV)} {l : List DictEntry} {k v : PV} {kv u : Value} (r : KvR G m H kvs l) (ok : KvOk kvs) (hk : kOk 8 k = true) (rk : RU G.K m H k kv) (rv : RU G.K m H v u) :
    KvR G m H (dPut kvs k v) (putK G.w l (kvs.map fun p => nk p.1) (nk k) kv u) := by
  have hp := dHas_pos ok.2.2 hk
  unfold dPut putK
  rw [← hp]
  have ep := posK_map (k := k) ok.2.2 hk
  cases hj : posK (kvs.map fun p => nk p.1) (nk k) with
  | none =>
    dsimp only [Option.isSome]
    rw [if_neg (by simp)]
    refine r.append ?_
    exact ⟨_, [], rfl, rfl, rk, rv, rfl⟩
  | some j =>
    dsimp only [Option.isSome]
    rw [if_pos rfl]
    rw [hj] at ep
    have ep := ep.symm
    rw [List.findIdx?_eq_some_iff_getElem] at ep
    obtain ⟨h1, h2, h3⟩ := ep
    refine KvR.mk (by simp [r.length]) fun i e k' x' q1 q2 => ?_
    rw [List.getElem?_modify] at q1
    rw [List.getElem?_map] at q2
    cases hl : l[i]? with
    | none => rw [hl] at q1; simp at q1
    | some e0 =>
      rw [hl] at q1
      obtain ⟨k0, x0, a, b, c, d⟩ := r.get hl
      rw [a] at q2
      have hi : i < kvs.length := (List.getElem?_eq_some_iff.mp a).1
      have hki : kvs[i] = (k0, x0) := (List.getElem?_eq_some_iff.mp a).2
      have same : k0 = k ↔ j = i := by
        refine ⟨fun e => ?_, fun e => ?_⟩
        · have n1 := ok.1
          have e1 : (kvs.map (·.1))[j]'(by simpa using h1) = (kvs.map (·.1))[i]'(by simpa using hi) := by
            rw [List.getElem_map, List.getElem_map, hki, of_decide_eq_true h2, e]
          exact (List.getElem_inj n1).mp e1
        · subst e
          have := of_decide_eq_true h2
          rw [hki] at this
          exact this
      by_cases hji : j = i
      · have e0k := same.mpr hji
        simp [hji] at q1
        simp [e0k] at q2
        subst q1
        obtain ⟨rfl, rfl⟩ := q2
        rw [e0k] at b c
        exact ⟨b, c, rv⟩
      · have e0k : ¬ k0 = k := fun z => hji (same.mp z)
        simp [hji] at q1
        simp [e0k] at q2
        subst q1
        obtain ⟨rfl, rfl⟩ := q2
        exact ⟨b, c, d⟩
theorem KvOk.put {kvs : List (PV × PV)} {k v : PV} (ok : KvOk kvs) (hk : kOk 8 k = true) (hz : kvs.length < sizeLine) : KvOk (dPut kvs k v) := by
  unfold dPut
  split
  · refine ⟨?_, by simpa using ok.2.1, fun p hp => ?_⟩
    · have : (kvs.map fun p => if p.1 = k then (p.1, v) else p).map (·.1) = kvs.map (·.1) := by
        rw [List.map_map]
        refine List.map_congr_left fun p _ => ?_
        dsimp only [Function.comp]
        split <;> rfl
      rw [this]; exact ok.1
    · obtain ⟨q, hq, rfl⟩ := List.mem_map.mp hp
      split
      · exact ok.2.2 q hq
      · exact ok.2.2 q hq
  · rename_i hn
    refine ⟨?_, by simp; omega, fun p hp => ?_⟩
    · rw [List.map_append, List.nodup_append]
      refine ⟨ok.1, by simp, fun a ha b hb => ?_⟩
      simp at hb
      subst hb
      rintro rfl
      refine hn ?_
      unfold dHas dGet
      rw [Option.isSome_map, List.find?_isSome]
      obtain ⟨p, hp, e⟩ := List.mem_map.mp ha
      exact ⟨p, hp, by simpa using e⟩
    · rcases List.mem_append.mp hp with z | z
      · exact ok.2.2 p z
      · simp at z; subst z; exact hk
/-! ### a dict in the heap -/
theorem dict_at {h : PH} {x : PV} {v : V} {n ep : Nat} {kvs : List (PV × PV)} (S : Sim G m h H) (e : dictOf h x = some (n, ep, kvs)) (r : RV G.K m H x v) :
    ∃ a l, x = .ref n ∧ h[n]? = some (.dct ep kvs) ∧ v = .ref a ∧ m[n]? = some a ∧ (a == sysModules) = false ∧ KvOk kvs ∧ H a = some (.ext (dictAt a l ep)) ∧ KvR G m H kvs l := by
  cases x with
  | ref k =>
    dsimp only [dictOf] at e
    split at e
    · rename_i ep' kvs' hk
      cases e
      rw [RV] at r
      obtain ⟨a, ha, rfl⟩ := r
      obtain ⟨b, hb, z, ok, l, hH, rr⟩ := S.ob _ _ hk
      rw [ha] at hb; cases hb
      exact ⟨a, l, rfl, hk, rfl, ha, z, ok, hH, rr⟩
    · cases e
  | _ => simp [dictOf] at e
theorem ext_at (I : Inv X pins σ H s) {a : Addr} {φ : Heap → Prop} (e : H a = some (.ext φ)) : φ s.heap := (I.hok a _ e).1
theorem dx_of (hK : X.K = G.K) (hw : X.w = G.w) (I : Inv X pins σ H s) {a : Addr} {l : List DictEntry} {ep : Nat} {kvs : List (PV × PV)} (e : H a = some (.ext (dictAt a l ep))) (r : KvR G m H kvs l) (ok : KvOk kvs) : DX X.w s.heap a l ep (kvs.map fun p => nk p.1) :=
  ⟨ext_at I e, ents_of hK hw I r ok⟩
theorem noRd_ext {a : Addr} {φ : Heap → Prop} (x : H a = some (.ext φ)) : ∀ xs, ¬ Rd H a (.tup xs) := fun xs r => by
  rcases r with r | ⟨u, r⟩ <;> rw [x] at r <;> cases r
/-- the dict is written: state and simulation -/
theorem dict_write {h : PH} {n : Nat} {a : Addr} {l l' : List DictEntry} {ep ep' : Nat} {kvs kvs' : List (PV × PV)} {h' : Heap} {t : Nat} (I : Inv X pins σ H s) (hH : H a = some (.ext (dictAt a l ep)))
    (hx : dictAt a l' ep' h') (hs : Heap.SameBut a s.heap h') : Inv X pins σ (upd H a (.ext (dictAt a l' ep'))) { s with heap := h', toks := t } := by
  obtain ⟨o, es, ho, hc, hd, he⟩ := id hx
  refine I.write (x := a) (e := a) (by rw [hH]; trivial) (Or.inl rfl) (fun b u hb q => (hs.2 b hb).trans q) ⟨o, ho⟩ ⟨hx, ⟨o, ho⟩, fun h1 h2 ⟨o1, es1, c1, c2, c3, c4⟩ k => ⟨o1, es1, k o1 c1, c2, c3, c4⟩⟩
theorem sim_dct {h : PH} {n : Nat} {a : Addr} {l l' : List DictEntry} {ep ep' : Nat} {kvs kvs' : List (PV × PV)} (S : Sim G m h H) (hn : h[n]? = some (.dct ep kvs)) (ha : m[n]? = some a) (hz : (a == sysModules) = false) (hH : H a = some (.ext (dictAt a l ep))) (ok : KvOk kvs') (r : KvR G m H kvs' l') :
    Sim G m (h.set n (.dct ep' kvs')) (upd H a (.ext (dictAt a l' ep'))) :=
  S.set hn ha (fun _ e => by cases e) (fun _ e => by cases e) (noRd_ext hH) (fun z xs e => by rw [hH] at e; cases e) ⟨hz, ok, l', upd_same, r.mono (Step.of (TK.upd (noRd_ext hH)))⟩
/-! ### the operators -/
def InD (G : Par) (H : Hp) (x y : V) (R : Addr → List DictEntry → Nat → List Addr → PV → List (PV × PV) → Prop) : Prop := ∃ (m : List Addr) (k : PV) (kvs : List (PV × PV)) (a : Addr) (l : List DictEntry) (ep : Nat),
  RV G.K m H k x ∧ kOk 8 k = true ∧ y = .ref a ∧ H a = some (.ext (dictAt a l ep)) ∧ (a == sysModules) = false ∧ KvR G m H kvs l ∧ KvOk kvs ∧ R a l ep m k kvs
abbrev rInDct (G : Par) (neg : Bool) : R2 := fun x y H Q => InD G H x y fun a l ep m k kvs => Q (.bl (if neg then !dHas kvs k else dHas kvs k)) H
theorem op_inDct (hK : X.K = G.K) (hw : X.w = G.w) (hu : X.A.in1.units + 8 < cLine) : OpR X (compareOp .In) (rInDct G false) := by
  intro pins s σ H x y v u Q I rx ry h
  obtain ⟨m, k, kvs, a, l, ep, r1, hk, rfl, hH, hz, rr, ok, q⟩ := h
  cases ry
  rw [← hK] at r1
  refine in_any hu (nested_of (m := m) I 8 k x v hk r1 rx) (nk_depth 8 k hk) hz (dx_of hK hw I hH rr ok) ⟨.bl (dHas kvs k), H, I.tok _, ?_, q⟩
  rw [dHas_pos ok.2.2 hk]
  rfl
theorem op_notInDct (hK : X.K = G.K) (hw : X.w = G.w) (hu : X.A.in1.units + 8 < cLine) : OpR X (compareOp .NotIn) (rInDct G true) := by
  intro pins s σ H x y v u Q I rx ry h
  obtain ⟨m, k, kvs, a, l, ep, r1, hk, rfl, hH, hz, rr, ok, q⟩ := h
  cases ry
  rw [← hK] at r1
  refine notIn_any hu (nested_of (m := m) I 8 k x v hk r1 rx) (nk_depth 8 k hk) hz (dx_of hK hw I hH rr ok) ⟨.bl (!dHas kvs k), H, I.tok _, ?_, q⟩
  rw [dHas_pos ok.2.2 hk]
  rfl
theorem ok_inD {m : List Addr} {h : PH} {x y : PV} {v u : V} {Q : VK} {neg : Bool} (S : Sim G m h H) (r1 : RV G.K m H x v) (r2 : RV G.K m H y u) (q : AftP G m H ((dictOf h y).bind fun t => if kOk 8 x then some (.bl (if neg then !dHas t.2.2 x else dHas t.2.2 x), h) else none) Q) : rInDct G neg v u H Q := by
  cases hd : dictOf h y with
  | none => rw [hd] at q; exact q.elim
  | some t =>
    obtain ⟨n, ep, kvs⟩ := t
    rw [hd] at q
    dsimp only [Option.bind] at q
    split at q
    · rename_i hk
      obtain ⟨a, l, rfl, _, rfl, ha, hz, ok, hH, rr⟩ := dict_at S hd r2
      exact ⟨m, x, kvs, a, l, ep, r1, hk, rfl, hH, hz, rr, ok, AftP.of S mk_bl q⟩
    · exact q.elim
theorem ok_inDt : Ok2 G (rInDct G false) pInD := fun m h H x y v u Q S r1 r2 q => ok_inD (neg := false) S r1 r2 q
theorem ok_notInDt : Ok2 G (rInDct G true) pNotInD := fun m h H x y v u Q S r1 r2 q => ok_inD (neg := true) S r1 r2 q
abbrev rIxDct (G : Par) : R2 := fun x y H Q => InD G H y x fun a l ep m k kvs => ∃ z, dGet kvs k = some z ∧ ∀ w, RV G.K m H z w → Q w H
theorem ix_dct (hK : X.K = G.K) (hw : X.w = G.w) (hu : X.A.in1.units + 8 < cLine) : IxR X (rIxDct G) := by
  intro value slice pins s σ H x y v u Q I rx ry h hs
  obtain ⟨m, k, kvs, a, l, ep, r1, hk, rfl, hH, hz, rr, ok, z, hg, q⟩ := h
  cases rx
  rw [← hK] at r1
  have D := dx_of hK hw I hH rr ok
  obtain ⟨w, hv, w0, rw0, rl⟩ := (valK_get rr ok.2.2 hk).1 z hg
  exact PyProof.Rows.tail_any (ops := [.ref a, u]) D.typeIs slot_dict_getitem.lookup (item_any hu (nested_of (m := m) I 8 k y u hk r1 ry) (nk_depth 8 k hk) D hv ⟨w0, H, I.tok _, rl, q w0 rw0⟩) hs
theorem ok_ixD : Ok2 G (rIxDct G) pIxD := fun m h H x y v u Q S r1 r2 q => by
  unfold pIxD at q
  cases hd : dictOf h x with
  | none => rw [hd] at q; exact q.elim
  | some t =>
    obtain ⟨n, ep, kvs⟩ := t
    rw [hd] at q
    dsimp only [Option.bind] at q
    split at q
    · rename_i hk
      obtain ⟨a, l, rfl, _, rfl, ha, hz, ok, hH, rr⟩ := dict_at S hd r1
      cases hg : dGet kvs y with
      | none => rw [hg] at q; exact q.elim
      | some z =>
        rw [hg] at q
        exact ⟨m, y, kvs, a, l, ep, r2, hk, rfl, hH, hz, rr, ok, z, hg, fun w rw' => AftP.of S rw' q⟩
    · exact q.elim
/-- d[k] = v -/
abbrev rSetDct (G : Par) : TSet := fun o i x H Q => InD G H i o fun a l ep m k kvs => ∃ y, RV G.K m H y x ∧ kvs.length < sizeLine ∧
  ∀ l' ep', ep' = (if dHas kvs k then ep else ep + 1) → KvR G m H (dPut kvs k y) l' → Q (upd H a (.ext (dictAt a l' ep')))
theorem epPut_eq {kvs : List (PV × PV)} {k : PV} {ep : Nat} (ok : KvOk kvs) (hk : kOk 8 k = true) : epPut (kvs.map fun p => nk p.1) (nk k) ep = if dHas kvs k then ep else ep + 1 := by
  rw [← dHas_pos ok.2.2 hk]
  unfold epPut
  cases posK (kvs.map fun p => nk p.1) (nk k) <;> rfl
theorem ps_setDct (hK : X.K = G.K) (hw : X.w = G.w) (hu : X.A.in1.units + 8 < cLine) : PSet X (rSetDct G) := by
  intro pins s σ H o i x ov iv u Q I ro ri rx h
  obtain ⟨m, k, kvs, a, l, ep, r1, hk, rfl, hH, hz, rr, ok, y, ry, hlen, q⟩ := h
  cases ro
  rw [← hK] at r1
  have D := dx_of hK hw I hH rr ok
  refine setItem_any hu (nested_of (m := m) I 8 k i iv hk r1 ri) (nk_depth 8 k hk) D (by rw [rr.length]; exact Nat.le_of_lt hlen) fun h' D' sb => ?_
  have I' := dict_write (h := []) (n := 0) (kvs := kvs) (kvs' := kvs) (t := s.toks + (nk k).draws) I hH D'.at_ sb
  refine ⟨_, I', q _ _ (epPut_eq ok hk) ?_⟩
  rw [hw]
  exact rr.put ok hk ⟨i, by rw [← hK]; exact r1, ri⟩ ⟨x, ry, rx⟩
theorem ok_setD : Ok3 G (rSetDct G) pSetD := fun m h H o i x vo vi v Q S r1 r2 r3 q => by
  unfold pSetD at q
  cases hd : dictOf h o with
  | none => rw [hd] at q; exact q.elim
  | some t =>
    obtain ⟨n, ep, kvs⟩ := t
    rw [hd] at q
    dsimp only [Option.bind] at q
    unfold setD at q
    obtain ⟨a, l, rfl, hn, rfl, ha, hz, ok, hH, rr⟩ := dict_at S hd r1
    by_cases hc : (kOk 8 i && decide (kvs.length < sizeLine)) = true
    · rw [if_pos hc] at q
      rw [Bool.and_eq_true] at hc
      have hlen := of_decide_eq_true hc.2
      exact ⟨m, i, kvs, a, l, ep, r2, hc.1, rfl, hH, hz, rr, ok, x, r3, hlen, fun l' ep' e r' => by
        subst e
        exact q m _ (Step.of (TK.upd (noRd_ext hH))) (sim_dct (kvs := kvs) S hn ha hz hH (ok.put hc.1 hlen) r')⟩
    · rw [if_neg hc] at q; exact q.elim
/-! ### {}, list(d), len(d), for k in d -/
variable {W : WX} {pos : Pos}
theorem je_newD : JE X G W (.Dict [] [] pos) eNewD := ⟨fun pins s σ H Q I ⟨m, r, h, S, E, q⟩ => by
  have hz : (s.heap.objs.size == sysModules) = false := (dk_empty (P := X.prog) (w := X.w) (H := H) s.heap I.big).2.1
  have hn := I.hok.fresh (Nat.le_refl s.heap.objs.size)
  refine wpAny_Dict_empty ⟨.ref s.heap.objs.size, _, I.laid (a := s.heap.objs.size) (o := .ext (dictAt s.heap.objs.size [] 0)) (t' := s.toks) (fun _ _ q => Heap.get?_push_of_some _ q) (Nat.le_refl _) ?_, rfl, ?_⟩
  · have hg : (s.heap.push { cls := .type "dict", data := .dict #[] }).get? s.heap.objs.size = some { cls := .type "dict", data := .dict #[] } := Heap.get?_push_size _ rfl
    exact ⟨⟨_, #[], hg, ⟨rfl, rfl, rfl⟩, rfl, rfl⟩, ⟨_, hg⟩, fun h1 h2 ⟨o1, es1, c1, c2, c3, c4⟩ k => ⟨o1, es1, k o1 c1, c2, c3, c4⟩⟩
  · have t : TK H (upd H s.heap.objs.size (.ext (dictAt s.heap.objs.size [] 0))) := TK.new hn
    refine q (m ++ [s.heap.objs.size]) _ _ ⟨⟨_, rfl⟩, t⟩ (S.new hn t (fun a u z => by rw [upd_ne (ne_of_none z hn)]; exact z) ⟨hz, ⟨List.nodup_nil, Nat.zero_le _, fun p hp => by simp at hp⟩, [], upd_same, rfl⟩ fun _ e => by cases e) ?_
    rw [RV]
    exact ⟨_, by rw [← S.len]; simp, rfl⟩⟩
end
end Z
/-! Zd3: methods of dicts, displays, unions of primitives. -/
namespace Z
open PySem L2
section
variable {prog : Program} {w : World}
theorem meets_get1 {d : Addr} {kv : Value} (hd : (d == sysModules) = false) :
    MeetsIn prog w (Builtin.«dict.get» ⟨[.ref d, kv], []⟩) (fun A R s => A.in1.units + 8 < cLine ∧ ∃ k l ep ks, NestedIs s.heap k kv ∧ k.depth ≤ 8 ∧ DX w s.heap d l ep ks ∧
      R (.ok (.ret ((valK l ks k).getD .none))) { s with toks := s.toks + k.draws }) :=
  .of_wp fun A R s ⟨hu, k, l, ep, ks, hk, dk, x, h⟩ => by
    show wpAny _ _ (dictGet d kv >>= _) _ _ s
    refine wpAny_bind (get_any hu hk dk x ?_)
    cases hf : valK l ks k with
    | some v =>
      rw [hf] at h
      exact wpAny_pure ⟨v, rfl, h⟩
    | none =>
      rw [hf] at h
      show wpAny _ _ (Builtin.Dict.missed d kv >>= _) _ _ _
      exact wpAny_bind (wpAny_missed_other hd (wpAny_pure ⟨.none, rfl, h⟩))
theorem meets_get2 {d : Addr} {kv dflt : Value} (hd : (d == sysModules) = false) :
    MeetsIn prog w (Builtin.«dict.get» ⟨[.ref d, kv, dflt], []⟩) (fun A R s => A.in1.units + 8 < cLine ∧ ∃ k l ep ks, NestedIs s.heap k kv ∧ k.depth ≤ 8 ∧ DX w s.heap d l ep ks ∧
      R (.ok (.ret ((valK l ks k).getD dflt))) { s with toks := s.toks + k.draws }) :=
  .of_wp fun A R s ⟨hu, k, l, ep, ks, hk, dk, x, h⟩ => by
    show wpAny _ _ (dictGet d kv >>= _) _ _ s
    refine wpAny_bind (get_any hu hk dk x ?_)
    cases hf : valK l ks k with
    | some v =>
      rw [hf] at h
      exact wpAny_pure ⟨v, rfl, h⟩
    | none =>
      rw [hf] at h
      show wpAny _ _ (Builtin.Dict.missed d kv >>= _) _ _ _
      exact wpAny_bind (wpAny_missed_other hd (wpAny_pure ⟨dflt, rfl, h⟩))
variable {A : Around} {s : Shared} {E : Value → Shared → Prop}
theorem setDef_any {d : Addr} {kv v : Value} {k : NestedKey} {l : List DictEntry} {ep : Nat} {ks : List NestedKey} {Q : Value → Shared → Prop} (hu : A.units + 8 < cLine) (hk : NestedIs s.heap k kv) (dk : k.depth ≤ 8) (x : DX w s.heap d l ep ks) (hz : l.length ≤ sizeLine)
    (h1 : ∀ u, valK l ks k = some u → Q u { s with toks := s.toks + k.draws })
    (h2 : valK l ks k = none → ∀ h', DX w h' d (putK w l ks k kv v) (epPut ks k ep) (keysPut ks k) → Heap.SameBut d s.heap h' → Q v { s with heap := h', toks := s.toks + k.draws }) : wpAny (model prog w) A (dictSetDefault d kv v) Q E s := by
  have hx := x.at_
  obtain ⟨⟨o, es, ho, hc, hd, he⟩, T⟩ := x
  subst he
  unfold dictSetDefault
  try with_reducible refine wpAny_holding ?_
  refine wpAny_bind (pyHash_key k kv A s _ hk (by omega) ?_)
  refine wpAny_bind (find_any (s := { s with toks := s.toks + k.draws }) hu hk dk ho hd T ?_)
  have TP := ents_put T hk dk v
  cases hp : posK ks k with
  | none =>
    have h2 := h2 (by unfold valK; rw [hp]; rfl)
    refine wpAny_bind (wpAny_rule (wpAny_bind (wpAny_updateDictKeys (hz := by simpa using hz) (s := { s with toks := s.toks + k.draws }) ho hd (wpAny_pure (h2 _ ⟨?_, ents_keep (Heap.SameBut.update ..) hx TP⟩ (Heap.SameBut.update ..))))))
    unfold epPut
    rw [hp]
    refine ⟨_, _, Heap.get?_update_self _ ho (Obj.isFreed_of_dict (Obj.data_mapDictKeys hd _)), hc.mapDictKeys _, Obj.data_mapDictKeys hd _, ?_⟩
    unfold putK
    rw [hp]
    simp
  | some j =>
    refine wpAny_bind (wpAny_dictEntries (s := { s with toks := s.toks + k.draws }) ho hd ?_)
    have hj := posK_get hp
    have hl : j < es.size := by
      have e0 := T.len
      have e1 := (List.getElem?_eq_some_iff.mp hj).1
      rw [← e0] at e1
      simpa using e1
    have e2 : es[j]? = some es[j] := Array.getElem?_eq_getElem hl
    rw [e2]
    exact wpAny_bind (wpAny_rule (wpAny_pure (h1 _ (by unfold valK; rw [hp]; simp [hl]))))
theorem meets_setdef {d : Addr} {kv dflt : Value} (hd : (d == sysModules) = false) :
    MeetsIn prog w (Builtin.«dict.setdefault» ⟨[.ref d, kv, dflt], []⟩) (fun A R s => A.in1.units + 8 < cLine ∧ ∃ k l ep ks, NestedIs s.heap k kv ∧ k.depth ≤ 8 ∧ DX w s.heap d l ep ks ∧ l.length ≤ sizeLine ∧
      (∀ u, valK l ks k = some u → R (.ok (.ret u)) { s with toks := s.toks + k.draws }) ∧
      (valK l ks k = none → ∀ h', DX w h' d (putK w l ks k kv dflt) (epPut ks k ep) (keysPut ks k) → Heap.SameBut d s.heap h' → R (.ok (.ret dflt)) { s with heap := h', toks := s.toks + k.draws })) :=
  .of_wp fun A R s ⟨hu, k, l, ep, ks, hk, dk, x, hz, h1, h2⟩ => by
    unfold Builtin.«dict.setdefault»
    refine wpAny_bind ?_
    unfold Builtin.Dict.keyAndDefault
    refine wpAny_bind (wpAny_notOrdered_dict x.typeIs ?_)
    show wpAny _ _ (pure (d, kv, some dflt)) _ _ s
    refine wpAny_pure ?_
    show wpAny _ _ (if (d == sysModules) = true then _ else (dictSetDefault d kv dflt >>= _)) _ _ s
    rw [if_neg (by rw [hd]; exact Bool.false_ne_true)]
    exact wpAny_bind (setDef_any hu hk dk x hz (fun u hu => wpAny_pure ⟨u, rfl, h1 u hu⟩) fun hn h' hm' hs' => wpAny_pure ⟨dflt, rfl, h2 hn h' hm' hs'⟩)
end
section
variable {X : Cx} {G : Par}
/-! ### d.get -/
abbrev rGetD (G : Par) : V → List V → Hp → VK → Prop := fun x vs H Q => (∃ v, vs = [v] ∧ InD G H v x fun a l ep m k kvs => ∀ w, RV G.K m H ((dGet kvs k).getD .non) w → Q w H) ∨
  ∃ v d, vs = [v, d] ∧ InD G H v x fun a l ep m k kvs => ∃ y, RV G.K m H y d ∧ ∀ w, RV G.K m H ((dGet kvs k).getD y) w → Q w H
theorem mt_getD (hK : X.K = G.K) (hw : X.w = G.w) (hu : X.A.in1.units + 8 < cLine) : MtR X "dict.get" (rGetD G) := by
  intro pins s σ H x xs v us Q I rx rs h
  rcases h with ⟨v1, rfl, m, k, kvs, a, l, ep, r1, hk, rfl, hH, hz, rr, ok, q⟩ | ⟨v1, d1, rfl, m, k, kvs, a, l, ep, r1, hk, rfl, hH, hz, rr, ok, y, ry, q⟩
  · cases rx
    cases rs with
    | @cons _ u1 _ _ h1 t1 =>
    cases t1
    rw [← hK] at r1
    have D := dx_of hK hw I hH rr ok
    refine call_meetsIn F.slot_dict_get D.typeIs F.entry_dict_get (F.args_dict_get_2 _ _) (meets_get1 hz) ⟨hu, nk k, l, ep, _, nested_of (m := m) I 8 k v1 u1 hk r1 h1, nk_depth 8 k hk, D, ?_⟩
    obtain ⟨g1, g2⟩ := valK_get rr ok.2.2 hk
    cases hg : dGet kvs k with
    | none =>
      rw [g2 hg]
      rw [hg] at q
      exact ⟨.non, H, I.tok _, rfl, q .non mk_non⟩
    | some z =>
      obtain ⟨w, hv, w0, rw0, rl⟩ := g1 z hg
      rw [hv]
      rw [hg] at q
      exact ⟨w0, H, I.tok _, rl, q w0 rw0⟩
  · cases rx
    cases rs with
    | @cons _ u1 _ _ h1 t1 =>
    cases t1 with
    | @cons _ u2 _ _ h2 t2 =>
    cases t2
    rw [← hK] at r1
    have D := dx_of hK hw I hH rr ok
    refine call_meetsIn F.slot_dict_get D.typeIs F.entry_dict_get (F.args_dict_get_3 _ _ _) (meets_get2 hz) ⟨hu, nk k, l, ep, _, nested_of (m := m) I 8 k v1 u1 hk r1 h1, nk_depth 8 k hk, D, ?_⟩
    obtain ⟨g1, g2⟩ := valK_get rr ok.2.2 hk
    cases hg : dGet kvs k with
    | none =>
      rw [g2 hg]
      rw [hg] at q
      exact ⟨d1, H, I.tok _, h2, q d1 ry⟩
    | some z =>
      obtain ⟨w, hv, w0, rw0, rl⟩ := g1 z hg
      rw [hv]
      rw [hg] at q
      exact ⟨w0, H, I.tok _, rl, q w0 rw0⟩
theorem ok_getD : OkM G (rGetD G) pGetD := fun m h H x xs v vs Q S r1 r2 q => by
  unfold pGetD at q
  cases hd : dictOf h x with
  | none => rw [hd] at q; exact q.elim
  | some t =>
    obtain ⟨n, ep, kvs⟩ := t
    rw [hd] at q
    dsimp only [Option.bind] at q
    obtain ⟨a, l, rfl, _, rfl, ha, hz, ok, hH, rr⟩ := dict_at S hd r1
    split at q
    · split at q
      · rename_i k hk
        obtain ⟨v1, rfl, r3⟩ := r2.inv1
        exact Or.inl ⟨v1, rfl, m, k, kvs, a, l, ep, r3, hk, rfl, hH, hz, rr, ok, fun w rw' => AftP.of S rw' q⟩
      · exact q.elim
    · split at q
      · rename_i k d0 hk
        obtain ⟨v1, v2, rfl, r3, r4⟩ := r2.inv2
        exact Or.inr ⟨v1, v2, rfl, m, k, kvs, a, l, ep, r3, hk, rfl, hH, hz, rr, ok, d0, r4, fun w rw' => AftP.of S rw' q⟩
      · exact q.elim
    · exact q.elim
/-! ### d.setdefault -/
abbrev rSetDefD (G : Par) : V → List V → Hp → VK → Prop := fun x vs H Q => ∃ v d, vs = [v, d] ∧ InD G H v x fun a l ep m k kvs => ∃ y, RV G.K m H y d ∧
  (∀ z, dGet kvs k = some z → ∀ w, RV G.K m H z w → Q w H) ∧
  (dGet kvs k = none → kvs.length < sizeLine ∧ ∀ l' ep', ep' = (if dHas kvs k then ep else ep + 1) → KvR G m H (dPut kvs k y) l' → Q d (upd H a (.ext (dictAt a l' ep'))))
theorem mt_setDefD (hK : X.K = G.K) (hw : X.w = G.w) (hu : X.A.in1.units + 8 < cLine) : MtR X "dict.setdefault" (rSetDefD G) := by
  intro pins s σ H x xs v us Q I rx rs h
  obtain ⟨v1, d1, rfl, m, k, kvs, a, l, ep, r1, hk, rfl, hH, hz, rr, ok, y, ry, q1, q2⟩ := h
  cases rx
  cases rs with
  | @cons _ u1 _ _ h1 t1 =>
  cases t1 with
  | @cons _ u2 _ _ h2 t2 =>
  cases t2
  rw [← hK] at r1
  have D := dx_of hK hw I hH rr ok
  obtain ⟨g1, g2⟩ := valK_get rr ok.2.2 hk
  refine call_meetsIn F.slot_dict_setdefault D.typeIs F.entry_dict_setdefault (F.args_dict_setdefault_3 _ _ _) (meets_setdef hz) ⟨hu, nk k, l, ep, _, nested_of (m := m) I 8 k v1 u1 hk r1 h1, nk_depth 8 k hk, D, by rw [rr.length]; exact ok.2.1, fun u hv => ?_, fun hn h' D' sb => ?_⟩
  · cases hg : dGet kvs k with
    | none => rw [g2 hg] at hv; cases hv
    | some z =>
      obtain ⟨w, hv', w0, rw0, rl⟩ := g1 z hg
      rw [hv] at hv'
      cases hv'
      exact ⟨w0, H, I.tok _, rl, q1 z hg w0 rw0⟩
  · cases hg : dGet kvs k with
    | some z =>
      obtain ⟨w, hv', _⟩ := g1 z hg
      rw [hn] at hv'
      cases hv'
    | none =>
      obtain ⟨hlen, q⟩ := q2 hg
      have I' := dict_write (h := []) (n := 0) (kvs := kvs) (kvs' := kvs) (t := s.toks + (nk k).draws) I hH D'.at_ sb
      refine ⟨d1, _, I', h2, q _ _ (epPut_eq ok hk) ?_⟩
      rw [hw]
      exact rr.put ok hk ⟨v1, by rw [← hK]; exact r1, h1⟩ ⟨d1, ry, h2⟩
theorem ok_setDefD : OkM G (rSetDefD G) pSetDef := fun m h H x xs v vs Q S r1 r2 q => by
  unfold pSetDef at q
  cases hd : dictOf h x with
  | none => rw [hd] at q; exact q.elim
  | some t =>
    obtain ⟨n, ep, kvs⟩ := t
    rw [hd] at q
    dsimp only [Option.bind] at q
    obtain ⟨a, l, rfl, hn, rfl, ha, hz, ok, hH, rr⟩ := dict_at S hd r1
    split at q
    · split at q
      · rename_i k d0 hk
        obtain ⟨v1, v2, rfl, r3, r4⟩ := r2.inv2
        refine ⟨v1, v2, rfl, m, k, kvs, a, l, ep, r3, hk, rfl, hH, hz, rr, ok, d0, r4, fun z hg w rw' => ?_, fun hg => ?_⟩
        · rw [hg] at q
          exact AftP.of S rw' q
        · rw [hg] at q
          dsimp only at q
          unfold setD at q
          by_cases hc : (kOk 8 k && decide (kvs.length < sizeLine)) = true
          · rw [if_pos hc] at q
            rw [Bool.and_eq_true] at hc
            have hlen := of_decide_eq_true hc.2
            refine ⟨hlen, fun l' ep' e r' => ?_⟩
            subst e
            have s1 := Step.of (m := m) (TK.upd (o := .ext (dictAt a l' (if dHas kvs k then ep else ep + 1))) (noRd_ext hH))
            exact q m _ v2 s1 (sim_dct (kvs := kvs) S hn ha hz hH (ok.put hc.1 hlen) r') (r4.mono s1)
          · rw [if_neg hc] at q; exact q.elim
      · exact q.elim
    · exact q.elim
theorem ty_dct (G : Par) : TyOk G "dict" isDct := fun X hK pins σ s m h H x v u I S r rv e => by
  unfold isDct at e
  cases hd : dictOf h x with
  | none => rw [hd] at e; cases e
  | some t =>
    obtain ⟨n, ep, kvs⟩ := t
    obtain ⟨a, l, rfl, _, rfl, ha, hz, ok, hH, rr⟩ := dict_at S hd r
    cases rv
    obtain ⟨o, es, ho, hc, hdt, he⟩ := ext_at I hH
    refine ⟨⟨o, ho, hc.1⟩, fun b e => ?_⟩
    cases e
    exact ⟨o, ho, hc.2.1⟩
end
end Z
/-! Zd4: displays of dicts, unions of primitives. -/
namespace Z
open PySem L2
/-! ### unions -/
def pIxU : P2 := fun x y h => if (dictOf h x).isSome then pIxD x y h else pIx x y h
def pInU : P2 := fun x y h => if (dictOf h y).isSome then pInD x y h else pIn x y h
def pNotInU : P2 := fun x y h => if (dictOf h y).isSome then pNotInD x y h else pNotIn x y h
def pSetU : P3 := fun o i v h => if (dictOf h o).isSome then pSetD o i v h else pSetL o i v h
section
variable {X : Cx} {G : Par}
theorem PSet.or {r r' : TSet} (h : PSet X r) (h' : PSet X r') : PSet X (fun o i x H Q => r o i x H Q ∨ r' o i x H Q) := by
  intro pins s σ H o i x ov iv u Q I ro ri rx q
  rcases q with q | q
  · exact h pins s σ H o i x ov iv u Q I ro ri rx q
  · exact h' pins s σ H o i x ov iv u Q I ro ri rx q
abbrev rIxU (G : Par) : R2 := fun x y H Q => rIxDct G x y H Q ∨ rIx G.K x y H Q
theorem ok_ixU : Ok2 G (rIxU G) pIxU := fun m h H x y v u Q S r1 r2 q => by
  unfold pIxU at q
  split at q
  · exact Or.inl (ok_ixD m h H x y v u Q S r1 r2 q)
  · exact Or.inr (ok_ix m h H x y v u Q S r1 r2 q)
theorem ix_U (hK : X.K = G.K) (hw : X.w = G.w) (hu : X.A.in1.units + 8 < cLine) : IxR X (rIxU G) := (ix_dct hK hw hu).or (by rw [← hK]; exact ix_seq)
abbrev rInU (G : Par) : R2 := fun x y H Q => rInDct G false x y H Q ∨ rInP G.K x y H Q
theorem ok_inU : Ok2 G (rInU G) pInU := fun m h H x y v u Q S r1 r2 q => by
  unfold pInU at q
  split at q
  · exact Or.inl (ok_inDt m h H x y v u Q S r1 r2 q)
  · exact Or.inr (ok_in m h H x y v u Q S r1 r2 q)
abbrev rNotInU (G : Par) : R2 := fun x y H Q => rInDct G true x y H Q ∨ rNotInP G.K x y H Q
theorem ok_notInU : Ok2 G (rNotInU G) pNotInU := fun m h H x y v u Q S r1 r2 q => by
  unfold pNotInU at q
  split at q
  · exact Or.inl (ok_notInDt m h H x y v u Q S r1 r2 q)
  · exact Or.inr (ok_notIn m h H x y v u Q S r1 r2 q)
theorem opR_or {op : Value → Value → Sem Value} {r r' : R2} (h : OpR X op r) (h' : OpR X op r') : OpR X op (fun x y H Q => r x y H Q ∨ r' x y H Q) := by
  intro pins s σ H x y v u Q I rx ry q
  rcases q with q | q
  · exact h pins s σ H x y v u Q I rx ry q
  · exact h' pins s σ H x y v u Q I rx ry q
theorem op_inU (hK : X.K = G.K) (hw : X.w = G.w) (hu : X.A.in1.units + 8 < cLine) (hu2 : X.A.units + 65 < cLine) : OpR X (compareOp .In) (rInU G) := opR_or (op_inDct hK hw hu) (by rw [← hK]; exact op_inP hu2)
theorem op_notInU (hK : X.K = G.K) (hw : X.w = G.w) (hu : X.A.in1.units + 8 < cLine) (hu2 : X.A.units + 65 < cLine) : OpR X (compareOp .NotIn) (rNotInU G) := opR_or (op_notInDct hK hw hu) (by rw [← hK]; exact op_notInP hu2)
abbrev rSetU (G : Par) : TSet := fun o i x H Q => rSetDct G o i x H Q ∨ rSetL o i x H Q
theorem ok_setU : Ok3 G (rSetU G) pSetU := fun m h H o i x vo vi v Q S r1 r2 r3 q => by
  unfold pSetU at q
  by_cases hc : (dictOf h o).isSome = true
  · rw [if_pos hc] at q
    exact Or.inl (ok_setD m h H o i x vo vi v Q S r1 r2 r3 q)
  · rw [if_neg hc] at q
    exact Or.inr (ok_setL m h H o i x vo vi v Q S r1 r2 r3 q)
theorem ps_setU (hK : X.K = G.K) (hw : X.w = G.w) (hu : X.A.in1.units + 8 < cLine) : PSet X (rSetU G) := PSet.or (ps_setDct hK hw hu) set_list
end
/-! ### {k: v, ..} -/
def afOf : List (EF × EF) → AF
  | [] => aNil
  | p :: r => aCons p.1 (aCons p.2 (afOf r))
def putAll : List PV → Nat → List (PV × PV) → Option (Nat × List (PV × PV))
  | k :: v :: r, ep, kvs => if kOk 8 k && decide (kvs.length < sizeLine) then putAll r (if dHas kvs k then ep else ep + 1) (dPut kvs k v) else none
  | [], ep, kvs => some (ep, kvs)
  | _, _, _ => none
def eDisp (ps : List (EF × EF)) : EF := fun r h => (afOf ps r (h ++ [.dct 0 []])).bind fun xs h1 => match h1[h.length]? with
  | some (.dct ep kvs) => (match ep, kvs with
    | 0, [] => (match putAll xs 0 [] with
      | some (e, kvs) => .ok (.ref h.length) (h1.set h.length (.dct e kvs))
      | none => .bad)
    | _, _ => .bad)
  | _ => .bad
section
variable {X : Cx} {G : Par} {W : WX} {pos : Pos}
def flatV2 : List (V × V) → List V
  | [] => []
  | p :: r => p.1 :: p.2 :: flatV2 r
theorem tp_of : ∀ (ps : List (EF × EF)) {σ : L2.St} {H : Hp} {R : List V → Hp → Prop}, tA G W (afOf ps) σ H R → tPairs (ps.map fun p => (tE G W p.1, tE G W p.2)) σ H fun vvs H' => R (flatV2 vvs) H'
  | [], σ, H, R, ⟨m, r, h, S, E, q⟩ => q m H [] Step.refl S RVs.nil
  | (f, g) :: ps, σ, H, R, ⟨m, r, h, S, E, q⟩ => by
    show tE G W f σ H fun x H1 => tE G W g σ H1 fun y H2 => tPairs (ps.map fun p => (tE G W p.1, tE G W p.2)) σ H2 fun vvs H3 => R (x :: y :: flatV2 vvs) H3
    refine ⟨m, r, h, S, E, ?_⟩
    have q : AftA G W σ m H ((f r h).bind fun x h1 => ((g r h1).bind fun y h2 => (afOf ps r h2).bind fun xs h3 => .ok (y :: xs) h3).bind fun xs h3 => .ok (x :: xs) h3) R := q
    revert q
    cases hf : f r h with
    | bad => exact fun q => q
    | exc e h1 => exact fun q => q
    | ok x h1 =>
      intro q m1 H1 v s1 S1 r1
      refine ⟨m1, r, h1, S1, E.mono s1, ?_⟩
      revert q
      show AftA G W σ m H (((g r h1).bind fun y h2 => (afOf ps r h2).bind fun xs h3 => .ok (y :: xs) h3).bind fun xs h3 => .ok (x :: xs) h3) R → _
      cases hg : g r h1 with
      | bad => exact fun q => q
      | exc e h2 => exact fun q m' H' d s => q m' H' d (s1.trans s)
      | ok y h2 =>
        intro q m2 H2 u s2 S2 r2
        refine tp_of ps (R := fun zs H3 => R (v :: u :: zs) H3) ⟨m2, r, h2, S2, (E.mono s1).mono s2, ?_⟩
        revert q
        show AftA G W σ m H (((afOf ps r h2).bind fun xs h3 => .ok (y :: xs) h3).bind fun xs h3 => .ok (x :: xs) h3) R → _
        cases ha : afOf ps r h2 with
        | bad => exact fun q => q
        | exc e h3 => exact fun q m' H' d s => q m' H' d ((s1.trans s2).trans s)
        | ok zs h3 => exact fun q m3 H3 vs s3 S3 r3 => q m3 H3 (v :: u :: vs) ((s1.trans s2).trans s3) S3 (RVs.cons ((r1.mono s2).mono s3) (RVs.cons (r2.mono s3) r3))
theorem pps_of_cons {k v : Expr} {ks : List (Option Expr)} {vs : List Expr} {f g : EF} {ps : List (EF × EF)} (hk : JE X G W k f) (hv : JE X G W v g) (h : PPs X pos ks vs (ps.map fun p => (tE G W p.1, tE G W p.2))) :
    PPs X pos (some k :: ks) (v :: vs) (((f, g) :: ps).map fun p => (tE G W p.1, tE G W p.2)) := pps_cons hk hv h
theorem upd_upd' {H : Hp} {a : Addr} {x y : HO} : upd (upd H a x) a y = upd H a y := by
  funext b
  by_cases e : b = a
  · subst e; rw [upd_same, upd_same]
  · rw [upd_ne e, upd_ne e, upd_ne e]
/-- what is to be stored -/
def PrsR (K : PySem.W.Frag) (m : List Addr) (H : Hp) : List PV → List (Value × Value) → Prop
  | k :: v :: r, p :: ps => RU K m H k p.1 ∧ RU K m H v p.2 ∧ PrsR K m H r ps
  | [], [] => True
  | _, _ => False
theorem PrsR.mono {K : PySem.W.Frag} {m m' : List Addr} {H H' : Hp} (s : Step m H m' H') : ∀ {xs : List PV} {ps : List (Value × Value)}, PrsR K m H xs ps → PrsR K m' H' xs ps
  | [], [], _ => True.intro
  | k :: v :: r, p :: ps, ⟨⟨v1, a1, b1⟩, ⟨v2, a2, b2⟩, c⟩ => ⟨⟨v1, a1.mono s, b1⟩, ⟨v2, a2.mono s, b2⟩, PrsR.mono s c⟩
  | [], _ :: _, h => h.elim
  | [_], _, h => by cases h
  | _ :: _ :: _, [], h => h.elim
theorem prs_of {K : PySem.W.Frag} {m : List Addr} {H : Hp} : ∀ {xs : List PV} {vvs : List (V × V)} {ps : List (Value × Value)}, RVs K m H xs (flatV2 vvs) → VV vvs ps → PrsR K m H xs ps
  | [], [], _, _, r => by cases r; exact True.intro
  | [], _ :: _, _, h, _ => by have := h.length; simp [flatV2] at this
  | [_], [], _, h, _ => by have := h.length; simp [flatV2] at this
  | [_], _ :: _, _, h, _ => by have := h.length; simp [flatV2] at this
  | _ :: _ :: _, [], _, h, _ => by have := h.length; simp [flatV2] at this
  | k :: v :: r, p :: vvs, ps, h, q => by
    cases q with
    | @cons _ b _ bs e t =>
      have h : RVs K m H (k :: v :: r) (p.1 :: p.2 :: flatV2 vvs) := h
      rw [RVs] at h
      obtain ⟨z1, z2, ez, h1, h2⟩ := h
      cases ez
      rw [RVs] at h2
      obtain ⟨z1, z2, ez, h2, h3⟩ := h2
      cases ez
      exact ⟨⟨p.1, h1, e.1⟩, ⟨p.2, h2, e.2⟩, prs_of h3 t⟩
theorem store_all (hK : X.K = G.K) (hw : X.w = G.w) {A : Around} {E : Value → Shared → Prop} (hu : A.units + 8 < cLine) {pins : List (Addr × Obj)} {σ : L2.St} {a : Addr} {m : List Addr} : ∀ (n : Nat) (xs : List PV), xs.length ≤ n → ∀ (ps : List (Value × Value)) (s : Shared) (H : Hp) (kvs : List (PV × PV)) (l : List DictEntry) (ep : Nat) (e2 : Nat) (kvs2 : List (PV × PV)) (Q : PUnit → Shared → Prop),
    PrsR G.K m H xs ps → Inv X pins σ H s → H a = some (.ext (dictAt a l ep)) → KvR G m H kvs l → KvOk kvs → putAll xs ep kvs = some (e2, kvs2) →
    (∀ s' l', Inv X pins σ (upd H a (.ext (dictAt a l' e2))) s' → KvR G m (upd H a (.ext (dictAt a l' e2))) kvs2 l' → KvOk kvs2 → Q PUnit.unit s') →
    wpAny (model X.prog X.w) A (forIn ps PUnit.unit fun (x : Value × Value) (_ : PUnit) => (do dictSet a x.1 x.2; pure (ForInStep.yield PUnit.unit) : Sem (ForInStep PUnit))) Q E s
  | _, [], _, [], s, H, kvs, l, ep, e2, kvs2, Q, _, I, hH, rr, ok, hp, q => by
    rw [List.forIn_nil]
    cases hp
    have e : upd H a (.ext (dictAt a l ep)) = H := by
      funext b
      by_cases e : b = a
      · subst e; rw [upd_same, hH]
      · rw [upd_ne e]
    exact wpAny_pure (q s l (by rw [e]; exact I) (by rw [e]; exact rr) ok)
  | _, [], _, _ :: _, _, _, _, _, _, _, _, _, h, _, _, _, _, _, _ => h.elim
  | _, [_], _, _, _, _, _, _, _, _, _, _, h, _, _, _, _, _, _ => by cases h
  | _, _ :: _ :: _, _, [], _, _, _, _, _, _, _, _, h, _, _, _, _, _, _ => h.elim
  | 0, _ :: _ :: _, h, _, _, _, _, _, _, _, _, _, _, _, _, _, _, _, _ => by simp at h
  | n + 1, k :: v :: r, hn, p :: ps, s, H, kvs, l, ep, e2, kvs2, Q, ⟨⟨v1, a1, b1⟩, ⟨v2, a2, b2⟩, c⟩, I, hH, rr, ok, hp, q => by
    rw [List.forIn_cons]
    unfold putAll at hp
    by_cases hc : (kOk 8 k && decide (kvs.length < sizeLine)) = true
    · rw [if_pos hc] at hp
      rw [Bool.and_eq_true] at hc
      have hlen := of_decide_eq_true hc.2
      have D := dx_of hK hw I hH rr ok
      refine wpAny_bind (wpAny_bind (set_any hu (nested_of (m := m) I 8 k v1 p.1 hc.1 (by rw [hK]; exact a1) b1) (nk_depth 8 k hc.1) D (by rw [rr.length]; exact Nat.le_of_lt hlen) fun h' D' sb => wpAny_pure ?_))
      have I' := dict_write (h := []) (n := 0) (kvs := kvs) (kvs' := kvs) (t := s.toks + (nk k).draws) I hH D'.at_ sb
      rw [epPut_eq ok hc.1] at I'
      have st := Step.of (m := m) (TK.upd (H := H) (o := .ext (dictAt a (putK X.w l (kvs.map fun p => nk p.1) (nk k) p.1 p.2) (if dHas kvs k then ep else ep + 1))) (noRd_ext hH))
      have r2 : KvR G m H (dPut kvs k v) (putK X.w l (kvs.map fun p => nk p.1) (nk k) p.1 p.2) := by
        rw [hw]
        exact rr.put ok hc.1 ⟨v1, a1, b1⟩ ⟨v2, a2, b2⟩
      refine store_all hK hw hu n r (by simp at hn; omega) ps _ _ _ _ _ e2 kvs2 Q (c.mono st) I' upd_same (KvR.mono st r2) (ok.put hc.1 hlen) hp fun s' l' I2 r2 ok2 => ?_
      rw [upd_upd'] at I2 r2
      exact q s' l' I2 r2 ok2
    · rw [if_neg hc] at hp; cases hp
theorem je_disp {keys : List (Option Expr)} {values : List Expr} {ps : List (EF × EF)} (h : PPs X pos keys values (ps.map fun p => (tE G W p.1, tE G W p.2))) (hK : X.K = G.K) (hw : X.w = G.w) (hu : X.A.units + 8 < cLine) (hall : keys.all (·.isSome) = true := by rfl) (hl : keys.length = values.length := by rfl) (h0 : keys ≠ [] := by exact List.cons_ne_nil _ _)
    (h15 : keys.length ≤ 15 := by decide) : JE X G W (.Dict keys values pos) (eDisp ps) := by
  refine ⟨fun pins s σ H Q I ⟨m, r, h0', S, E, q⟩ => ?_⟩
  have hn := pairTrees_length keys values X.env pos hall hl
  have hne : pairTrees keys values X.env pos ≠ [] := fun he => by
    rw [he] at hn
    exact h0 (List.length_eq_zero_iff.mp hn.symm)
  rw [arm_eval_Dict, zip_pairTrees keys values X.env pos hall hl, dictDisplay_pairs _ hne (by omega)]
  refine wpAny_bind (wpAny_standAt (wpAny_bind ?_))
  unfold subDict
  refine wpAny_bind (wpAny_alloc ?_)
  refine wpAny_bind (wpAny_holding ?_)
  rw [if_pos (by omega)]
  have hz : (s.heap.objs.size == sysModules) = false := (dk_empty (P := X.prog) (w := X.w) (H := H) s.heap I.big).2.1
  have hfr := I.hok.fresh (Nat.le_refl s.heap.objs.size)
  have I1 : Inv X pins σ (upd H s.heap.objs.size (.ext (dictAt s.heap.objs.size [] 0))) { s with heap := s.heap.push { cls := .type "dict", data := .dict #[] } } := by
    refine I.laid (a := s.heap.objs.size) (t' := s.toks) (fun _ _ q => Heap.get?_push_of_some _ q) (Nat.le_refl _) ?_
    have hg : (s.heap.push { cls := .type "dict", data := .dict #[] }).get? s.heap.objs.size = some { cls := .type "dict", data := .dict #[] } := Heap.get?_push_size _ rfl
    exact ⟨⟨_, #[], hg, ⟨rfl, rfl, rfl⟩, rfl, rfl⟩, ⟨_, hg⟩, fun h1 h2 ⟨o1, es1, c1, c2, c3, c4⟩ k => ⟨o1, es1, k o1 c1, c2, c3, c4⟩⟩
  have t : TK H (upd H s.heap.objs.size (.ext (dictAt s.heap.objs.size [] 0))) := TK.new hfr
  have S1 : Sim G (m ++ [s.heap.objs.size]) (h0' ++ [.dct 0 []]) (upd H s.heap.objs.size (.ext (dictAt s.heap.objs.size [] 0))) :=
    S.new hfr t (fun a u z => by rw [upd_ne (ne_of_none z hfr)]; exact z) ⟨hz, ⟨List.nodup_nil, Nat.zero_le _, fun p hp => by simp at hp⟩, [], upd_same, rfl⟩ fun _ e => by cases e
  have st : Step m H (m ++ [s.heap.objs.size]) (upd H s.heap.objs.size (.ext (dictAt s.heap.objs.size [] 0))) := ⟨⟨_, rfl⟩, t⟩
  have tp : tA G W (afOf ps) σ (upd H s.heap.objs.size (.ext (dictAt s.heap.objs.size [] 0))) fun vs H' => ∃ m' xs h', Sim G m' h' H' ∧ RVs G.K m' H' xs vs ∧ m'[h0'.length]? = some s.heap.objs.size ∧ ∃ e2 kvs2, h'[h0'.length]? = some (.dct 0 []) ∧ putAll xs 0 [] = some (e2, kvs2) ∧
      AftP G m' H' (some (.ref h0'.length, h'.set h0'.length (.dct e2 kvs2))) Q := by
    refine ⟨_, r, _, S1, E.mono st, ?_⟩
    unfold eDisp at q
    have q := Aft.step st q
    revert q
    cases hf : afOf ps r (h0' ++ [.dct 0 []]) with
    | bad => exact fun q => q
    | exc e h1 => exact fun q => q
    | ok xs h1 =>
      intro q m1 H1 vs s1 S2 r1
      dsimp only [Res.bind] at q
      refine ⟨m1, xs, h1, S2, r1, ?_, ?_⟩
      · obtain ⟨⟨x, rfl⟩, _⟩ := s1
        rw [← S.len, List.append_assoc, List.getElem?_append_right (Nat.le_refl _)]
        simp
      · cases hh : h1[h0'.length]? with
        | none => rw [hh] at q; exact q.elim
        | some o =>
          rw [hh] at q
          cases o with
          | dct ep kvs =>
            dsimp only at q
            cases ep with
            | succ n => exact q.elim
            | zero =>
              cases kvs with
              | cons a b => exact q.elim
              | nil =>
                cases hp : putAll xs 0 [] with
                | none => rw [hp] at q; exact q.elim
                | some z =>
                  rw [hp] at q
                  exact ⟨z.1, z.2, rfl, rfl, fun m2 H2 v s2 S3 r2 => q m2 H2 v (s1.trans s2) S3 r2⟩
          | _ => exact q.elim
  refine wpAny_bind (wpAny_mono (h.run pins _ σ _ _ I1 (tp_of ps tp)) (fun us s2 hh => ?_) fun _ _ e => e)
  obtain ⟨vvs, H2, I2, rel, m2, xs, h2, S2, r2, ha, e2, kvs2, hd, hp, q2⟩ := hh
  obtain ⟨a', l, e, hn', e', ha', hz', ok', hH', rr'⟩ := dict_at (x := .ref h0'.length) (v := .ref s.heap.objs.size) S2 (by unfold dictOf; dsimp only; rw [hd]) (by rw [RV]; exact ⟨_, ha, rfl⟩)
  cases e'
  refine wpAny_holding ?_
  refine wpAny_bind (store_all hK hw hu xs.length xs (Nat.le_refl _) us s2 H2 [] l 0 e2 kvs2 _ (prs_of r2 rel) I2 hH' rr' ok' hp fun s3 l3 I3 r3 ok3 => wpAny_pure (wpAny_pure (wpAny_pure ⟨.ref s.heap.objs.size, _, I3, rfl, ?_⟩)))
  exact q2 m2 _ (.ref s.heap.objs.size) (Step.of (TK.upd (noRd_ext hH'))) (S2.set hd ha (fun _ e => by cases e) (fun _ e => by cases e) (noRd_ext hH') (fun z xs e => by rw [hH'] at e; cases e) ⟨hz', ok3, l3, upd_same, r3⟩) (by rw [RV]; exact ⟨_, ha, rfl⟩)
end
end Z
/-! Zf: defs, the law's end. -/
namespace Z
open PySem L2
def frees : List Str := ["len", "list", "tuple", "int", "str", "max", "min", "sum", "any", "all", "range", "enumerate", "zip", "reversed", "sorted", "isinstance", "dict", "set", "bool", "Exception", "ValueError"]
def Frees (mg : Str → Option Value) (xs : List Str) : Prop := ∀ x ∈ xs, mg x = none
/-- what a place in the text may lean on -/
structure Oks (X : Cx) (G : Par) (k : Nat) (frs : List Str) : Prop where
  hK : X.K = G.K
  hw : X.w = G.w
  calm : X.calm = true
  room : Room k X.A
  fr : Frees X.mg frs
theorem Oks.u1 {X : Cx} {G : Par} {k : Nat} {frs : List Str} (o : Oks X G k frs) : X.A.in1.units + 8 < cLine := by
  have := o.room.un
  show X.A.units + 1 + 8 < cLine
  omega
theorem Oks.u0 {X : Cx} {G : Par} {k : Nat} {frs : List Str} (o : Oks X G k frs) : X.A.units + 8 < cLine := by have := o.room.un; omega
theorem Oks.u2 {X : Cx} {G : Par} {k : Nat} {frs : List Str} (o : Oks X G k frs) : X.A.units + 65 < cLine := by have := o.room.un; omega
theorem Oks.u3 {X : Cx} {G : Par} {k : Nat} {frs : List Str} (o : Oks X G k frs) : X.A.units + 64 < cLine := by have := o.room.un; omega
theorem Oks.blk {X : Cx} {G : Par} {k : Nat} {frs : List Str} (o : Oks X G k frs) {s : Shared} {H : Hp} {scope : Scope} {cenv : Env} {fp : List Addr} : Oks (X.blk s H scope cenv fp) G k frs := ⟨o.hK, o.hw, o.calm, o.room, o.fr⟩
/-- a def of the module that computes F -/
structure FK (P : Program) (w : World) (K : PySem.W.Frag) (mg : Str → Option Value) (base : Heap) (G : Par) (k : Nat) (x : Str) (n : Nat) (F : FF) : Prop where
  ex : ∃ (f : Addr) (fd : FuncData) (ps : List Str), FnOk P w K mg base (L2.CX P w) k f fd ps (spF G n F) ∧ mg x = some (.ref f) ∧ PySem.W.keepIn K (.ref f) = true ∧ Binds K fd ps []
theorem FK.mono {P : Program} {w : World} {K : PySem.W.Frag} {mg : Str → Option Value} {base : Heap} {G : Par} {j k : Nat} {x : Str} {n : Nat} {F : FF} (h : FK P w K mg base G j x n F) (l : j ≤ k) : FK P w K mg base G k x n F :=
  let ⟨f, fd, ps, a, b⟩ := h.ex; ⟨f, fd, ps, a.mono l, b⟩
/-- a def of the top -/
structure DK (K : PySem.W.Frag) (mg : Str → Option Value) (x : Str) (st : Stmt) (ps : List Str) : Prop where
  ex : ∃ (f : Addr) (fd : FuncData), FunD K x x (defArgs st) (defBody st) (defScope st) [] [] f fd ∧ mg x = some (.ref f) ∧ Binds K fd ps []
section
variable {P : Program} {w : World} {K : PySem.W.Frag} {mg : Str → Option Value} {base : Heap} {G : Par}
/-- the context of a body -/
abbrev bodyCx (P : Program) (w : World) (K : PySem.W.Frag) (mg : Str → Option Value) (base : Heap) (N : List Str) (qual : Str) (sc : Scope) (f : Addr) (cdv : Value) (A : Around) (outer : List Env) (s : Shared) (H : Hp) (E : XK) : Cx := cxOf (L2.CX P w) P w K mg base N qual sc f cdv A outer s H E
theorem start_env {K : PySem.W.Frag} {N : List Str} {m : List Addr} {H : Hp} {xs : List PV} {vs : List V} (r : RVs K m H xs vs) : REnv K m H (xs.map some ++ List.replicate (N.length - xs.length) none) (L2.start N vs) := by
  have hl := r.length
  refine ⟨by simp [L2.start, hl], fun i x h => ?_⟩
  by_cases hi : i < xs.length
  · rw [List.getElem?_append_left (by simpa using hi), List.getElem?_map] at h
    cases e : xs[i]? with
    | none => rw [e] at h; cases h
    | some y =>
      rw [e] at h
      cases h
      obtain ⟨v, hv, rv⟩ := r.get e
      refine ⟨v, ?_, rv⟩
      unfold L2.start
      rw [List.getElem?_append_left (by simpa [hl] using hi), List.getElem?_map, hv]
      rfl
  · rw [List.getElem?_append_right (by simpa using hi), List.getElem?_replicate] at h
    split at h <;> cases h
theorem fn_F {x qual : Str} {pa : Arguments} {bd : List Stmt} {sc : Scope} {dvs : List V} {kws : List (Str × V)} {f : Addr} {fd : FuncData} {N ps : List Str} {k n : Nat} {b : SF} (F : FunD K x qual pa bd sc dvs kws f fd) (S : FnScope N ps sc) (hn : ps.length = n) {nn : Nat} (hN : N.length = nn)
    (hbody : ∀ (cdv : Value) (A : Around) (outer : List Env) (s : Shared) (H : Hp) (E : XK), Room k (bodyCx P w K mg base N qual sc f cdv A outer s H E).A → Takes (bodyCx P w K mg base N qual sc f cdv A outer s H E) (fun cls d _ H => E cls d H) →
      JSs (bodyCx P w K mg base N qual sc f cdv A outer s H E) G (fun cls d _ H => E cls d H) bd b) (hK : K = G.K) : FnOk P w K mg base (L2.CX P w) (k + 1) f fd ps (spF G n (runF nn b)) := by
  subst hN
  refine F.ok S (fun vs H Q E h => ?_) fun cdv A outer s H vs Q E hr h => ⟨_, hbody cdv A outer s H E hr (takes_of rfl rfl rfl rfl), ?_⟩
  · obtain ⟨m, h, xs, _, r, hl, _⟩ := h
    rw [r.length, hl, hn]
  · obtain ⟨m, h, xs, S1, r, hl, q⟩ := h
    refine ⟨m, _, h, S1, start_env r, ?_⟩
    revert q
    unfold runF
    cases b (xs.map some ++ List.replicate (N.length - xs.length) none) h with
    | nx e h1 => exact fun q m1 H1 σ1 s1 S1 E1 => q m1 H1 .non s1 S1 mk_non
    | ret v h1 => exact fun q => q
    | exc e r h1 => exact fun q m1 H1 σ1 d s1 S1 E1 rx => q m1 H1 d s1 S1 rx
    | bad => exact fun q => q
theorem fk_of {x : Str} {st : Stmt} {N ps : List Str} {k n : Nat} {b : SF} (D : DK K mg x st ps) (S : FnScope N ps (defScope st)) (hK : K = G.K) (hw : w = G.w) (frs : List Str) (hf : Frees mg frs)
    (hbody : ∀ (f : Addr) (cdv : Value) (A : Around) (outer : List Env) (s : Shared) (H : Hp) (E : XK), Oks (bodyCx P w K mg base N x (defScope st) f cdv A outer s H E) G k frs → Takes (bodyCx P w K mg base N x (defScope st) f cdv A outer s H E) (fun cls d _ H => E cls d H) →
      JSs (bodyCx P w K mg base N x (defScope st) f cdv A outer s H E) G (fun cls d _ H => E cls d H) (defBody st) b) {nn : Nat} (hN : N.length = nn := by rfl) (hn : ps.length = n := by rfl) : FK P w K mg base G (k + 1) x n (runF nn b) := by
  obtain ⟨f, fd, F, hm, hb⟩ := D.ex
  exact ⟨f, fd, ps, fn_F F S hn hN (fun cdv A outer s H E hr tk => hbody f cdv A outer s H E ⟨hK, hw, rfl, hr, hf⟩ tk) hK, hm, F.kp, hb⟩
/-- what is never well is kept by all -/
theorem fk_bad {x : Str} {st : Stmt} {ps : List Str} {k n : Nat} (D : DK K mg x st ps) (hn : ps.length = n := by rfl) : FK P w K mg base G k x n (fun _ _ => .bad) := by
  obtain ⟨f, fd, F, hm, hb⟩ := D.ex
  refine ⟨f, fd, ps, ⟨fun vs H Q E ⟨m, h, xs, _, r, hl, q⟩ => q.elim, fun A outer s H args us vs Q E _ _ _ _ ⟨m, h, xs, _, r, hl, q⟩ => q.elim⟩, hm, F.kp, hb⟩
end
section
variable {X : Cx} {G : Par} {W : WX} {e o : Expr} {es : List Expr} {f g : EF} {fa : AF} {k : Nat} {frs : List Str} {p pos apos : Pos}
theorem je_fn {x : Str} {j n : Nat} {F : FF} (c : FK X.prog X.w X.K X.mg X.base G j x n F) (o : Oks X G k frs) (tk : Takes X W) (hjk : j ≤ k) (hg : Gl X x) (ha : JA X G W (e :: es) fa) (ln : AF.Len fa n) (hdb : (x == ("__debug__" : Str)) = false := by decide)
    (he : starEach (e :: es) X.env = (false, eval e X.env) :: starEach es X.env := by rfl) (hpl : (backTo pos (starEach es X.env)).any (·.1) = false := by rfl) : JE X G W (.Call (.Name x p) (e :: es) [] pos) (eCall F fa) := by
  obtain ⟨f, fd, ps, a, b, c, d⟩ := c.ex
  exact je_call a (o.room.mono hjk) tk hg b c d ha ln hdb he hpl
/-! built-in functions -/
theorem je_len (o : Oks X G k frs) (ha : JA X G W (e :: es) fa) (hg : Gl X "len" := by rfl) (hf : ("len" : Str) ∈ frs := by decide) (he : starEach (e :: es) X.env = (false, eval e X.env) :: starEach es X.env := by rfl) (hpl : (backTo pos (starEach es X.env)).any (·.1) = false := by rfl) :
    JE X G W (.Call (.Name "len" p) (e :: es) [] pos) (eArg pLen fa) := by
  have hc : CallR X (.builtin "len") _ := call_len
  rw [o.hK] at hc
  exact je_callB hc ok_len hg (o.fr _ hf) boot_len ha (he := he) (hpl := hpl)
theorem je_list (o : Oks X G k frs) (ha : JA X G W (e :: es) fa) (hg : Gl X "list" := by rfl) (hf : ("list" : Str) ∈ frs := by decide) (he : starEach (e :: es) X.env = (false, eval e X.env) :: starEach es X.env := by rfl) (hpl : (backTo pos (starEach es X.env)).any (·.1) = false := by rfl) :
    JE X G W (.Call (.Name "list" p) (e :: es) [] pos) (eArg pList fa) := by
  have hc : CallR X (.type "list") _ := call_list_of
  rw [o.hK] at hc
  exact je_callTy hc ok_list hg (o.fr _ hf) (by decide +kernel) ha (he := he) (hpl := hpl)
theorem je_tupOf (o : Oks X G k frs) (ha : JA X G W (e :: es) fa) (hg : Gl X "tuple" := by rfl) (hf : ("tuple" : Str) ∈ frs := by decide) (he : starEach (e :: es) X.env = (false, eval e X.env) :: starEach es X.env := by rfl) (hpl : (backTo pos (starEach es X.env)).any (·.1) = false := by rfl) :
    JE X G W (.Call (.Name "tuple" p) (e :: es) [] pos) (eArg pTupOf fa) := by
  have hc : CallR X (.type "tuple") _ := call_tuple_of
  rw [o.hK] at hc
  exact je_callTy hc ok_tupOf hg (o.fr _ hf) (by decide +kernel) ha (he := he) (hpl := hpl)
theorem je_intOf (o : Oks X G k frs) (ha : JA X G W (e :: es) fa) (hg : Gl X "int" := by rfl) (hf : ("int" : Str) ∈ frs := by decide) (he : starEach (e :: es) X.env = (false, eval e X.env) :: starEach es X.env := by rfl) (hpl : (backTo pos (starEach es X.env)).any (·.1) = false := by rfl) :
    JE X G W (.Call (.Name "int" p) (e :: es) [] pos) (eArg pIntOf fa) :=
  je_callTy call_int1 ok_intOf hg (o.fr _ hf) (by decide +kernel) ha (he := he) (hpl := hpl)
theorem je_max2 (o : Oks X G k frs) (ha : JA X G W (e :: es) fa) (hg : Gl X "max" := by rfl) (hf : ("max" : Str) ∈ frs := by decide) (he : starEach (e :: es) X.env = (false, eval e X.env) :: starEach es X.env := by rfl) (hpl : (backTo pos (starEach es X.env)).any (·.1) = false := by rfl) :
    JE X G W (.Call (.Name "max" p) (e :: es) [] pos) (eArg pMax2 fa) :=
  je_callB (call_max2 o.calm) ok_max2 hg (o.fr _ hf) (by decide +kernel) ha (he := he) (hpl := hpl)
theorem je_min2 (o : Oks X G k frs) (ha : JA X G W (e :: es) fa) (hg : Gl X "min" := by rfl) (hf : ("min" : Str) ∈ frs := by decide) (he : starEach (e :: es) X.env = (false, eval e X.env) :: starEach es X.env := by rfl) (hpl : (backTo pos (starEach es X.env)).any (·.1) = false := by rfl) :
    JE X G W (.Call (.Name "min" p) (e :: es) [] pos) (eArg pMin2 fa) :=
  je_callB (call_min2 o.calm) ok_min2 hg (o.fr _ hf) (by decide +kernel) ha (he := he) (hpl := hpl)
theorem je_sum (o : Oks X G k frs) (ha : JA X G W (e :: es) fa) (hg : Gl X "sum" := by rfl) (hf : ("sum" : Str) ∈ frs := by decide) (he : starEach (e :: es) X.env = (false, eval e X.env) :: starEach es X.env := by rfl) (hpl : (backTo pos (starEach es X.env)).any (·.1) = false := by rfl) :
    JE X G W (.Call (.Name "sum" p) (e :: es) [] pos) (eArg pSum fa) := by
  have hc : CallR X (.builtin "sum") _ := cr_sum o.calm
  rw [o.hK] at hc
  exact je_callB hc ok_sum hg (o.fr _ hf) (by decide +kernel) ha (he := he) (hpl := hpl)
theorem je_any (o : Oks X G k frs) (ha : JA X G W (e :: es) fa) (hg : Gl X "any" := by rfl) (hf : ("any" : Str) ∈ frs := by decide) (he : starEach (e :: es) X.env = (false, eval e X.env) :: starEach es X.env := by rfl) (hpl : (backTo pos (starEach es X.env)).any (·.1) = false := by rfl) :
    JE X G W (.Call (.Name "any" p) (e :: es) [] pos) (eArg pAny fa) := by
  have hc : CallR X (.builtin "any") _ := cr_any o.calm
  rw [o.hK] at hc
  exact je_callB hc ok_any hg (o.fr _ hf) (by decide +kernel) ha (he := he) (hpl := hpl)
theorem je_all (o : Oks X G k frs) (ha : JA X G W (e :: es) fa) (hg : Gl X "all" := by rfl) (hf : ("all" : Str) ∈ frs := by decide) (he : starEach (e :: es) X.env = (false, eval e X.env) :: starEach es X.env := by rfl) (hpl : (backTo pos (starEach es X.env)).any (·.1) = false := by rfl) :
    JE X G W (.Call (.Name "all" p) (e :: es) [] pos) (eArg pAll fa) := by
  have hc : CallR X (.builtin "all") _ := cr_all o.calm
  rw [o.hK] at hc
  exact je_callB hc ok_all hg (o.fr _ hf) (by decide +kernel) ha (he := he) (hpl := hpl)
/-! operators -/
theorem op_add' (o : Oks X G k frs) : OpR X (binaryOp .Add) (rAddP G.K) := by rw [← o.hK]; exact op_addP
theorem op_eq' (o : Oks X G k frs) : OpR X (compareOp .Eq) (rEqP G.K) := by rw [← o.hK]; exact op_eqP o.u3
theorem op_ne' (o : Oks X G k frs) : OpR X (compareOp .NotEq) (rNeP G.K) := by rw [← o.hK]; exact op_neP o.u3
theorem op_in' (o : Oks X G k frs) : OpR X (compareOp .In) (rInU G) := op_inU o.hK o.hw o.u1 o.u2
theorem op_ni' (o : Oks X G k frs) : OpR X (compareOp .NotIn) (rNotInU G) := op_notInU o.hK o.hw o.u1 o.u2
theorem ix' (o : Oks X G k frs) : IxR X (rIxU G) := ix_U o.hK o.hw o.u1
theorem sl' (o : Oks X G k frs) : SlR X (rSlP G.K) := by rw [← o.hK]; exact sl_any
theorem set' (o : Oks X G k frs) : PSet X (rSetU G) := ps_setU o.hK o.hw o.u1
end
end Z
namespace Z
open PySem L2
/-! ### the law's end -/
theorem rvs_ints {K : PySem.W.Frag} {m : List Addr} {H : Hp} : ∀ (ns : List Int), RVs K m H (ns.map PV.int) (ns.map V.int)
  | [] => RVs.nil
  | n :: ns => RVs.cons mk_int (rvs_ints ns)
theorem sim_script {G : Par} {H : Hp} {a : Addr} {ns : List Int} (hO : Only H) (hS : SqL G.K H a (ns.map V.int)) : Sim G [a] [.frz (ns.map PV.int)] H := by
  have hf : FrzL G.K H a (ns.map V.int) := by
    rcases hS with (h | h) | h
    · rcases hO a with e | ⟨o, xs, e⟩ <;> (rw [h] at e; cases e)
    · exact Or.inl h
    · exact Or.inr h
  refine ⟨rfl, fun n n' b h1 h2 h3 _ => ?_, fun n o h => ?_⟩
  · cases n with
    | zero => cases h3
    | succ n => simp at h1
  · cases n with
    | zero =>
      cases h
      exact ⟨a, rfl, ns.map V.int, hf, rvs_ints ns⟩
    | succ n => simp at h
theorem law_sp {G : Par} {H : Hp} {a : Addr} {ns : List Int} {F : FF} (hO : Only H) (hS : SqL G.K H a (ns.map V.int)) (h : ∃ h', F [.ref 0] [.frz (ns.map PV.int)] = .ok (.bl true) h') : spF G 1 F [.ref a] H (fun v _ => v = .bl true) fun _ _ _ => False := by
  obtain ⟨h', e⟩ := h
  refine ⟨[a], _, [.ref 0], sim_script hO hS, RVs.cons (by rw [RV]; exact ⟨a, rfl, rfl⟩) RVs.nil, rfl, ?_⟩
  rw [e]
  intro m' H' v _ _ r
  rw [RV] at r
  exact r
theorem cx_end {P : Program} {w : World} {outer : List Env} {H : Hp} {s : Shared} {e : Value} {s' : Shared} (h : L2.CX P w outer H s (fun _ _ _ => False) e s') : False := by
  obtain ⟨_, _, _, _, _, _, _, _, _, _, _, _, z⟩ := h
  exact z.elim
/-- the law lets nothing out -/
theorem fn_close {P : Program} {w : World} {K : PySem.W.Frag} {mg : Str → Option Value} {base : Heap} {G : Par} {k n : Nat} {f : Addr} {fd : FuncData} {ps : List Str} {F : FF} (h : FnOk P w K mg base (L2.CX P w) k f fd ps (spF G n F)) :
    FnOk P w K mg base (fun _ _ _ _ _ _ => False) k f fd ps (fun vs H Q _ => spF G n F vs H Q fun _ _ _ => False) :=
  ⟨fun vs H Q E q => h.len _ _ _ _ q, fun A outer s H args us vs Q E hr he hb hv hs => codeAny_mono (h.run A outer s H args us vs Q _ hr he hb hv hs) fun r s' hq => by
    cases r with
    | error e => exact cx_end hq
    | ok fl => cases fl <;> exact hq⟩
end Z
/-! Zw: the combinators, reckoned. -/
namespace Z
/-! ### results -/
def Res.sat {α : Type} (r : Res α) (Q : α → PH → Prop) (X : Exn → PH → Prop) : Prop := match r with
  | .ok a h => Q a h
  | .exc e h => X e h
  | .bad => False
def SR.sat (s : SR) (N : PEnv → PH → Prop) (R : PV → PH → Prop) (X : Exn → PEnv → PH → Prop) : Prop := match s with
  | .nx r h => N r h
  | .ret v h => R v h
  | .exc e r h => X e r h
  | .bad => False
@[simp] theorem sat_nx {r h N R X} : (SR.nx r h).sat N R X = N r h := rfl
@[simp] theorem sat_ret {v h N R X} : (SR.ret v h).sat N R X = R v h := rfl
@[simp] theorem sat_exc {e r h N R X} : (SR.exc e r h).sat N R X = X e r h := rfl
@[simp] theorem sat_ok {α : Type} {a : α} {h Q X} : (Res.ok a h).sat Q X = Q a h := rfl
@[simp] theorem sat_ex {α : Type} {e h} {Q : α → PH → Prop} {X} : (Res.exc e h).sat Q X = X e h := rfl
theorem Res.sat_mono {α : Type} {r : Res α} {Q Q' : α → PH → Prop} {X X' : Exn → PH → Prop} (s : r.sat Q X) (h : ∀ a h, Q a h → Q' a h) (k : ∀ e h, X e h → X' e h) : r.sat Q' X' := by
  cases r with
  | ok a g => exact h a g s
  | exc e g => exact k e g s
  | bad => exact s
theorem SR.sat_mono {s : SR} {N N' : PEnv → PH → Prop} {R R' : PV → PH → Prop} {X X' : Exn → PEnv → PH → Prop} (q : s.sat N R X) (h1 : ∀ r h, N r h → N' r h) (h2 : ∀ v h, R v h → R' v h) (h3 : ∀ e r h, X e r h → X' e r h) : s.sat N' R' X' := by
  cases s with
  | nx r h => exact h1 r h q
  | ret v h => exact h2 v h q
  | exc e r h => exact h3 e r h q
  | bad => exact q
@[simp] theorem bind_ok {α β : Type} {a : α} {h : PH} {f : α → PH → Res β} : (Res.ok a h).bind f = f a h := rfl
@[simp] theorem bind_exc {α β : Type} {e : Exn} {h : PH} {f : α → PH → Res β} : (Res.exc e h).bind f = .exc e h := rfl
@[simp] theorem rp_some {α : Type} {a : α} {h : PH} : Rp.r (some (a, h)) = .ok a h := rfl
@[simp] theorem toS_ok {v : PV} {h : PH} {r : PEnv} {f : PV → PH → SR} : (Res.ok v h).toS r f = f v h := rfl
@[simp] theorem toS_exc {e : Exn} {h : PH} {r : PEnv} {f : PV → PH → SR} : (Res.exc e h).toS r f = .exc e r h := rfl
@[simp] theorem thn_nx {r : PEnv} {h : PH} {f : SF} : (SR.nx r h).thn f = f r h := rfl
@[simp] theorem thn_ret {v : PV} {h : PH} {f : SF} : (SR.ret v h).thn f = .ret v h := rfl
@[simp] theorem thn_exc {e : Exn} {r : PEnv} {h : PH} {f : SF} : (SR.exc e r h).thn f = .exc e r h := rfl
theorem sat_thn {s : SR} {f : SF} {N R X} : (s.thn f).sat N R X ↔ s.sat (fun r h => (f r h).sat N R X) R X := by cases s <;> rfl
theorem sat_bind {α β : Type} {r : Res α} {f : α → PH → Res β} {Q X} : (r.bind f).sat Q X ↔ r.sat (fun a h => (f a h).sat Q X) X := by cases r <;> rfl
theorem sat_toS {r : Res PV} {e : PEnv} {f : PV → PH → SR} {N R X} : (r.toS e f).sat N R X ↔ r.sat (fun v h => (f v h).sat N R X) (fun x h => X x e h) := by cases r <;> rfl
theorem sat_ite {c : Prop} [Decidable c] {a b : SR} {N R X} : (if c then a else b).sat N R X ↔ (c → a.sat N R X) ∧ (¬ c → b.sat N R X) := by by_cases h : c <;> simp [h]
theorem satR_ite {α : Type} {c : Prop} [Decidable c] {a b : Res α} {Q X} : (if c then a else b).sat Q X ↔ (c → a.sat Q X) ∧ (¬ c → b.sat Q X) := by by_cases h : c <;> simp [h]
/-- a truth, then by it -/
def Res.onB {α : Type} (x : Res PV) (k : Bool → PH → Res α) : Res α := x.bind fun v h => match v with
  | .bl b => k b h
  | _ => .bad
def Res.toB (x : Res PV) (r : PEnv) (k : Bool → PH → SR) : SR := x.toS r fun v h => match v with
  | .bl b => k b h
  | _ => .bad
@[simp] theorem onB_ok {α : Type} {b : Bool} {h : PH} {k : Bool → PH → Res α} : (Res.ok (.bl b) h).onB k = k b h := rfl
@[simp] theorem toB_ok {b : Bool} {h : PH} {r : PEnv} {k : Bool → PH → SR} : (Res.ok (.bl b) h).toB r k = k b h := rfl
/-! ### expressions -/
section
variable {f g c k : EF} {a : AF} {r : PEnv} {h : PH}
@[simp] theorem eC_ap {v : PV} : eC v r h = .ok v h := rfl
theorem eVar_ap {i : Nat} {v : PV} (e : r[i]? = some (some v)) : eVar i r h = .ok v h := by unfold eVar; rw [e]
@[simp] theorem eVar_0 {v : PV} {t : PEnv} : eVar 0 (some v :: t) h = .ok v h := rfl
@[simp] theorem eVar_s {i : Nat} {x : Option PV} {t : PEnv} : eVar (i + 1) (x :: t) h = eVar i t h := rfl
@[simp] theorem eVar_1 {x0 : Option PV} {v : PV} {t : PEnv} : eVar 1 (x0 :: some v :: t) h = .ok v h := rfl
@[simp] theorem eVar_2 {x0 x1 : Option PV} {v : PV} {t : PEnv} : eVar 2 (x0 :: x1 :: some v :: t) h = .ok v h := rfl
@[simp] theorem eVar_3 {x0 x1 x2 : Option PV} {v : PV} {t : PEnv} : eVar 3 (x0 :: x1 :: x2 :: some v :: t) h = .ok v h := rfl
@[simp] theorem eVar_4 {x0 x1 x2 x3 : Option PV} {v : PV} {t : PEnv} : eVar 4 (x0 :: x1 :: x2 :: x3 :: some v :: t) h = .ok v h := rfl
@[simp] theorem eVar_5 {x0 x1 x2 x3 x4 : Option PV} {v : PV} {t : PEnv} : eVar 5 (x0 :: x1 :: x2 :: x3 :: x4 :: some v :: t) h = .ok v h := rfl
@[simp] theorem eVar_6 {x0 x1 x2 x3 x4 x5 : Option PV} {v : PV} {t : PEnv} : eVar 6 (x0 :: x1 :: x2 :: x3 :: x4 :: x5 :: some v :: t) h = .ok v h := rfl
@[simp] theorem eVar_7 {x0 x1 x2 x3 x4 x5 x6 : Option PV} {v : PV} {t : PEnv} : eVar 7 (x0 :: x1 :: x2 :: x3 :: x4 :: x5 :: x6 :: some v :: t) h = .ok v h := rfl
@[simp] theorem eVar_8 {x0 x1 x2 x3 x4 x5 x6 x7 : Option PV} {v : PV} {t : PEnv} : eVar 8 (x0 :: x1 :: x2 :: x3 :: x4 :: x5 :: x6 :: x7 :: some v :: t) h = .ok v h := rfl
@[simp] theorem eUn_ap {p : P1} : eUn p f r h = (f r h).bind fun x h1 => (p x h1).r := rfl
@[simp] theorem eBin_ap {p : P2} : eBin p f g r h = (f r h).bind fun x h1 => (g r h1).bind fun y h2 => (p x y h2).r := rfl
@[simp] theorem aNil_ap : aNil r h = .ok [] h := rfl
@[simp] theorem aCons_ap : aCons f a r h = (f r h).bind fun x h1 => (a r h1).bind fun xs h2 => .ok (x :: xs) h2 := rfl
@[simp] theorem eArg_ap {p : PN} : eArg p a r h = (a r h).bind fun vs h1 => (p vs h1).r := rfl
@[simp] theorem eNot_ap : eNot f r h = (f r h).onB fun b h1 => .ok (.bl (!b)) h1 := by
  unfold eNot Res.onB
  congr 1
@[simp] theorem eAnd_ap : eAnd f g r h = (f r h).onB fun b h1 => if b = true then (g r h1).onB fun c h2 => .ok (.bl c) h2 else .ok (.bl false) h1 := by
  unfold eAnd Res.onB
  congr 1
  funext x h1
  cases x with
  | bl b => cases b <;> simp <;> rfl
  | _ => rfl
@[simp] theorem eOr_ap : eOr f g r h = (f r h).onB fun b h1 => if b = true then .ok (.bl true) h1 else (g r h1).onB fun c h2 => .ok (.bl c) h2 := by
  unfold eOr Res.onB
  congr 1
  funext x h1
  cases x with
  | bl b => cases b <;> simp <;> rfl
  | _ => rfl
@[simp] theorem eIf_ap : eIf c f g r h = (c r h).onB fun b h1 => if b = true then f r h1 else g r h1 := by
  unfold eIf Res.onB
  congr 1
  funext x h1
  cases x with
  | bl b => cases b <;> simp
  | _ => rfl
@[simp] theorem oNo_ap : oNo r h = .ok none h := rfl
@[simp] theorem oPart_ap : oPart f r h = (f r h).bind fun x h1 => match x with
  | .int i => .ok (some i) h1
  | _ => .bad := rfl
@[simp] theorem eSl_ap {p : PSl} {l u : OF} : eSl p f l u r h = (f r h).bind fun x h1 => (l r h1).bind fun a h2 => (u r h2).bind fun b h3 => (p x a b h3).r := rfl
@[simp] theorem eBM_ap {ty : PV → PH → Bool} {p : PM} : eBM ty p f a r h = (f r h).bind fun x h1 => if ty x h1 then (a r h1).bind fun vs h2 => (p x vs h2).r else .bad := rfl
@[simp] theorem eCall_ap {F : FF} : eCall F a r h = (a r h).bind F := rfl
@[simp] theorem eNewD_ap : eNewD r h = .ok (.ref h.length) (h ++ [.dct 0 []]) := rfl
/-! ### targets, statements -/
variable {s t : SF} {gt : GF} {gs : GFs}
theorem gName_ap {i : Nat} {v : PV} : gName i v r h = if i < r.length then .ok (r.set i (some v)) h else .bad := rfl
@[simp] theorem gName_0 {v : PV} {x0} {t : PEnv} : gName 0 v (x0 :: t) h = .ok (some v :: t) h := rfl
@[simp] theorem gName_1 {v : PV} {x0 x1} {t : PEnv} : gName 1 v (x0 :: x1 :: t) h = .ok (x0 :: some v :: t) h := by simp [gName_ap]
@[simp] theorem gName_2 {v : PV} {x0 x1 x2} {t : PEnv} : gName 2 v (x0 :: x1 :: x2 :: t) h = .ok (x0 :: x1 :: some v :: t) h := by simp [gName_ap]
@[simp] theorem gName_3 {v : PV} {x0 x1 x2 x3} {t : PEnv} : gName 3 v (x0 :: x1 :: x2 :: x3 :: t) h = .ok (x0 :: x1 :: x2 :: some v :: t) h := by simp [gName_ap]
@[simp] theorem gName_4 {v : PV} {x0 x1 x2 x3 x4} {t : PEnv} : gName 4 v (x0 :: x1 :: x2 :: x3 :: x4 :: t) h = .ok (x0 :: x1 :: x2 :: x3 :: some v :: t) h := by simp [gName_ap]
@[simp] theorem gName_5 {v : PV} {x0 x1 x2 x3 x4 x5} {t : PEnv} : gName 5 v (x0 :: x1 :: x2 :: x3 :: x4 :: x5 :: t) h = .ok (x0 :: x1 :: x2 :: x3 :: x4 :: some v :: t) h := by simp [gName_ap]
@[simp] theorem gName_6 {v : PV} {x0 x1 x2 x3 x4 x5 x6} {t : PEnv} : gName 6 v (x0 :: x1 :: x2 :: x3 :: x4 :: x5 :: x6 :: t) h = .ok (x0 :: x1 :: x2 :: x3 :: x4 :: x5 :: some v :: t) h := by simp [gName_ap]
@[simp] theorem gName_7 {v : PV} {x0 x1 x2 x3 x4 x5 x6 x7} {t : PEnv} : gName 7 v (x0 :: x1 :: x2 :: x3 :: x4 :: x5 :: x6 :: x7 :: t) h = .ok (x0 :: x1 :: x2 :: x3 :: x4 :: x5 :: x6 :: some v :: t) h := by simp [gName_ap]
@[simp] theorem gName_8 {v : PV} {x0 x1 x2 x3 x4 x5 x6 x7 x8} {t : PEnv} : gName 8 v (x0 :: x1 :: x2 :: x3 :: x4 :: x5 :: x6 :: x7 :: x8 :: t) h = .ok (x0 :: x1 :: x2 :: x3 :: x4 :: x5 :: x6 :: x7 :: some v :: t) h := by simp [gName_ap]
@[simp] theorem gsNil_ap : gsNil [] r h = .ok r h := rfl
@[simp] theorem gsCons_ap {v : PV} {vs : List PV} : gsCons gt gs (v :: vs) r h = (gt v r h).bind fun r1 h1 => gs vs r1 h1 := rfl
@[simp] theorem gTup_ap {n : Nat} {xs : List PV} : gTup n gs (.tup xs) r h = if xs.length = n then gs xs r h else .bad := rfl
@[simp] theorem gSub_ap {p : P3} {v : PV} : gSub p f g v r h = (f r h).bind fun o h1 => (g r h1).bind fun i h2 => match p o i v h2 with
  | some h3 => .ok r h3
  | none => .bad := rfl
@[simp] theorem sNx_ap : sNx r h = .nx r h := rfl
@[simp] theorem sSeq_ap : sSeq s t r h = (s r h).thn t := rfl
/-- what is stored, then on -/
def Res.toN (x : Res PEnv) : SR := match x with
  | .ok r h => .nx r h
  | _ => .bad
@[simp] theorem toN_ok {r : PEnv} {h : PH} : (Res.ok r h).toN = .nx r h := rfl
@[simp] theorem sAsg_ap : sAsg f gt r h = (f r h).toS r fun v h1 => (gt v r h1).toN := by
  unfold sAsg Res.toN
  congr 1
@[simp] theorem sExpr_ap : sExpr f r h = (f r h).toS r fun _ h1 => .nx r h1 := rfl
@[simp] theorem sRet_ap : sRet f r h = (f r h).toS r fun v h1 => .ret v h1 := rfl
@[simp] theorem sRetN_ap : sRetN r h = .ret .non h := rfl
@[simp] theorem sIf_ap : sIf c s t r h = (c r h).toB r fun b h1 => if b = true then s r h1 else t r h1 := by
  unfold sIf Res.toB
  congr 1
  funext x h1
  cases x with
  | bl b => cases b <;> simp
  | _ => rfl
end
/-! ### loops -/
theorem forG_sat {get : Nat → PH → Option (Option PV)} {g : GF} {b : SF} {R : PV → PH → Prop} {X : Exn → PEnv → PH → Prop} {xs : List PV} (I : Nat → PEnv → PH → Prop)
    (hget : ∀ i r h, I i r h → get i h = some (xs[i]?)) (step : ∀ i x r h, xs[i]? = some x → I i r h → ∃ r1 h1, g x r h = .ok r1 h1 ∧ (b r1 h1).sat (I (i + 1)) R X) :
    ∀ (k i : Nat) (r : PEnv) (h : PH), i + k = xs.length → I i r h → (forG get g b k i r h).sat (I xs.length) R X
  | 0, i, r, h, e, q => by
    unfold forG
    have e2 : i = xs.length := by omega
    subst e2
    rw [hget _ r h q]
    simp
    exact q
  | k + 1, i, r, h, e, q => by
    unfold forG
    have hi : i < xs.length := by omega
    rw [hget i r h q, List.getElem?_eq_getElem hi]
    obtain ⟨r1, h1, e1, s1⟩ := step i xs[i] r h (List.getElem?_eq_getElem hi) q
    dsimp only
    rw [e1]
    dsimp only
    rw [sat_thn]
    exact SR.sat_mono s1 (fun r2 h2 q2 => forG_sat I hget step k (i + 1) r2 h2 (by omega) q2) (fun _ _ z => z) fun _ _ _ z => z
theorem whileN_sat {c : EF} {b : SF} {R : PV → PH → Prop} {X : Exn → PEnv → PH → Prop} (I : Nat → PEnv → PH → Prop) (N : PEnv → PH → Prop)
    (step : ∀ k r h, I k r h → ∃ t h1, c r h = .ok (.bl t) h1 ∧ (t = false → N r h1) ∧ (t = true → ∃ j, k = j + 1 ∧ (b r h1).sat (I j) R X)) :
    ∀ (n k : Nat) (r : PEnv) (h : PH), k < n → I k r h → (whileN c b n r h).sat N R X
  | 0, _, _, _, h, _ => by omega
  | n + 1, k, r, h, hk, q => by
    unfold whileN
    obtain ⟨t, h1, e, q1, q2⟩ := step k r h q
    rw [e, toS_ok]
    cases t with
    | false => exact q1 rfl
    | true =>
      obtain ⟨j, rfl, s1⟩ := q2 rfl
      dsimp only
      rw [sat_thn]
      exact SR.sat_mono s1 (fun r2 h2 q3 => whileN_sat I N step n j r2 h2 (by omega) q3) (fun _ _ z => z) fun _ _ _ z => z
/-! ### comprehensions: with no test, and with one -/
theorem lcG_sat {get : Nat → PH → Option (Option PV)} {g : GF} {t e : EF} {r : PEnv} {d : Nat} {xs : List PV} {Q : PV → PH → Prop} {X : Exn → PH → Prop} (I : Nat → List PV → PH → Prop)
    (hget : ∀ i a h, I i a h → h[d]? = some (.lst a) → get i h = some (xs[i]?))
    (step : ∀ i x a h, xs[i]? = some x → I i a h → h[d]? = some (.lst a) → ∃ r1 h1 b h2, g x r h = .ok r1 h1 ∧ t r1 h1 = .ok (.bl b) h2 ∧ (b = false → I (i + 1) a h2 ∧ h2[d]? = some (.lst a)) ∧
      (b = true → ∃ y h3, e r1 h2 = .ok y h3 ∧ h3[d]? = some (.lst a) ∧ a.length < PySem.sizeLine ∧ I (i + 1) (a ++ [y]) (h3.set d (.lst (a ++ [y])))))
    (fin : ∀ a h, I xs.length a h → h[d]? = some (.lst a) → Q (.ref d) h) :
    ∀ (k i : Nat) (a : List PV) (h : PH), i + k = xs.length → I i a h → h[d]? = some (.lst a) → (lcG get g t e r d k i h).sat Q X
  | 0, i, a, h, e0, q, hd => by
    unfold lcG
    have e2 : i = xs.length := by omega
    subst e2
    rw [hget _ a h q hd]
    simp
    exact fin a h q hd
  | k + 1, i, a, h, e0, q, hd => by
    unfold lcG
    have hi : i < xs.length := by omega
    rw [hget i a h q hd, List.getElem?_eq_getElem hi]
    obtain ⟨r1, h1, b, h2, e1, e2, q1, q2⟩ := step i xs[i] a h (List.getElem?_eq_getElem hi) q hd
    dsimp only
    rw [e1]
    dsimp only
    rw [e2]
    cases b with
    | false => exact lcG_sat I hget step fin k (i + 1) a h2 (by omega) (q1 rfl).1 (q1 rfl).2
    | true =>
      obtain ⟨y, h3, e3, hd3, hl, q3⟩ := q2 rfl
      dsimp only
      rw [e3]
      dsimp only
      rw [hd3]
      dsimp only
      rw [if_pos hl]
      have hdl : d < h3.length := (List.getElem?_eq_some_iff.mp hd3).1
      exact lcG_sat I hget step fin k (i + 1) (a ++ [y]) _ (by omega) q3 (by simp [hdl])
/-! ### heaps that grow -/
theorem pfx_trans {a b c : PH} (h1 : a <+: b) (h2 : b <+: c) : a <+: c := h1.trans h2
theorem pfx_get {a b : PH} {n : Nat} {o : PO} (p : a <+: b) (h : a[n]? = some o) : b[n]? = some o := by
  obtain ⟨t, rfl⟩ := p
  rw [List.getElem?_append_left (List.getElem?_eq_some_iff.mp h).1]
  exact h
theorem pfx_app {a b t : PH} (p : a <+: b) : a <+: b ++ t := p.trans (List.prefix_append _ _)
theorem pfx_set {a b : PH} {n : Nat} {o : PO} (p : a <+: b) (h : a.length ≤ n) : a <+: b.set n o := by
  obtain ⟨t, rfl⟩ := p
  rw [List.set_append_right _ _ h]
  exact List.prefix_append _ _
theorem pfx_len {a b : PH} (p : a <+: b) : a.length ≤ b.length := p.length_le
theorem get_app {a t : PH} {n : Nat} {o : PO} (h : a[n]? = some o) : (a ++ t)[n]? = some o := pfx_get (List.prefix_append _ _) h
theorem get_lt {a : PH} {n : Nat} {o : PO} (h : a[n]? = some o) : n < a.length := (List.getElem?_eq_some_iff.mp h).1
@[simp] theorem get_new {a : PH} {o : PO} : (a ++ [o])[a.length]? = some o := by simp
end Z
/-! Zx: the primitives, reckoned; rows of an outline. -/
namespace Z
open L2 (atI ixN)
section
variable {h : PH} {n m : Nat} {xs ys : List PV} {x y z v : PV} {i j : Int} {s t : PySem.Str} {ep : Nat} {kvs : List (PV × PV)}
@[simp] theorem pAdd_i : pAdd (.int i) (.int j) h = some (.int (i + j), h) := rfl
@[simp] theorem pSub_i : pSub (.int i) (.int j) h = some (.int (i - j), h) := rfl
@[simp] theorem pNeg_i : pNeg (.int i) h = some (.int (-i), h) := rfl
@[simp] theorem pCmpI_i {p : Int → Int → Bool} : pCmpI p (.int i) (.int j) h = some (.bl (p i j), h) := rfl
theorem pMod_i (hj : 0 < j) : pMod (.int i) (.int j) h = some (.int (i % j), h) := by simp [pMod, hj]
theorem pDiv_i (hj : 0 < j) (hk : j < 1073741824) : pDiv (.int i) (.int j) h = some (.int (i / j), h) := by simp [pDiv, hj, hk]
theorem pMul_i (hj : inM j = true) : pMul (.int i) (.int j) h = some (.int (i * j), h) := by unfold pMul; simp [hj]
@[simp] theorem pEq_i : pEq (.int i) (.int j) h = some (.bl (decide (i = j)), h) := by simp [pEq, eqP, scalP]
@[simp] theorem pNe_i : pNe (.int i) (.int j) h = some (.bl (!decide (i = j)), h) := by simp [pNe, eqP, scalP]
@[simp] theorem pEq_s : pEq (.str s) (.str t) h = some (.bl (decide (s = t)), h) := by simp [pEq, eqP, scalP]
@[simp] theorem pEq_b {a b : Bool} : pEq (.bl a) (.bl b) h = some (.bl (decide (a = b)), h) := by simp [pEq, eqP, scalP]
@[simp] theorem pNe_b {a b : Bool} : pNe (.bl a) (.bl b) h = some (.bl (!decide (a = b)), h) := by simp [pNe, eqP, scalP]
@[simp] theorem pEq_ni : pEq .non (.int j) h = some (.bl false, h) := by simp [pEq, eqP, scalP]
@[simp] theorem pIsN_n : pIsN x .non h = some (.bl (isNon x), h) := rfl
@[simp] theorem pNotN_n : pNotN x .non h = some (.bl (!isNon x), h) := rfl
@[simp] theorem isNon_non : isNon .non = true := rfl
@[simp] theorem isNon_int : isNon (.int i) = false := rfl
@[simp] theorem isNon_ref : isNon (.ref n) = false := rfl
@[simp] theorem isNon_tup : isNon (.tup xs) = false := rfl
@[simp] theorem pIntOf_i : pIntOf [.int i] h = some (.int i, h) := rfl
@[simp] theorem pIntOf_b {b : Bool} : pIntOf [.bl b] h = some (.int (if b then 1 else 0), h) := rfl
@[simp] theorem pMax2_i : pMax2 [.int i, .int j] h = some (.int (if j > i then j else i), h) := rfl
@[simp] theorem pMin2_i : pMin2 [.int i, .int j] h = some (.int (if j < i then j else i), h) := rfl
/-! ### places -/
theorem listAt_l (e : h[n]? = some (.lst xs)) : listAt h n = some xs := by unfold listAt; rw [e]
theorem listAt_f (e : h[n]? = some (.frz xs)) : listAt h n = some xs := by unfold listAt; rw [e]
theorem dictOf_l (e : listAt h n = some xs) : dictOf h (.ref n) = none := by
  unfold dictOf listAt at *
  cases hn : h[n]? with
  | none => rw [hn] at e; cases e
  | some o => rw [hn] at e; dsimp only; rw [hn]; cases o <;> first | rfl | cases e
theorem dictOf_d (e : h[n]? = some (.dct ep kvs)) : dictOf h (.ref n) = some (n, ep, kvs) := by unfold dictOf; dsimp only; rw [e]
@[simp] theorem dictOf_t : dictOf h (.tup xs) = none := rfl
@[simp] theorem dictOf_s : dictOf h (.str s) = none := rfl
theorem atI_nat {α : Type} {l : List α} {k : Nat} {a : α} (e : l[k]? = some a) : atI l (k : Int) = some a := by
  have hk := (List.getElem?_eq_some_iff.mp e).1
  unfold atI ixN
  rw [if_pos (by omega), if_pos (by omega)]
  simpa using e
@[simp] theorem atI_0 {α : Type} {a : α} {l : List α} : atI (a :: l) 0 = some a := by
  have := atI_nat (l := a :: l) (k := 0) (a := a) rfl
  simpa using this
@[simp] theorem atI_1 {α : Type} {a b : α} {l : List α} : atI (a :: b :: l) 1 = some b := by
  have := atI_nat (l := a :: b :: l) (k := 1) (a := b) rfl
  simpa using this
@[simp] theorem atI_2 {α : Type} {a b c : α} {l : List α} : atI (a :: b :: c :: l) 2 = some c := by
  have := atI_nat (l := a :: b :: c :: l) (k := 2) (a := c) rfl
  simpa using this
@[simp] theorem atI_3 {α : Type} {a b c d : α} {l : List α} : atI (a :: b :: c :: d :: l) 3 = some d := by
  have := atI_nat (l := a :: b :: c :: d :: l) (k := 3) (a := d) rfl
  simpa using this
@[simp] theorem atI_4 {α : Type} {a b c d e : α} {l : List α} : atI (a :: b :: c :: d :: e :: l) 4 = some e := by
  have := atI_nat (l := a :: b :: c :: d :: e :: l) (k := 4) (a := e) rfl
  simpa using this
@[simp] theorem atI_5 {α : Type} {a b c d e f : α} {l : List α} : atI (a :: b :: c :: d :: e :: f :: l) 5 = some f := by
  have := atI_nat (l := a :: b :: c :: d :: e :: f :: l) (k := 5) (a := f) rfl
  simpa using this
@[simp] theorem pIxU_t : pIxU (.tup xs) (.int i) h = (atI xs i).map fun v => (v, h) := by
  unfold pIxU pIx
  simp [seqOf]
theorem pIxU_l (e : listAt h n = some xs) : pIxU (.ref n) (.int i) h = (atI xs i).map fun v => (v, h) := by
  unfold pIxU pIx
  rw [dictOf_l e]
  simp [seqOf, e]
theorem pIxU_d (e : h[n]? = some (.dct ep kvs)) (hk : kOk 8 y = true) (g : dGet kvs y = some v) : pIxU (.ref n) y h = some (v, h) := by
  unfold pIxU pIxD
  rw [dictOf_d e]
  simp [hk, g]
theorem pLen_l (e : listAt h n = some xs) : pLen [.ref n] h = some (.int xs.length, h) := by
  unfold pLen
  simp [seqOf, e]
theorem pList_l (e : listAt h n = some xs) : pList [.ref n] h = some (.ref h.length, h ++ [.lst xs]) := by
  unfold pList
  simp [seqOf, e]
theorem isLst_l (e : listAt h n = some xs) : isLst (.ref n) h = true := by simp [isLst, e]
theorem isDct_d (e : h[n]? = some (.dct ep kvs)) : isDct (.ref n) h = true := by simp [isDct, dictOf_d e]
theorem pAppend_l (e : h[n]? = some (.lst xs)) (hl : xs.length < PySem.sizeLine) : pAppend (.ref n) [y] h = some (.non, h.set n (.lst (xs ++ [y]))) := by
  unfold pAppend mutL
  simp [e, hl]
theorem pGet1 (e : h[n]? = some (.dct ep kvs)) (hk : kOk 8 y = true) : pGetD (.ref n) [y] h = some ((dGet kvs y).getD .non, h) := by
  unfold pGetD
  rw [dictOf_d e]
  simp [hk]
theorem pGet2 (e : h[n]? = some (.dct ep kvs)) (hk : kOk 8 y = true) : pGetD (.ref n) [y, z] h = some ((dGet kvs y).getD z, h) := by
  unfold pGetD
  rw [dictOf_d e]
  simp [hk]
theorem pSetU_d (e : h[n]? = some (.dct ep kvs)) (hk : kOk 8 x = true) (hl : kvs.length < PySem.sizeLine) : pSetU (.ref n) x y h = some (h.set n (.dct (if dHas kvs x then ep else ep + 1) (dPut kvs x y))) := by
  unfold pSetU pSetD setD
  rw [dictOf_d e]
  simp [hk, hl]
theorem pTup_ok (hl : xs.length ≤ PySem.sizeLine) : pTup xs h = some (.tup xs, h) := by unfold pTup; rw [if_pos hl]
theorem pLst_ok (hl : xs.length ≤ PySem.sizeLine) : pLst xs h = some (.ref h.length, h ++ [.lst xs]) := by unfold pLst; rw [if_pos hl]
theorem sz_le {k : Nat} (hk : k ≤ 1000) : k ≤ PySem.sizeLine := by rw [PySem.sizeLine_eq]; omega
theorem sz_lt {k : Nat} (hk : k ≤ 1000) : k < PySem.sizeLine := by rw [PySem.sizeLine_eq]; omega
@[simp] theorem pLst_nil : pLst [] h = some (.ref h.length, h ++ [.lst []]) := pLst_ok (Nat.zero_le _)
theorem kOk_int : kOk 8 (.int i) = true := rfl
end
/-! ### dicts -/
theorem find_put {k v k2 : PV} : ∀ (kvs : List (PV × PV)), (kvs.map fun p => if p.1 = k then (p.1, v) else p).find? (fun p => decide (p.1 = k2)) = if k2 = k then (kvs.find? fun p => decide (p.1 = k)).map (fun p => (p.1, v)) else kvs.find? fun p => decide (p.1 = k2)
  | [] => by simp
  | p :: r => by
    have ih := find_put (k := k) (v := v) (k2 := k2) r
    by_cases e : k2 = k
    · subst e
      rw [if_pos rfl] at ih ⊢
      by_cases hp : p.1 = k2
      · simp [hp]
      · simp [hp, ih]
    · rw [if_neg e] at ih ⊢
      by_cases hp : p.1 = k
      · have h2 : ¬ p.1 = k2 := fun z => e (z.symm.trans hp)
        simp only [List.map_cons, if_pos hp, List.find?_cons, decide_eq_false h2]
        exact ih
      · by_cases h2 : p.1 = k2
        · subst h2
          simp [hp]
        · simp only [List.map_cons, if_neg hp, List.find?_cons, decide_eq_false h2]
          exact ih
theorem dGet_put {kvs : List (PV × PV)} {k v k2 : PV} : dGet (dPut kvs k v) k2 = if k2 = k then some v else dGet kvs k2 := by
  unfold dPut
  by_cases hh : dHas kvs k = true
  · rw [if_pos hh]
    unfold dHas dGet at hh
    unfold dGet
    rw [find_put]
    by_cases e : k2 = k
    · subst e
      rw [if_pos rfl, if_pos rfl]
      cases hf : kvs.find? (fun p => decide (p.1 = k2)) with
      | none => rw [hf] at hh; cases hh
      | some q => rfl
    · rw [if_neg e, if_neg e]
  · rw [if_neg hh]
    unfold dHas dGet at hh
    unfold dGet
    rw [List.find?_append]
    by_cases e : k2 = k
    · subst e
      have : (kvs.find? fun p => decide (p.1 = k2)) = none := by
        cases hf : kvs.find? (fun p => decide (p.1 = k2)) with
        | none => rfl
        | some q => rw [hf] at hh; simp at hh
      rw [this]
      simp
    · have e' : ¬ k = k2 := fun z => e z.symm
      simp [e, e']
theorem dPut_len {kvs : List (PV × PV)} {k v : PV} : (dPut kvs k v).length ≤ kvs.length + 1 := by
  unfold dPut
  split <;> simp
/-! ### rows of an outline -/
structure Row where
  d : Nat
  n1 : Int
  n2 : Int
  t : PySem.Str
  dn : Bool
  who : Option Int
  fo : Bool
def whoV : Option Int → PV
  | none => .non
  | some i => .int i
def Row.nm (r : Row) : PV := .tup [.int r.n1, .int r.n2]
def Row.v (r : Row) : PV := .tup [.int r.d, r.nm, .str r.t, .bl r.dn, whoV r.who, .bl r.fo]
@[simp] theorem isNon_who {o : Option Int} : isNon (whoV o) = o.isNone := by cases o <;> rfl
end Z
/-! Zy: loops, by what is walked. -/
namespace Z
def X0 : Exn → PEnv → PH → Prop := fun _ _ _ => False
def X1 : Exn → PH → Prop := fun _ _ => False
theorem run_sat {n : Nat} {b : SF} {vs : List PV} {h : PH} {Q : PV → PH → Prop} (s : (b (vs.map some ++ List.replicate (n - vs.length) none) h).sat (fun _ h => Q .non h) Q X0) : (runF n b vs h).sat Q X1 := by
  unfold runF
  revert s
  cases b (vs.map some ++ List.replicate (n - vs.length) none) h with
  | nx r h => exact fun q => q
  | ret v h => exact fun q => q
  | exc e r h => exact fun q => q.elim
  | bad => exact fun q => q
theorem listAt_pfx {h h' : PH} {n : Nat} {xs : List PV} (p : h <+: h') (e : listAt h n = some xs) : listAt h' n = some xs := by
  unfold listAt at *
  cases hn : h[n]? with
  | none => rw [hn] at e; cases e
  | some o => rw [pfx_get p hn]; rw [hn] at e; exact e
theorem listAt_set {h : PH} {n m : Nat} {o : PO} {xs : List PV} (e : listAt h n = some xs) (ne : n ≠ m) : listAt (h.set m o) n = some xs := by
  unfold listAt at *
  rw [List.getElem?_set_ne (Ne.symm ne)]
  exact e
/-- behind a call that makes a list -/
def NewL (h : PH) (xs : List PV) (v : PV) (h' : PH) : Prop := h <+: h' ∧ ∃ m, v = .ref m ∧ h.length ≤ m ∧ h'[m]? = some (.lst xs)
/-- .. a value -/
def Val (h : PH) (x : PV) (v : PV) (h' : PH) : Prop := h <+: h' ∧ v = x
section
variable {f f2 : EF} {r : PEnv} {h : PH} {n n2 : Nat} {xs ys : List PV} {gt : GF} {b : SF} {N : PEnv → PH → Prop} {R : PV → PH → Prop} {X : Exn → PEnv → PH → Prop}
theorem for_enum (hf : f r h = .ok (.ref n) h) (hn : listAt h n = some xs) (I : Nat → PEnv → PH → Prop) (h0 : I 0 r h) (hI : ∀ i r g, I i r g → listAt g n = some xs)
    (step : ∀ i x r g, xs[i]? = some x → I i r g → ∃ r1 g1, gt (.tup [.int i, x]) r g = .ok r1 g1 ∧ (b r1 g1).sat (I (i + 1)) R X) (fin : ∀ r g, I xs.length r g → N r g) :
    (sFor (iEnumF (aCons f aNil)) gt b r h).sat N R X := by
  unfold sFor iEnumF
  simp only [aCons_ap, aNil_ap, bind_ok, hf, hn]
  refine SR.sat_mono (forG_sat (xs := xs.zipIdx.map fun p => .tup [.int p.2, p.1]) I (fun i r g q => ?_) (fun i x r g hx q => ?_) _ 0 r h ?_ h0) (fun r g q => fin r g ?_) (fun _ _ z => z) fun _ _ _ z => z
  · unfold srcEnum
    simp [seqOf, hI i r g q]
    cases xs[i]? <;> rfl
  · simp at hx
    obtain ⟨y, hy, rfl⟩ := hx
    exact step i y r g hy q
  · simp [srcEnum]
  · simpa using q
theorem for_seq {v : PV} {h0 : PH} (hf : f r h0 = .ok v h) (hn : seqOf h v = some xs) (I : Nat → PEnv → PH → Prop) (hi0 : I 0 r h) (hI : ∀ i r g, I i r g → seqOf g v = some xs)
    (step : ∀ i x r g, xs[i]? = some x → I i r g → ∃ r1 g1, gt x r g = .ok r1 g1 ∧ (b r1 g1).sat (I (i + 1)) R X) (fin : ∀ r g, I xs.length r g → N r g) :
    (sFor (iSeq f) gt b r h0).sat N R X := by
  unfold sFor iSeq
  simp only [bind_ok, hf, hn]
  refine SR.sat_mono (forG_sat (xs := xs) I (fun i r g q => ?_) (fun i x r g hx q => step i x r g hx q) _ 0 r h ?_ hi0) fin (fun _ _ z => z) fun _ _ _ z => z
  · unfold srcSeq
    simp [hI i r g q]
  · simp [srcSeq]
theorem inR_nat {k : Nat} (hk : k ≤ 1000) : inR (k : Int) = true := by
  have e : (2 : Int) ^ 62 = 4611686018427387904 := by decide +kernel
  unfold inR
  rw [e]
  exact decide_eq_true (And.intro (by omega) (by omega))
theorem for_rng1 {k : Nat} (hf : f r h = .ok (.int k) h) (hk : k ≤ 1000) (I : Nat → PEnv → PH → Prop) (h0 : I 0 r h)
    (step : ∀ i r g, i < k → I i r g → ∃ r1 g1, gt (.int i) r g = .ok r1 g1 ∧ (b r1 g1).sat (I (i + 1)) R X) (fin : ∀ r g, I k r g → N r g) :
    (sFor (iRng1 (aCons f aNil)) gt b r h).sat N R X := by
  have hs : iRng1 (aCons f aNil) r h = .ok (srcRng 0 (k : Int).toNat) h := by
    have e := inR_nat hk
    unfold iRng1
    rw [aCons_ap, hf, bind_ok, aNil_ap, bind_ok, bind_ok]
    show (if inR (k : Int) = true then (Res.ok (srcRng 0 (k : Int).toNat) h : Res Src) else .bad) = _
    rw [e]
    rfl
  unfold sFor
  rw [hs]
  dsimp only
  refine SR.sat_mono (forG_sat (xs := (List.range k).map fun i => .int (i : Nat)) I (fun i r g q => ?_) (fun i x r g hx q => ?_) _ 0 r h ?_ h0) (fun r g q => fin r g ?_) (fun _ _ z => z) fun _ _ _ z => z
  · unfold srcRng
    simp only [Int.toNat_natCast]
    by_cases hi : i < k
    · simp [hi]
    · simp [hi]
  · rw [List.getElem?_map] at hx
    by_cases hi : i < k
    · rw [List.getElem?_range hi] at hx
      cases hx
      exact step i r g hi q
    · rw [List.getElem?_eq_none (by simpa using hi)] at hx
      cases hx
  · simp [srcRng]
  · simpa using q
end
section
variable {f : EF} {r : PEnv} {h : PH} {n : Nat} {xs ys : List PV} {gt : GF} {t e : EF} {own : List Nat}
/-- [e for .. in list]: every one is taken -/
theorem lc_seq {v : PV} {h0 : PH} {Q : PV → PH → Prop} {X : Exn → PH → Prop} (hf : f r h0 = .ok v h) (hn : ∀ g, h <+: g → seqOf g v = some xs) (hl : xs.length ≤ 1000) (hy : ys.length = xs.length) (rel : PH → Prop)
    (step : ∀ (i : Nat) (x y : PV) (g : PH), xs[i]? = some x → ys[i]? = some y → h <+: g → rel g → ∃ r1, gt x (wipe r own) g = .ok r1 g ∧ t r1 g = .ok (.bl true) g ∧ ∃ g2, e r1 g = .ok y g2 ∧ g <+: g2 ∧ ∀ g3, rel (g2.set h.length g3))
    (hrel : rel (h ++ [.lst []])) (fin : ∀ (g : PH), h <+: g → rel g → g[h.length]? = some (.lst ys) → Q (.ref h.length) g) :
    (eLc (iSeq f) gt t e own r h0).sat Q X := by
  unfold eLc iSeq
  simp only [bind_ok, hf, hn h (List.prefix_rfl)]
  refine lcG_sat (xs := xs) (X := X) (fun i a g => h <+: g ∧ rel g ∧ a = ys.take i) (fun i a g q _ => ?_) (fun i x a g hx q hd => ?_) (fun a g q hd => ?_) _ 0 [] _ ?_ ?_ ?_
  · unfold srcSeq
    simp [hn g q.1]
  · obtain ⟨p, q, ha⟩ := q
    have hi : i < ys.length := by rw [hy]; exact (List.getElem?_eq_some_iff.mp hx).1
    obtain ⟨r1, e1, e2, g2, e3, p2, q3⟩ := step i x ys[i] g hx (List.getElem?_eq_getElem hi) p q
    refine ⟨r1, g, true, g, e1, e2, fun z => (nomatch z), fun _ => ⟨ys[i], g2, e3, pfx_get p2 hd, ?_, pfx_set (p.trans p2) (Nat.le_refl _), q3 _, ?_⟩⟩
    · subst ha
      rw [List.length_take]
      exact sz_lt (by omega)
    · subst ha
      rw [List.take_succ, List.getElem?_eq_getElem hi]
      rfl
  · obtain ⟨p, q, ha⟩ := q
    subst ha
    rw [← hy, List.take_length] at hd
    exact fin g p q hd
  · simp [srcSeq]
  · exact ⟨List.prefix_append _ _, hrel, by simp⟩
  · simp
end
end Z
namespace Z
theorem Res.get {α : Type} {r : Res α} {Q : α → PH → Prop} (s : r.sat Q X1) : ∃ a h, r = .ok a h ∧ Q a h := by
  cases r with
  | ok a h => exact ⟨a, h, rfl, s⟩
  | exc e h => exact s.elim
  | bad => exact s.elim
theorem pTup_n {xs : List PV} {h : PH} (hl : xs.length ≤ 1000) : pTup xs h = some (.tup xs, h) := pTup_ok (sz_le hl)
theorem pLst_n {xs : List PV} {h : PH} (hl : xs.length ≤ 1000) : pLst xs h = some (.ref h.length, h ++ [.lst xs]) := pLst_ok (sz_le hl)
theorem atI_lt {α : Type} {xs : List α} {i : Int} (h0 : 0 ≤ i) (h1 : i < xs.length) : ∃ a, L2.atI xs i = some a ∧ xs[i.toNat]? = some a := by
  have hk : i.toNat < xs.length := by omega
  refine ⟨xs[i.toNat], ?_, List.getElem?_eq_getElem hk⟩
  have := atI_nat (List.getElem?_eq_getElem hk)
  rwa [Int.toNat_of_nonneg h0] at this
theorem new_l {h : PH} {xs : List PV} : listAt (h ++ [.lst xs]) h.length = some xs := listAt_l (by simp)
end Z
namespace Z
theorem mulS_ok {s : PySem.Str} {n : Int} (hs : s.length ≤ 64) (h0 : 0 ≤ n) (h1 : n ≤ 1000) : mulS s n = some (PySem.Txt.mul s n) ∧ (PySem.Txt.mul s n).length = s.length * n.toNat := by
  have e1 : s.length * n.toNat ≤ 64 * 1000 := Nat.mul_le_mul hs (by omega)
  constructor
  · unfold mulS
    rw [if_pos]
    exact And.intro (by omega) (And.intro (by omega) (by omega))
  · have e := PyProof.Rows.len_mul s n
    rw [if_neg (by simpa using h0)] at e
    have e2 : ((s.length * n.toNat : Nat) : Int) = (s.length : Int) * n := by
      rw [Int.natCast_mul, Int.toNat_of_nonneg h0]
    omega
theorem pMul_s {s : PySem.Str} {n : Int} {h : PH} (hs : s.length ≤ 64) (h0 : 0 ≤ n) (h1 : n ≤ 1000) : pMul (.str s) (.int n) h = some (.str (PySem.Txt.mul s n), h) := by
  unfold pMul
  dsimp only
  rw [(mulS_ok hs h0 h1).1]
  rfl
theorem pAdd_s {s t : PySem.Str} {h : PH} (hl : s.length + t.length ≤ 10000) : pAdd (.str s) (.str t) h = some (.str (s ++ t), h) := by
  unfold pAdd
  dsimp only
  rw [if_pos]
  rw [PySem.sizeLine_eq]
  omega
end Z
namespace Z
theorem new_l2 {h : PH} {o : PO} {xs : List PV} : listAt (h ++ [o, .lst xs]) (h.length + 1) = some xs := by
  refine listAt_l ?_
  rw [List.getElem?_append_right (by omega)]
  simp
theorem new_l1 {h : PH} {o : PO} {xs : List PV} : listAt (h ++ [.lst xs, o]) h.length = some xs := by
  refine listAt_l ?_
  rw [List.getElem?_append_right (by omega)]
  simp
end Z
/-! Zv: ==, in, any, slices, reckoned. -/
namespace Z
open PySem (PyData)
theorem toD_s {h : PH} {k : Nat} {x : PV} : toD h (k + 1) x = match x with
    | .non => some .none
    | .bl b => some (.bool b)
    | .int i => some (.int i)
    | .str s => some (.str s)
    | .tup xs => (xs.mapM (toD h k)).map .tuple
    | .ref n => (listAt h n).bind fun xs => (xs.mapM (toD h k)).map .list := by cases x <;> rfl
theorem toD_int {h : PH} {k : Nat} {i : Int} : toD h (k + 1) (.int i) = some (.int i) := by rw [toD_s]
theorem toD_non {h : PH} {k : Nat} : toD h (k + 1) .non = some .none := by rw [toD_s]
theorem toD_bl {h : PH} {k : Nat} {b : Bool} : toD h (k + 1) (.bl b) = some (.bool b) := by rw [toD_s]
theorem toD_str {h : PH} {k : Nat} {s : PySem.Str} : toD h (k + 1) (.str s) = some (.str s) := by rw [toD_s]
theorem toD_tup {h : PH} {k : Nat} {xs : List PV} : toD h (k + 1) (.tup xs) = (xs.mapM (toD h k)).map .tuple := by rw [toD_s]
theorem toD_ref {h : PH} {k n : Nat} : toD h (k + 1) (.ref n) = (listAt h n).bind fun xs => (xs.mapM (toD h k)).map .list := by rw [toD_s]
theorem mapM_c {α β : Type} {f : α → Option β} {x : α} {xs : List α} {y : β} {ys : List β} (h : f x = some y) (t : xs.mapM f = some ys) : (x :: xs).mapM f = some (y :: ys) := by
  rw [List.mapM_cons, h, t]
  rfl
theorem mapM_n {α β : Type} {f : α → Option β} : ([] : List α).mapM f = some [] := by rw [List.mapM_nil]; rfl
theorem mapM_inv {α β : Type} {f : α → Option β} {x : α} {xs : List α} {zs : List β} (h : (x :: xs).mapM f = some zs) : ∃ y ys, f x = some y ∧ xs.mapM f = some ys ∧ zs = y :: ys := by
  rw [List.mapM_cons] at h
  cases hf : f x with
  | none => rw [hf] at h; cases h
  | some y =>
    rw [hf] at h
    cases ht : xs.mapM f with
    | none => rw [ht] at h; cases h
    | some ys => rw [ht] at h; cases h; exact ⟨y, ys, rfl, rfl, rfl⟩
theorem mapM_ex {α β : Type} {f : α → Option β} : ∀ {xs : List α}, (∀ x ∈ xs, ∃ y, f x = some y) → ∃ ys, xs.mapM f = some ys
  | [], _ => ⟨[], mapM_n⟩
  | x :: xs, h => by
    obtain ⟨y, hy⟩ := h x List.mem_cons_self
    obtain ⟨ys, hs⟩ := mapM_ex (xs := xs) fun z hz => h z (List.mem_cons_of_mem _ hz)
    exact ⟨y :: ys, mapM_c hy hs⟩
theorem mapM_map {α β γ : Type} {f : α → Option β} {g : γ → α} {k : γ → β} (h : ∀ x, f (g x) = some (k x)) : ∀ (xs : List γ), (xs.map g).mapM f = some (xs.map k)
  | [] => mapM_n
  | x :: xs => mapM_c (h x) (mapM_map h xs)
theorem eqv_self {h : PH} : ∀ (k : Nat) (x : PV) (d : PyData), toD h k x = some d → PyData.eqv d d = true
  | 0, x, d, e => by rw [toD] at e; cases e
  | k + 1, x, d, e => by
    have all : ∀ (xs : List PV) (ds : List PyData), xs.mapM (toD h k) = some ds → PyData.eqvAll ds ds = true := by
      intro xs
      induction xs with
      | nil => intro ds e; rw [mapM_n] at e; cases e; rw [PyData.eqvAll]
      | cons x xs ih =>
        intro ds e
        obtain ⟨y, ys, e1, e2, rfl⟩ := mapM_inv e
        rw [PyData.eqvAll, eqv_self k x y e1, ih ys e2]
        rfl
    rw [toD_s] at e
    cases x with
    | non => cases e; rw [PyData.eqv]
    | bl b => cases e; rw [PyData.eqv]; simp
    | int i => cases e; rw [PyData.eqv]; simp
    | str s => cases e; rw [PyData.eqv]; simp
    | tup xs =>
      dsimp only at e
      cases hm : xs.mapM (toD h k) with
      | none => rw [hm] at e; cases e
      | some ds => rw [hm] at e; cases e; rw [PyData.eqv]; exact all xs ds hm
    | ref n =>
      dsimp only at e
      cases hl : listAt h n with
      | none => rw [hl] at e; cases e
      | some xs =>
        rw [hl] at e
        dsimp only [Option.bind] at e
        cases hm : xs.mapM (toD h k) with
        | none => rw [hm] at e; cases e
        | some ds => rw [hm] at e; cases e; rw [PyData.eqv]; exact all xs ds hm
theorem eqP_D {h : PH} {x y : PV} {d e : PyData} (hs : scalP x y = false) (h1 : toD h (63 + 1) x = some d) (h2 : toD h (63 + 1) y = some e) : eqP x y h = some (PyData.eqv d e) := by
  have h1 : toD h 64 x = some d := h1
  have h2 : toD h 64 y = some e := h2
  unfold eqP
  rw [hs, h1, h2]
  rfl
theorem pEq_D {h : PH} {x y : PV} {d e : PyData} (hs : scalP x y = false) (h1 : toD h (63 + 1) x = some d) (h2 : toD h (63 + 1) y = some e) : pEq x y h = some (.bl (PyData.eqv d e), h) := by
  unfold pEq; rw [eqP_D hs h1 h2]; rfl
theorem pNe_D {h : PH} {x y : PV} {d e : PyData} (hs : scalP x y = false) (h1 : toD h (63 + 1) x = some d) (h2 : toD h (63 + 1) y = some e) : pNe x y h = some (.bl (!PyData.eqv d e), h) := by
  unfold pNe; rw [eqP_D hs h1 h2]; rfl
/-- two names -/
theorem toD_nm {h : PH} {k : Nat} {a b : Int} : toD h (k + 1 + 1) (.tup [.int a, .int b]) = some (.tuple [.int a, .int b]) := by
  rw [toD_tup, mapM_c (toD_int) (mapM_c toD_int mapM_n)]
  rfl
theorem eqv_nm {a b c d : Int} : PyData.eqv (.tuple [.int a, .int b]) (.tuple [.int c, .int d]) = (decide (a = c) && decide (b = d)) := by
  simp [PyData.eqv, PyData.eqvAll]
  rfl
theorem pEq_nm {h : PH} {a b c d : Int} : pEq (.tup [.int a, .int b]) (.tup [.int c, .int d]) h = some (.bl (decide (a = c) && decide (b = d)), h) := by
  rw [pEq_D rfl (toD_nm (k := 62)) (toD_nm (k := 62)), eqv_nm]
/-! lists of truths -/
theorem asBls_map : ∀ (bs : List Bool), asBls (bs.map PV.bl) = some bs
  | [] => rfl
  | b :: bs => by
    show asBls (.bl b :: bs.map PV.bl) = _
    unfold asBls
    rw [asBls_map bs]
    rfl
theorem pAny_l {h : PH} {n : Nat} {bs : List Bool} (e : listAt h n = some (bs.map PV.bl)) : pAny [.ref n] h = some (.bl (bs.any id), h) := by
  unfold pAny
  dsimp only
  rw [e]
  show ((asBls (bs.map PV.bl)).map _) = _
  rw [asBls_map]
  rfl
theorem pAll_l {h : PH} {n : Nat} {bs : List Bool} (e : listAt h n = some (bs.map PV.bl)) : pAll [.ref n] h = some (.bl (bs.all id), h) := by
  unfold pAll
  dsimp only
  rw [e]
  show ((asBls (bs.map PV.bl)).map _) = _
  rw [asBls_map]
  rfl
/-! slices -/
theorem cut_take {α : Type} {xs : List α} {d : Nat} : cutP xs none (some (d : Int)) = xs.take d := by
  unfold cutP HT.sIx
  dsimp only
  rw [if_neg (by omega), List.drop_zero, Int.toNat_natCast, Nat.sub_zero, ← List.take_eq_take_min]
theorem pSlc_take {h : PH} {n d : Nat} {xs : List PV} (e : listAt h n = some xs) : pSlc (.ref n) none (some (d : Int)) h = some (.ref h.length, h ++ [.lst (xs.take d)]) := by
  unfold pSlc
  dsimp only
  rw [e]
  show some (PV.ref h.length, h ++ [.lst (cutP xs none (some (d : Int)))]) = _
  rw [cut_take]
/-! in -/
theorem inP_l {h : PH} {n : Nat} {x : PV} {xs : List PV} {d : PyData} {ds : List PyData} (e : listAt h n = some xs) (h1 : toD h (63 + 1) x = some d) (h2 : xs.mapM (toD h 63) = some ds) : inP x (.ref n) h = some (ds.any fun z => PyData.eqv z d) := by
  have h1 : toD h 64 x = some d := h1
  unfold inP
  dsimp only
  rw [e]
  show (match toD h 64 x, xs.mapM (toD h 63) with
    | some d, some ds => some (ds.any fun z => PyData.eqv z d)
    | _, _ => none) = _
  rw [h1, h2]
theorem pInU_l {h : PH} {n : Nat} {x : PV} {xs : List PV} {d : PyData} {ds : List PyData} (e : listAt h n = some xs) (h1 : toD h (63 + 1) x = some d) (h2 : xs.mapM (toD h 63) = some ds) : pInU x (.ref n) h = some (.bl (ds.any fun z => PyData.eqv z d), h) := by
  unfold pInU
  rw [dictOf_l e]
  unfold pIn
  rw [inP_l e h1 h2]
  rfl
theorem pNotInU_l {h : PH} {n : Nat} {x : PV} {xs : List PV} {d : PyData} {ds : List PyData} (e : listAt h n = some xs) (h1 : toD h (63 + 1) x = some d) (h2 : xs.mapM (toD h 63) = some ds) : pNotInU x (.ref n) h = some (.bl (!ds.any fun z => PyData.eqv z d), h) := by
  unfold pNotInU
  rw [dictOf_l e]
  unfold pNotIn
  rw [inP_l e h1 h2]
  rfl
@[simp] theorem pInU_s {h : PH} {s t : PySem.Str} : pInU (.str s) (.str t) h = some (.bl (occS s t), h) := rfl
end Z
/-! K50: the pure functions of the law k50. Printed by gen.py. -/
namespace Z.K50
open PySem L2
open Z (PV PO PH FF SF EF AF)
def B__law_text : Z.SF := (Z.sSeq (Z.sAsg (Z.eArg Z.pLst (Z.aCons (Z.eC (.str "")) (Z.aCons (Z.eC (.str "a")) (Z.aCons (Z.eC (.str "b")) (Z.aCons (Z.eC (.str "ab")) (Z.aCons (Z.eC (.str "b a")) (Z.aCons (Z.eC (.str "a b c")) (Z.aCons (Z.eC (.str "B")) (Z.aCons (Z.eC (.str "ab ab")) (Z.aCons (Z.eC (.str "or")) (Z.aCons (Z.eC (.str "not a")) (Z.aCons (Z.eC (.str "( a )")) (Z.aCons (Z.eC (.str "a(b")) Z.aNil))))))))))))) (Z.gName 1)) (Z.sSeq (Z.sIf (Z.eBin Z.pEq (Z.eBin Z.pMod (Z.eBin Z.pDiv (Z.eVar 0) (Z.eC (.int 12))) (Z.eC (.int 5))) (Z.eC (.int 4))) (Z.sRet (Z.eBin Z.pAdd (Z.eBin Z.pAdd (Z.eBin Z.pMul (Z.eC (.str "a")) (Z.eBin Z.pMod (Z.eBin Z.pDiv (Z.eVar 0) (Z.eC (.int 60))) (Z.eC (.int 30)))) (Z.eBin Z.pIxU (Z.eVar 1) (Z.eBin Z.pMod (Z.eVar 0) (Z.eC (.int 12))))) (Z.eBin Z.pMul (Z.eC (.str "b")) (Z.eBin Z.pMod (Z.eBin Z.pDiv (Z.eVar 0) (Z.eC (.int 60))) (Z.eC (.int 30)))))) Z.sNx) (Z.sRet (Z.eBin Z.pIxU (Z.eVar 1) (Z.eBin Z.pMod (Z.eVar 0) (Z.eC (.int 12)))))))
@[irreducible] def F__law_text : Z.FF := Z.runF 2 B__law_text
def L1__law_rows : Z.SF := (Z.sSeq (Z.sAsg (Z.eBin Z.pMod (Z.eBin Z.pMul (Z.eBin Z.pMod (Z.eVar 4) (Z.eC (.int 1000003))) (Z.eC (.int 48271))) (Z.eC (.int 2147483647))) (Z.gName 5)) (Z.sSeq (Z.sAsg (Z.eBin Z.pSub (Z.eVar 2) (Z.eArg Z.pMin2 (Z.aCons (Z.eBin Z.pMod (Z.eVar 4) (Z.eC (.int 4))) (Z.aCons (Z.eVar 2) Z.aNil)))) (Z.gName 6)) (Z.sSeq (Z.sAsg (Z.eArg Z.pTup (Z.aCons (Z.eBin Z.pMod (Z.eVar 5) (Z.eC (.int 8))) (Z.aCons (Z.eBin Z.pAdd (Z.eC (.int 1)) (Z.eBin Z.pIxU (Z.eArg Z.pLst (Z.aCons (Z.eVar 3) (Z.aCons (Z.eBin Z.pSub (Z.eC (.int 200)) (Z.eVar 3)) Z.aNil))) (Z.eBin Z.pMod (Z.eBin Z.pDiv (Z.eVar 5) (Z.eC (.int 8))) (Z.eC (.int 2))))) Z.aNil))) (Z.gName 7)) (Z.sSeq (Z.sAsg (Z.eBin Z.pIxU (Z.eArg Z.pLst (Z.aCons (Z.eC .non) (Z.aCons (Z.eBin Z.pMod (Z.eBin Z.pDiv (Z.eVar 5) (Z.eC (.int 64))) (Z.eC (.int 8))) Z.aNil))) (Z.eArg Z.pIntOf (Z.aCons (Z.eBin (Z.pCmpI fun i j => decide (j < i)) (Z.eBin Z.pMod (Z.eBin Z.pDiv (Z.eVar 5) (Z.eC (.int 16))) (Z.eC (.int 3))) (Z.eC (.int 0))) Z.aNil))) (Z.gName 8)) (Z.sSeq (Z.sExpr (Z.eBM Z.isLst Z.pAppend (Z.eVar 1) (Z.aCons (Z.eArg Z.pTup (Z.aCons (Z.eVar 6) (Z.aCons (Z.eVar 7) (Z.aCons (Z.eCall F__law_text (Z.aCons (Z.eBin Z.pDiv (Z.eVar 4) (Z.eC (.int 4))) Z.aNil)) (Z.aCons (Z.eBin Z.pEq (Z.eBin Z.pMod (Z.eBin Z.pDiv (Z.eVar 5) (Z.eC (.int 48))) (Z.eC (.int 2))) (Z.eC (.int 1))) (Z.aCons (Z.eVar 8) (Z.aCons (Z.eBin Z.pEq (Z.eBin Z.pMod (Z.eBin Z.pDiv (Z.eVar 5) (Z.eC (.int 96))) (Z.eC (.int 3))) (Z.eC (.int 1))) Z.aNil))))))) Z.aNil))) (Z.sAsg (Z.eBin Z.pAdd (Z.eVar 6) (Z.eC (.int 1))) (Z.gName 2)))))))
def B__law_rows : Z.SF := (Z.sSeq (Z.sAsg (Z.eArg Z.pLst Z.aNil) (Z.gName 1)) (Z.sSeq (Z.sAsg (Z.eC (.int 0)) (Z.gName 2)) (Z.sSeq (Z.sFor (Z.iEnumF (Z.aCons (Z.eVar 0) Z.aNil)) (Z.gTup 2 (Z.gsCons (Z.gName 3) (Z.gsCons (Z.gName 4) Z.gsNil))) L1__law_rows) (Z.sRet (Z.eVar 1)))))
@[irreducible] def F__law_rows : Z.FF := Z.runF 9 B__law_rows
def L1__law_ups : Z.SF := (Z.sSeq (Z.sExpr (Z.eBM Z.isLst Z.pAppend (Z.eVar 2) (Z.aCons (Z.eBM Z.isDct Z.pGetD (Z.eVar 1) (Z.aCons (Z.eBin Z.pSub (Z.eBin Z.pIxU (Z.eVar 4) (Z.eC (.int 0))) (Z.eC (.int 1))) Z.aNil)) Z.aNil))) (Z.sAsg (Z.eVar 3) (Z.gSub Z.pSetU (Z.eVar 1) (Z.eBin Z.pIxU (Z.eVar 4) (Z.eC (.int 0))))))
def B__law_ups : Z.SF := (Z.sSeq (Z.sAsg Z.eNewD (Z.gName 1)) (Z.sSeq (Z.sAsg (Z.eArg Z.pLst Z.aNil) (Z.gName 2)) (Z.sSeq (Z.sFor (Z.iEnumF (Z.aCons (Z.eVar 0) Z.aNil)) (Z.gTup 2 (Z.gsCons (Z.gName 3) (Z.gsCons (Z.gName 4) Z.gsNil))) L1__law_ups) (Z.sRet (Z.eVar 2)))))
@[irreducible] def F__law_ups : Z.FF := Z.runF 5 B__law_ups
def B__law_atom : Z.SF := (Z.sSeq (Z.sAsg (Z.eBin Z.pMod (Z.eVar 0) (Z.eC (.int 10))) (Z.gName 2)) (Z.sSeq (Z.sAsg (Z.eBin Z.pDiv (Z.eVar 0) (Z.eC (.int 10))) (Z.gName 3)) (Z.sSeq (Z.sIf (Z.eBin (Z.pCmpI fun i j => decide (i < j)) (Z.eVar 2) (Z.eC (.int 6))) (Z.sRet (Z.eArg Z.pTup (Z.aCons (Z.eBin Z.pIxU (Z.eArg Z.pLst (Z.aCons (Z.eC (.str "all")) (Z.aCons (Z.eC (.str "done")) (Z.aCons (Z.eC (.str "folded")) (Z.aCons (Z.eC (.str "free")) (Z.aCons (Z.eC (.str "leaf")) (Z.aCons (Z.eC (.str "seen")) Z.aNil))))))) (Z.eVar 2)) Z.aNil))) Z.sNx) (Z.sSeq (Z.sIf (Z.eBin Z.pEq (Z.eVar 2) (Z.eC (.int 6))) (Z.sRet (Z.eArg Z.pTup (Z.aCons (Z.eC (.str "due")) (Z.aCons (Z.eBin Z.pIxU (Z.eArg Z.pLst (Z.aCons (Z.eBin Z.pMod (Z.eVar 3) (Z.eC (.int 8))) (Z.aCons (Z.eBin Z.pMod (Z.eVar 3) (Z.eBin Z.pPow (Z.eC (.int 10)) (Z.eC (.int 20)))) Z.aNil))) (Z.eArg Z.pIntOf (Z.aCons (Z.eBin Z.pEq (Z.eBin Z.pMod (Z.eBin Z.pDiv (Z.eVar 3) (Z.eC (.int 8))) (Z.eC (.int 4))) (Z.eC (.int 3))) Z.aNil))) Z.aNil)))) Z.sNx) (Z.sSeq (Z.sIf (Z.eBin Z.pEq (Z.eVar 2) (Z.eC (.int 7))) (Z.sRet (Z.eArg Z.pTup (Z.aCons (Z.eC (.str "depth")) (Z.aCons (Z.eBin Z.pIxU (Z.eArg Z.pLst (Z.aCons (Z.eBin Z.pMod (Z.eVar 3) (Z.eC (.int 4))) (Z.aCons (Z.eBin Z.pMod (Z.eVar 3) (Z.eBin Z.pPow (Z.eC (.int 10)) (Z.eC (.int 20)))) Z.aNil))) (Z.eArg Z.pIntOf (Z.aCons (Z.eBin Z.pEq (Z.eBin Z.pMod (Z.eBin Z.pDiv (Z.eVar 3) (Z.eC (.int 8))) (Z.eC (.int 4))) (Z.eC (.int 3))) Z.aNil))) Z.aNil)))) Z.sNx) (Z.sSeq (Z.sIf (Z.eAnd (Z.eBin Z.pEq (Z.eVar 2) (Z.eC (.int 8))) (Z.eAnd (Z.eBin Z.pNe (Z.eVar 1) (Z.eArg Z.pLst Z.aNil)) (Z.eBin (Z.pCmpI fun i j => decide (j < i)) (Z.eBin Z.pMod (Z.eVar 3) (Z.eC (.int 4))) (Z.eC (.int 0))))) (Z.sRet (Z.eArg Z.pTup (Z.aCons (Z.eC (.str "beneath")) (Z.aCons (Z.eBin Z.pIxU (Z.eVar 1) (Z.eBin Z.pMod (Z.eBin Z.pDiv (Z.eVar 3) (Z.eC (.int 4))) (Z.eArg Z.pLen (Z.aCons (Z.eVar 1) Z.aNil)))) Z.aNil)))) Z.sNx) (Z.sSeq (Z.sIf (Z.eBin Z.pEq (Z.eVar 2) (Z.eC (.int 8))) (Z.sRet (Z.eArg Z.pTup (Z.aCons (Z.eC (.str "beneath")) (Z.aCons (Z.eArg Z.pTup (Z.aCons (Z.eBin Z.pMod (Z.eBin Z.pDiv (Z.eVar 3) (Z.eC (.int 4))) (Z.eC (.int 9))) (Z.aCons (Z.eBin Z.pAdd (Z.eC (.int 1)) (Z.eBin Z.pMod (Z.eBin Z.pDiv (Z.eVar 3) (Z.eC (.int 36))) (Z.eBin Z.pPow (Z.eC (.int 10)) (Z.eC (.int 20))))) Z.aNil))) Z.aNil)))) Z.sNx) (Z.sRet (Z.eArg Z.pTup (Z.aCons (Z.eC (.str "says")) (Z.aCons (Z.eBin Z.pIxU (Z.eArg Z.pLst (Z.aCons (Z.eC (.str "a")) (Z.aCons (Z.eC (.str "b")) (Z.aCons (Z.eC (.str "ab")) (Z.aCons (Z.eC (.str "or")) (Z.aCons (Z.eC (.str "A")) (Z.aCons (Z.eC (.str "not")) (Z.aCons (Z.eC (.str "(")) (Z.aCons (Z.eC (.str "aa")) (Z.aCons (Z.eC (.str "B")) (Z.aCons (Z.eC (.str ")")) (Z.aCons (Z.eC (.str "by")) (Z.aCons (Z.eC (.str "x")) Z.aNil))))))))))))) (Z.eBin Z.pMod (Z.eVar 3) (Z.eC (.int 12)))) Z.aNil)))))))))))
@[irreducible] def F__law_atom : Z.FF := Z.runF 4 B__law_atom
def L1_leaves : Z.SF := (Z.sExpr (Z.eBM Z.isLst Z.pAppend (Z.eVar 1) (Z.aCons (Z.eOr (Z.eBin Z.pEq (Z.eBin Z.pAdd (Z.eVar 2) (Z.eC (.int 1))) (Z.eArg Z.pLen (Z.aCons (Z.eVar 0) Z.aNil))) (Z.eBin (Z.pCmpI fun i j => decide (i ≤ j)) (Z.eBin Z.pIxU (Z.eBin Z.pIxU (Z.eVar 0) (Z.eBin Z.pAdd (Z.eVar 2) (Z.eC (.int 1)))) (Z.eC (.int 0))) (Z.eBin Z.pIxU (Z.eVar 3) (Z.eC (.int 0))))) Z.aNil)))
def B_leaves : Z.SF := (Z.sSeq (Z.sAsg (Z.eArg Z.pLst Z.aNil) (Z.gName 1)) (Z.sSeq (Z.sFor (Z.iEnumF (Z.aCons (Z.eVar 0) Z.aNil)) (Z.gTup 2 (Z.gsCons (Z.gName 2) (Z.gsCons (Z.gName 3) Z.gsNil))) L1_leaves) (Z.sRet (Z.eVar 1))))
@[irreducible] def F_leaves : Z.FF := Z.runF 4 B_leaves
def L1_unhidden : Z.SF := (Z.sSeq (Z.sAsg (Z.eSl Z.pSlc (Z.eVar 1) Z.oNo (Z.oPart (Z.eBin Z.pIxU (Z.eVar 3) (Z.eC (.int 0))))) (Z.gName 1)) (Z.sSeq (Z.sExpr (Z.eBM Z.isLst Z.pAppend (Z.eVar 2) (Z.aCons (Z.eNot (Z.eArg Z.pAny (Z.aCons (Z.eVar 1) Z.aNil))) Z.aNil))) (Z.sExpr (Z.eBM Z.isLst Z.pAppend (Z.eVar 1) (Z.aCons (Z.eBin Z.pIxU (Z.eVar 3) (Z.eC (.int 5))) Z.aNil)))))
def B_unhidden : Z.SF := (Z.sSeq (Z.sAsg (Z.eArg Z.pLst Z.aNil) (Z.gName 1)) (Z.sSeq (Z.sAsg (Z.eArg Z.pLst Z.aNil) (Z.gName 2)) (Z.sSeq (Z.sFor (Z.iSeq (Z.eVar 0)) (Z.gName 3) L1_unhidden) (Z.sRet (Z.eVar 2)))))
@[irreducible] def F_unhidden : Z.FF := Z.runF 4 B_unhidden
def L1_under : Z.SF := (Z.sSeq (Z.sIf (Z.eAnd (Z.eBin Z.pNotN (Z.eVar 2) (Z.eC .non)) (Z.eBin (Z.pCmpI fun i j => decide (i ≤ j)) (Z.eBin Z.pIxU (Z.eVar 4) (Z.eC (.int 0))) (Z.eVar 2))) (Z.sAsg (Z.eC .non) (Z.gName 2)) Z.sNx) (Z.sSeq (Z.sExpr (Z.eBM Z.isLst Z.pAppend (Z.eVar 3) (Z.aCons (Z.eBin Z.pNotN (Z.eVar 2) (Z.eC .non)) Z.aNil))) (Z.sIf (Z.eBin Z.pEq (Z.eBin Z.pIxU (Z.eVar 4) (Z.eC (.int 1))) (Z.eVar 0)) (Z.sAsg (Z.eBin Z.pIxU (Z.eVar 4) (Z.eC (.int 0))) (Z.gName 2)) Z.sNx)))
def B_under : Z.SF := (Z.sSeq (Z.sAsg (Z.eC .non) (Z.gName 2)) (Z.sSeq (Z.sAsg (Z.eArg Z.pLst Z.aNil) (Z.gName 3)) (Z.sSeq (Z.sFor (Z.iSeq (Z.eVar 1)) (Z.gName 4) L1_under) (Z.sRet (Z.eVar 3)))))
@[irreducible] def F_under : Z.FF := Z.runF 5 B_under
def B_fits_alone : Z.SF := (Z.sSeq (Z.sAsg (Z.eBin Z.pIxU (Z.eVar 0) (Z.eC (.int 0))) (Z.gName 2)) (Z.sSeq (Z.sIf (Z.eBin Z.pEq (Z.eVar 2) (Z.eC (.str "done"))) (Z.sRet (Z.eBin Z.pIxU (Z.eVar 1) (Z.eC (.int 3)))) Z.sNx) (Z.sSeq (Z.sIf (Z.eBin Z.pEq (Z.eVar 2) (Z.eC (.str "folded"))) (Z.sRet (Z.eBin Z.pIxU (Z.eVar 1) (Z.eC (.int 5)))) Z.sNx) (Z.sSeq (Z.sIf (Z.eBin Z.pEq (Z.eVar 2) (Z.eC (.str "free"))) (Z.sRet (Z.eBin Z.pIsN (Z.eBin Z.pIxU (Z.eVar 1) (Z.eC (.int 4))) (Z.eC .non))) Z.sNx) (Z.sSeq (Z.sIf (Z.eBin Z.pEq (Z.eVar 2) (Z.eC (.str "due"))) (Z.sRet (Z.eBin Z.pEq (Z.eBin Z.pIxU (Z.eVar 1) (Z.eC (.int 4))) (Z.eBin Z.pIxU (Z.eVar 0) (Z.eC (.int 1))))) Z.sNx) (Z.sSeq (Z.sIf (Z.eBin Z.pEq (Z.eVar 2) (Z.eC (.str "depth"))) (Z.sRet (Z.eBin (Z.pCmpI fun i j => decide (i ≤ j)) (Z.eBin Z.pIxU (Z.eVar 1) (Z.eC (.int 0))) (Z.eBin Z.pIxU (Z.eVar 0) (Z.eC (.int 1))))) Z.sNx) (Z.sSeq (Z.sIf (Z.eBin Z.pEq (Z.eVar 2) (Z.eC (.str "says"))) (Z.sRet (Z.eBin Z.pInU (Z.eBin Z.pIxU (Z.eVar 0) (Z.eC (.int 1))) (Z.eBin Z.pIxU (Z.eVar 1) (Z.eC (.int 2))))) Z.sNx) (Z.sRet (Z.eC (.bl true))))))))))
@[irreducible] def F_fits_alone : Z.FF := Z.runF 3 B_fits_alone
def B_fitting (F : Z.FF) : Z.SF := (Z.sSeq (Z.sAsg (Z.eBin Z.pIxU (Z.eVar 0) (Z.eC (.int 0))) (Z.gName 2)) (Z.sSeq (Z.sIf (Z.eOr (Z.eBin Z.pEq (Z.eVar 2) (Z.eC (.str "and"))) (Z.eBin Z.pEq (Z.eVar 2) (Z.eC (.str "or")))) (Z.sSeq (Z.sAsg (Z.eLc (Z.iSeq (Z.eBin Z.pIxU (Z.eVar 0) (Z.eC (.int 1)))) (Z.gName 5) (Z.eC (.bl true)) (Z.eCall F (Z.aCons (Z.eVar 5) (Z.aCons (Z.eVar 1) Z.aNil))) [5]) (Z.gName 3)) (Z.sSeq (Z.sIf (Z.eBin Z.pEq (Z.eVar 2) (Z.eC (.str "and"))) (Z.sRet (Z.eLc (Z.iRng1 (Z.aCons (Z.eArg Z.pLen (Z.aCons (Z.eVar 1) Z.aNil)) Z.aNil)) (Z.gName 6) (Z.eC (.bl true)) (Z.eArg Z.pAll (Z.aCons (Z.eLc (Z.iSeq (Z.eVar 3)) (Z.gName 5) (Z.eC (.bl true)) (Z.eBin Z.pIxU (Z.eVar 5) (Z.eVar 6)) [5]) Z.aNil)) [6])) Z.sNx) (Z.sRet (Z.eLc (Z.iRng1 (Z.aCons (Z.eArg Z.pLen (Z.aCons (Z.eVar 1) Z.aNil)) Z.aNil)) (Z.gName 6) (Z.eC (.bl true)) (Z.eArg Z.pAny (Z.aCons (Z.eLc (Z.iSeq (Z.eVar 3)) (Z.gName 5) (Z.eC (.bl true)) (Z.eBin Z.pIxU (Z.eVar 5) (Z.eVar 6)) [5]) Z.aNil)) [6])))) Z.sNx) (Z.sSeq (Z.sIf (Z.eBin Z.pEq (Z.eVar 2) (Z.eC (.str "not"))) (Z.sRet (Z.eLc (Z.iSeq (Z.eCall F (Z.aCons (Z.eBin Z.pIxU (Z.eVar 0) (Z.eC (.int 1))) (Z.aCons (Z.eVar 1) Z.aNil)))) (Z.gName 7) (Z.eC (.bl true)) (Z.eNot (Z.eVar 7)) [7])) Z.sNx) (Z.sSeq (Z.sIf (Z.eBin Z.pEq (Z.eVar 2) (Z.eC (.str "leaf"))) (Z.sRet (Z.eCall F_leaves (Z.aCons (Z.eVar 1) Z.aNil))) Z.sNx) (Z.sSeq (Z.sIf (Z.eBin Z.pEq (Z.eVar 2) (Z.eC (.str "seen"))) (Z.sRet (Z.eCall F_unhidden (Z.aCons (Z.eVar 1) Z.aNil))) Z.sNx) (Z.sSeq (Z.sIf (Z.eBin Z.pEq (Z.eVar 2) (Z.eC (.str "beneath"))) (Z.sRet (Z.eCall F_under (Z.aCons (Z.eBin Z.pIxU (Z.eVar 0) (Z.eC (.int 1))) (Z.aCons (Z.eVar 1) Z.aNil)))) Z.sNx) (Z.sRet (Z.eLc (Z.iSeq (Z.eVar 1)) (Z.gName 4) (Z.eC (.bl true)) (Z.eCall F_fits_alone (Z.aCons (Z.eVar 0) (Z.aCons (Z.eVar 4) Z.aNil))) [4]))))))))
def F_fitting : Nat → Z.FF
  | 0 => fun _ _ => .bad
  | n + 1 => Z.runF 8 (B_fitting (F_fitting n))
def B__law_cell_at : Z.SF := (Z.sSeq (Z.sIf (Z.eBin (Z.pCmpI fun i j => decide (i < j)) (Z.eVar 1) (Z.eArg Z.pLen (Z.aCons (Z.eVar 0) Z.aNil))) (Z.sRet (Z.eBin Z.pIxU (Z.eVar 0) (Z.eVar 1))) Z.sNx) (Z.sRet (Z.eC (.int 0))))
@[irreducible] def F__law_cell_at : Z.FF := Z.runF 2 B__law_cell_at
def L1__law_above : Z.SF := (Z.sSeq (Z.sAsg (Z.eBin Z.pIxU (Z.eVar 1) (Z.eVar 0)) (Z.gName 0)) (Z.sExpr (Z.eBM Z.isLst Z.pAppend (Z.eVar 2) (Z.aCons (Z.eVar 0) Z.aNil))))
def C1__law_above : Z.EF := (Z.eBin Z.pNotN (Z.eBin Z.pIxU (Z.eVar 1) (Z.eVar 0)) (Z.eC .non))
def B__law_above : Z.SF := (Z.sSeq (Z.sAsg (Z.eArg Z.pLst Z.aNil) (Z.gName 2)) (Z.sSeq (Z.sWhile C1__law_above L1__law_above) (Z.sRet (Z.eVar 2))))
@[irreducible] def F__law_above : Z.FF := Z.runF 3 B__law_above
def B__law_fits : Z.SF := (Z.sSeq (Z.sAsg (Z.eBin Z.pIxU (Z.eVar 0) (Z.eC (.int 0))) (Z.gName 4)) (Z.sSeq (Z.sAsg (Z.eBin Z.pIxU (Z.eVar 2) (Z.eVar 1)) (Z.gName 5)) (Z.sSeq (Z.sIf (Z.eBin Z.pEq (Z.eVar 4) (Z.eC (.str "beneath"))) (Z.sRet (Z.eBin Z.pInU (Z.eBin Z.pIxU (Z.eVar 0) (Z.eC (.int 1))) (Z.eLc (Z.iSeq (Z.eCall F__law_above (Z.aCons (Z.eVar 1) (Z.aCons (Z.eVar 3) Z.aNil)))) (Z.gName 6) (Z.eC (.bl true)) (Z.eBin Z.pIxU (Z.eBin Z.pIxU (Z.eVar 2) (Z.eVar 6)) (Z.eC (.int 1))) [6]))) Z.sNx) (Z.sSeq (Z.sIf (Z.eBin Z.pEq (Z.eVar 4) (Z.eC (.str "seen"))) (Z.sRet (Z.eBin Z.pNotInU (Z.eC (.bl true)) (Z.eLc (Z.iSeq (Z.eCall F__law_above (Z.aCons (Z.eVar 1) (Z.aCons (Z.eVar 3) Z.aNil)))) (Z.gName 6) (Z.eC (.bl true)) (Z.eBin Z.pIxU (Z.eBin Z.pIxU (Z.eVar 2) (Z.eVar 6)) (Z.eC (.int 5))) [6]))) Z.sNx) (Z.sSeq (Z.sIf (Z.eBin Z.pEq (Z.eVar 4) (Z.eC (.str "leaf"))) (Z.sRet (Z.eBin Z.pNotInU (Z.eVar 1) (Z.eVar 3))) Z.sNx) (Z.sSeq (Z.sIf (Z.eBin Z.pEq (Z.eVar 4) (Z.eC (.str "says"))) (Z.sRet (Z.eBin Z.pInU (Z.eBin Z.pIxU (Z.eVar 0) (Z.eC (.int 1))) (Z.eBin Z.pIxU (Z.eVar 5) (Z.eC (.int 2))))) Z.sNx) (Z.sSeq (Z.sIf (Z.eBin Z.pEq (Z.eVar 4) (Z.eC (.str "due"))) (Z.sRet (Z.eAnd (Z.eBin Z.pNotN (Z.eBin Z.pIxU (Z.eVar 5) (Z.eC (.int 4))) (Z.eC .non)) (Z.eBin Z.pEq (Z.eBin Z.pIxU (Z.eVar 5) (Z.eC (.int 4))) (Z.eBin Z.pIxU (Z.eVar 0) (Z.eC (.int 1)))))) Z.sNx) (Z.sSeq (Z.sIf (Z.eBin Z.pEq (Z.eVar 4) (Z.eC (.str "depth"))) (Z.sRet (Z.eBin (Z.pCmpI fun i j => decide (i ≤ j)) (Z.eBin Z.pIxU (Z.eVar 5) (Z.eC (.int 0))) (Z.eBin Z.pIxU (Z.eVar 0) (Z.eC (.int 1))))) Z.sNx) (Z.sRet (Z.eBin Z.pIxU (Z.eDisp [((Z.eC (.str "all")), (Z.eC (.bl true))), ((Z.eC (.str "done")), (Z.eBin Z.pIxU (Z.eVar 5) (Z.eC (.int 3)))), ((Z.eC (.str "folded")), (Z.eBin Z.pIxU (Z.eVar 5) (Z.eC (.int 5)))), ((Z.eC (.str "free")), (Z.eBin Z.pIsN (Z.eBin Z.pIxU (Z.eVar 5) (Z.eC (.int 4))) (Z.eC .non)))]) (Z.eVar 4)))))))))))
@[irreducible] def F__law_fits : Z.FF := Z.runF 7 B__law_fits
def L1_law : Z.SF := (Z.sIf (Z.eOr (Z.eNot (Z.eUn (Z.pIsT "bool") (Z.eBin Z.pIxU (Z.eVar 5) (Z.eVar 6)))) (Z.eBin Z.pNe (Z.eBin Z.pIxU (Z.eVar 5) (Z.eVar 6)) (Z.eCall F__law_fits (Z.aCons (Z.eVar 4) (Z.aCons (Z.eVar 6) (Z.aCons (Z.eVar 1) (Z.aCons (Z.eVar 3) Z.aNil))))))) (Z.sRet (Z.eC (.bl false))) Z.sNx)
def B_law : Z.SF := (Z.sSeq (Z.sAsg (Z.eCall F__law_rows (Z.aCons (Z.eSl Z.pSlc (Z.eVar 0) (Z.oPart (Z.eC (.int 2))) (Z.oPart (Z.eC (.int 42)))) Z.aNil)) (Z.gName 1)) (Z.sSeq (Z.sAsg (Z.eArg Z.pList (Z.aCons (Z.eVar 1) Z.aNil)) (Z.gName 2)) (Z.sSeq (Z.sAsg (Z.eCall F__law_ups (Z.aCons (Z.eVar 1) Z.aNil)) (Z.gName 3)) (Z.sSeq (Z.sAsg (Z.eCall F__law_atom (Z.aCons (Z.eCall F__law_cell_at (Z.aCons (Z.eVar 0) (Z.aCons (Z.eC (.int 0)) Z.aNil))) (Z.aCons (Z.eLc (Z.iSeq (Z.eVar 1)) (Z.gName 7) (Z.eC (.bl true)) (Z.eBin Z.pIxU (Z.eVar 7) (Z.eC (.int 1))) [7]) Z.aNil))) (Z.gName 4)) (Z.sSeq (Z.sAsg (Z.eCall (F_fitting 40) (Z.aCons (Z.eVar 4) (Z.aCons (Z.eVar 1) Z.aNil))) (Z.gName 5)) (Z.sSeq (Z.sIf (Z.eOr (Z.eNot (Z.eUn (Z.pIsT "list") (Z.eVar 5))) (Z.eOr (Z.eBin Z.pNe (Z.eArg Z.pLen (Z.aCons (Z.eVar 5) Z.aNil)) (Z.eArg Z.pLen (Z.aCons (Z.eVar 1) Z.aNil))) (Z.eBin Z.pNe (Z.eVar 1) (Z.eVar 2)))) (Z.sRet (Z.eC (.bl false))) Z.sNx) (Z.sSeq (Z.sFor (Z.iRng1 (Z.aCons (Z.eArg Z.pLen (Z.aCons (Z.eVar 1) Z.aNil)) Z.aNil)) (Z.gName 6) L1_law) (Z.sRet (Z.eBin Z.pEq (Z.eCall (F_fitting 40) (Z.aCons (Z.eVar 4) (Z.aCons (Z.eVar 1) Z.aNil))) (Z.eVar 5))))))))))
@[irreducible] def F_law : Z.FF := Z.runF 8 B_law
end Z.K50
/-! K50d: the defs compute the pure functions. Printed by gen.py. -/
namespace Z.K50
open PySem L2
def top (i : Nat) : Stmt := PySem.Challenge.pw_limb_k50_rows_that_fit.main.body.getD i (.Pass ⟨0, 0, 0, 0⟩)
section
variable {P : Program} {w : World} {K : PySem.W.Frag} {mg : Str → Option Value} {base : Heap} {G : Z.Par}
abbrev s__law_text : Stmt := top 8
theorem sc__law_text : FnScope ["number", "some"] ["number"] (defScope s__law_text) := C8.fnScope_by (by decide +kernel)
theorem k__law_text (D : Z.DK K mg "_law_text" s__law_text ["number"]) (hK : K = G.K) (hw : w = G.w) (hf : Z.Frees mg Z.frees) : Z.FK P w K mg base G 1 "_law_text" 1 F__law_text := by
  unfold F__law_text
  exact Z.fk_of D sc__law_text hK hw Z.frees hf (k := 0) (b := B__law_text) (fun f cdv A outer s H E o tk => (Z.js_cons (Z.js_set (i := 1) sc__law_text.nd (by rfl) (by first | exact Or.inl rfl | exact Or.inr rfl) (Z.je_lst (Z.ja_cons (Z.je_str (by decide +kernel)) (Z.ja_cons (Z.je_str (by decide +kernel)) (Z.ja_cons (Z.je_str (by decide +kernel)) (Z.ja_cons (Z.je_str (by decide +kernel)) (Z.ja_cons (Z.je_str (by decide +kernel)) (Z.ja_cons (Z.je_str (by decide +kernel)) (Z.ja_cons (Z.je_str (by decide +kernel)) (Z.ja_cons (Z.je_str (by decide +kernel)) (Z.ja_cons (Z.je_str (by decide +kernel)) (Z.ja_cons (Z.je_str (by decide +kernel)) (Z.ja_cons (Z.je_str (by decide +kernel)) (Z.ja_cons (Z.je_str (by decide +kernel)) Z.ja_nil)))))))))))))) (Z.js_cons (Z.js_if (Z.jt_cmp (Z.op_eq' o) Z.ok_eq (Z.je_op op_mod Z.ok_mod (Z.je_op op_fdiv Z.ok_div (Z.je_var (i := 0) rfl (by first | exact Or.inl rfl | exact Or.inr (Or.inr rfl) | exact Or.inr (Or.inl rfl))) Z.je_int) Z.je_int) Z.je_int (by rfl)) (Z.js_one (Z.js_ret (Z.je_op (Z.op_add' o) Z.ok_add (Z.je_op (Z.op_add' o) Z.ok_add (Z.je_op Z.op_mulP Z.ok_mul (Z.je_str (by decide +kernel)) (Z.je_op op_mod Z.ok_mod (Z.je_op op_fdiv Z.ok_div (Z.je_var (i := 0) rfl (by first | exact Or.inl rfl | exact Or.inr (Or.inr rfl) | exact Or.inr (Or.inl rfl))) Z.je_int) Z.je_int)) (Z.je_ix (Z.ix' o) Z.ok_ixU (Z.je_var (i := 1) rfl (by first | exact Or.inl rfl | exact Or.inr (Or.inr rfl) | exact Or.inr (Or.inl rfl))) (Z.je_op op_mod Z.ok_mod (Z.je_var (i := 0) rfl (by first | exact Or.inl rfl | exact Or.inr (Or.inr rfl) | exact Or.inr (Or.inl rfl))) Z.je_int))) (Z.je_op Z.op_mulP Z.ok_mul (Z.je_str (by decide +kernel)) (Z.je_op op_mod Z.ok_mod (Z.je_op op_fdiv Z.ok_div (Z.je_var (i := 0) rfl (by first | exact Or.inl rfl | exact Or.inr (Or.inr rfl) | exact Or.inr (Or.inl rfl))) Z.je_int) Z.je_int))))) Z.js_nil) (Z.js_one (Z.js_ret (Z.je_ix (Z.ix' o) Z.ok_ixU (Z.je_var (i := 1) rfl (by first | exact Or.inl rfl | exact Or.inr (Or.inr rfl) | exact Or.inr (Or.inl rfl))) (Z.je_op op_mod Z.ok_mod (Z.je_var (i := 0) rfl (by first | exact Or.inl rfl | exact Or.inr (Or.inr rfl) | exact Or.inr (Or.inl rfl))) Z.je_int)))))))
abbrev s__law_rows : Stmt := top 9
theorem sc__law_rows : FnScope ["cells", "rows", "deepest", "k", "cell", "number", "depth", "name", "whom"] ["cells"] (defScope s__law_rows) := C8.fnScope_by (by decide +kernel)
theorem k__law_rows (D : Z.DK K mg "_law_rows" s__law_rows ["cells"]) (hK : K = G.K) (hw : w = G.w) (hf : Z.Frees mg Z.frees) (c__law_text : Z.FK P w K mg base G 1 "_law_text" 1 F__law_text) : Z.FK P w K mg base G 2 "_law_rows" 1 F__law_rows := by
  unfold F__law_rows
  exact Z.fk_of D sc__law_rows hK hw Z.frees hf (k := 1) (b := B__law_rows) (fun f cdv A outer s H E o tk => (Z.js_cons (Z.js_set (i := 1) sc__law_rows.nd (by rfl) (by first | exact Or.inl rfl | exact Or.inr rfl) (Z.je_lst Z.ja_nil)) (Z.js_cons (Z.js_set (i := 2) sc__law_rows.nd (by rfl) (by first | exact Or.inl rfl | exact Or.inr rfl) Z.je_int) (Z.js_cons (Z.js_for (passes_of rfl) rfl (Z.ji_enum (by rfl) (o.fr _ (by decide)) (Z.ja_cons (Z.je_var (i := 0) rfl (by first | exact Or.inl rfl | exact Or.inr (Or.inr rfl) | exact Or.inr (Or.inl rfl))) Z.ja_nil) (hK := o.hK.symm)) (Z.jg_tup o.calm (Z.jgs_cons (Z.jg_name (j := 3) sc__law_rows.nd (by rfl) (by first | exact Or.inl rfl | exact Or.inr rfl)) (Z.jgs_cons (Z.jg_name (j := 4) sc__law_rows.nd (by rfl) (by first | exact Or.inl rfl | exact Or.inr rfl)) Z.jgs_nil)) (hK := o.hK.symm)) (Z.js_cons (Z.js_set (i := 5) sc__law_rows.nd (by rfl) (by first | exact Or.inl rfl | exact Or.inr rfl) (Z.je_op op_mod Z.ok_mod (Z.je_op Z.op_mulP Z.ok_mul (Z.je_op op_mod Z.ok_mod (Z.je_var (i := 4) rfl (by first | exact Or.inl rfl | exact Or.inr (Or.inr rfl) | exact Or.inr (Or.inl rfl))) Z.je_int) Z.je_int) Z.je_int)) (Z.js_cons (Z.js_set (i := 6) sc__law_rows.nd (by rfl) (by first | exact Or.inl rfl | exact Or.inr rfl) (Z.je_op op_sub Z.ok_sub (Z.je_var (i := 2) rfl (by first | exact Or.inl rfl | exact Or.inr (Or.inr rfl) | exact Or.inr (Or.inl rfl))) (Z.je_min2 o (Z.ja_cons (Z.je_op op_mod Z.ok_mod (Z.je_var (i := 4) rfl (by first | exact Or.inl rfl | exact Or.inr (Or.inr rfl) | exact Or.inr (Or.inl rfl))) Z.je_int) (Z.ja_cons (Z.je_var (i := 2) rfl (by first | exact Or.inl rfl | exact Or.inr (Or.inr rfl) | exact Or.inr (Or.inl rfl))) Z.ja_nil))))) (Z.js_cons (Z.js_set (i := 7) sc__law_rows.nd (by rfl) (by first | exact Or.inl rfl | exact Or.inr rfl) (Z.je_tup (Z.ja_cons (Z.je_op op_mod Z.ok_mod (Z.je_var (i := 5) rfl (by first | exact Or.inl rfl | exact Or.inr (Or.inr rfl) | exact Or.inr (Or.inl rfl))) Z.je_int) (Z.ja_cons (Z.je_op (Z.op_add' o) Z.ok_add Z.je_int (Z.je_ix (Z.ix' o) Z.ok_ixU (Z.je_lst (Z.ja_cons (Z.je_var (i := 3) rfl (by first | exact Or.inl rfl | exact Or.inr (Or.inr rfl) | exact Or.inr (Or.inl rfl))) (Z.ja_cons (Z.je_op op_sub Z.ok_sub Z.je_int (Z.je_var (i := 3) rfl (by first | exact Or.inl rfl | exact Or.inr (Or.inr rfl) | exact Or.inr (Or.inl rfl)))) Z.ja_nil))) (Z.je_op op_mod Z.ok_mod (Z.je_op op_fdiv Z.ok_div (Z.je_var (i := 5) rfl (by first | exact Or.inl rfl | exact Or.inr (Or.inr rfl) | exact Or.inr (Or.inl rfl))) Z.je_int) Z.je_int))) Z.ja_nil)))) (Z.js_cons (Z.js_set (i := 8) sc__law_rows.nd (by rfl) (by first | exact Or.inl rfl | exact Or.inr rfl) (Z.je_ix (Z.ix' o) Z.ok_ixU (Z.je_lst (Z.ja_cons Z.je_non (Z.ja_cons (Z.je_op op_mod Z.ok_mod (Z.je_op op_fdiv Z.ok_div (Z.je_var (i := 5) rfl (by first | exact Or.inl rfl | exact Or.inr (Or.inr rfl) | exact Or.inr (Or.inl rfl))) Z.je_int) Z.je_int) Z.ja_nil))) (Z.je_intOf o (Z.ja_cons (Z.je_cmp op_gt Z.ok_cmpI (Z.je_op op_mod Z.ok_mod (Z.je_op op_fdiv Z.ok_div (Z.je_var (i := 5) rfl (by first | exact Or.inl rfl | exact Or.inr (Or.inr rfl) | exact Or.inr (Or.inl rfl))) Z.je_int) Z.je_int) Z.je_int (by rfl)) Z.ja_nil)))) (Z.js_cons (Z.js_expr (Z.je_bm F.plainAttrs_list F.slot_list_append F.type_list_append mt_append Z.ok_append Z.ty_lst (Z.je_var (i := 1) rfl (by first | exact Or.inl rfl | exact Or.inr (Or.inr rfl) | exact Or.inr (Or.inl rfl))) (Z.ja_cons (Z.je_tup (Z.ja_cons (Z.je_var (i := 6) rfl (by first | exact Or.inl rfl | exact Or.inr (Or.inr rfl) | exact Or.inr (Or.inl rfl))) (Z.ja_cons (Z.je_var (i := 7) rfl (by first | exact Or.inl rfl | exact Or.inr (Or.inr rfl) | exact Or.inr (Or.inl rfl))) (Z.ja_cons (Z.je_fn c__law_text o tk (by omega) (by rfl) (Z.ja_cons (Z.je_op op_fdiv Z.ok_div (Z.je_var (i := 4) rfl (by first | exact Or.inl rfl | exact Or.inr (Or.inr rfl) | exact Or.inr (Or.inl rfl))) Z.je_int) Z.ja_nil) (Z.AF.len_cons Z.AF.len_nil)) (Z.ja_cons (Z.je_cmp (Z.op_eq' o) Z.ok_eq (Z.je_op op_mod Z.ok_mod (Z.je_op op_fdiv Z.ok_div (Z.je_var (i := 5) rfl (by first | exact Or.inl rfl | exact Or.inr (Or.inr rfl) | exact Or.inr (Or.inl rfl))) Z.je_int) Z.je_int) Z.je_int (by rfl)) (Z.ja_cons (Z.je_var (i := 8) rfl (by first | exact Or.inl rfl | exact Or.inr (Or.inr rfl) | exact Or.inr (Or.inl rfl))) (Z.ja_cons (Z.je_cmp (Z.op_eq' o) Z.ok_eq (Z.je_op op_mod Z.ok_mod (Z.je_op op_fdiv Z.ok_div (Z.je_var (i := 5) rfl (by first | exact Or.inl rfl | exact Or.inr (Or.inr rfl) | exact Or.inr (Or.inl rfl))) Z.je_int) Z.je_int) Z.je_int (by rfl)) Z.ja_nil))))))) Z.ja_nil) (hK := o.hK))) (Z.js_one (Z.js_set (i := 2) sc__law_rows.nd (by rfl) (by first | exact Or.inl rfl | exact Or.inr rfl) (Z.je_op (Z.op_add' o) Z.ok_add (Z.je_var (i := 6) rfl (by first | exact Or.inl rfl | exact Or.inr (Or.inr rfl) | exact Or.inr (Or.inl rfl))) Z.je_int))))))))) (Z.js_one (Z.js_ret (Z.je_var (i := 1) rfl (by first | exact Or.inl rfl | exact Or.inr (Or.inr rfl) | exact Or.inr (Or.inl rfl)))))))))
abbrev s__law_ups : Stmt := top 10
theorem sc__law_ups : FnScope ["rows", "last", "found", "k", "row"] ["rows"] (defScope s__law_ups) := C8.fnScope_by (by decide +kernel)
theorem k__law_ups (D : Z.DK K mg "_law_ups" s__law_ups ["rows"]) (hK : K = G.K) (hw : w = G.w) (hf : Z.Frees mg Z.frees) : Z.FK P w K mg base G 1 "_law_ups" 1 F__law_ups := by
  unfold F__law_ups
  exact Z.fk_of D sc__law_ups hK hw Z.frees hf (k := 0) (b := B__law_ups) (fun f cdv A outer s H E o tk => (Z.js_cons (Z.js_set (i := 1) sc__law_ups.nd (by rfl) (by first | exact Or.inl rfl | exact Or.inr rfl) Z.je_newD) (Z.js_cons (Z.js_set (i := 2) sc__law_ups.nd (by rfl) (by first | exact Or.inl rfl | exact Or.inr rfl) (Z.je_lst Z.ja_nil)) (Z.js_cons (Z.js_for (passes_of rfl) rfl (Z.ji_enum (by rfl) (o.fr _ (by decide)) (Z.ja_cons (Z.je_var (i := 0) rfl (by first | exact Or.inl rfl | exact Or.inr (Or.inr rfl) | exact Or.inr (Or.inl rfl))) Z.ja_nil) (hK := o.hK.symm)) (Z.jg_tup o.calm (Z.jgs_cons (Z.jg_name (j := 3) sc__law_ups.nd (by rfl) (by first | exact Or.inl rfl | exact Or.inr rfl)) (Z.jgs_cons (Z.jg_name (j := 4) sc__law_ups.nd (by rfl) (by first | exact Or.inl rfl | exact Or.inr rfl)) Z.jgs_nil)) (hK := o.hK.symm)) (Z.js_cons (Z.js_expr (Z.je_bm F.plainAttrs_list F.slot_list_append F.type_list_append mt_append Z.ok_append Z.ty_lst (Z.je_var (i := 2) rfl (by first | exact Or.inl rfl | exact Or.inr (Or.inr rfl) | exact Or.inr (Or.inl rfl))) (Z.ja_cons (Z.je_bm F.plainAttrs_dict F.slot_dict_get F.type_dict_get (Z.mt_getD o.hK o.hw o.u1) Z.ok_getD (Z.ty_dct G) (Z.je_var (i := 1) rfl (by first | exact Or.inl rfl | exact Or.inr (Or.inr rfl) | exact Or.inr (Or.inl rfl))) (Z.ja_cons (Z.je_op op_sub Z.ok_sub (Z.je_ix (Z.ix' o) Z.ok_ixU (Z.je_var (i := 4) rfl (by first | exact Or.inl rfl | exact Or.inr (Or.inr rfl) | exact Or.inr (Or.inl rfl))) Z.je_int) Z.je_int) Z.ja_nil) (hK := o.hK)) Z.ja_nil) (hK := o.hK))) (Z.js_one (Z.js_asg (Z.je_var (i := 3) rfl (by first | exact Or.inl rfl | exact Or.inr (Or.inr rfl) | exact Or.inr (Or.inl rfl))) (Z.jg_sub (Z.je_var (i := 1) rfl (by first | exact Or.inl rfl | exact Or.inr (Or.inr rfl) | exact Or.inr (Or.inl rfl))) (Z.je_ix (Z.ix' o) Z.ok_ixU (Z.je_var (i := 4) rfl (by first | exact Or.inl rfl | exact Or.inr (Or.inr rfl) | exact Or.inr (Or.inl rfl))) Z.je_int) (Z.set' o) Z.ok_setU))))) (Z.js_one (Z.js_ret (Z.je_var (i := 2) rfl (by first | exact Or.inl rfl | exact Or.inr (Or.inr rfl) | exact Or.inr (Or.inl rfl)))))))))
abbrev s__law_atom : Stmt := top 13
theorem sc__law_atom : FnScope ["number", "names", "way", "more"] ["number", "names"] (defScope s__law_atom) := C8.fnScope_by (by decide +kernel)
theorem k__law_atom (D : Z.DK K mg "_law_atom" s__law_atom ["number", "names"]) (hK : K = G.K) (hw : w = G.w) (hf : Z.Frees mg Z.frees) : Z.FK P w K mg base G 1 "_law_atom" 2 F__law_atom := by
  unfold F__law_atom
  exact Z.fk_of D sc__law_atom hK hw Z.frees hf (k := 0) (b := B__law_atom) (fun f cdv A outer s H E o tk => (Z.js_cons (Z.js_set (i := 2) sc__law_atom.nd (by rfl) (by first | exact Or.inl rfl | exact Or.inr rfl) (Z.je_op op_mod Z.ok_mod (Z.je_var (i := 0) rfl (by first | exact Or.inl rfl | exact Or.inr (Or.inr rfl) | exact Or.inr (Or.inl rfl))) Z.je_int)) (Z.js_cons (Z.js_set (i := 3) sc__law_atom.nd (by rfl) (by first | exact Or.inl rfl | exact Or.inr rfl) (Z.je_op op_fdiv Z.ok_div (Z.je_var (i := 0) rfl (by first | exact Or.inl rfl | exact Or.inr (Or.inr rfl) | exact Or.inr (Or.inl rfl))) Z.je_int)) (Z.js_cons (Z.js_if (Z.jt_cmp op_lt Z.ok_cmpI (Z.je_var (i := 2) rfl (by first | exact Or.inl rfl | exact Or.inr (Or.inr rfl) | exact Or.inr (Or.inl rfl))) Z.je_int (by rfl)) (Z.js_one (Z.js_ret (Z.je_tup (Z.ja_cons (Z.je_ix (Z.ix' o) Z.ok_ixU (Z.je_lst (Z.ja_cons (Z.je_str (by decide +kernel)) (Z.ja_cons (Z.je_str (by decide +kernel)) (Z.ja_cons (Z.je_str (by decide +kernel)) (Z.ja_cons (Z.je_str (by decide +kernel)) (Z.ja_cons (Z.je_str (by decide +kernel)) (Z.ja_cons (Z.je_str (by decide +kernel)) Z.ja_nil))))))) (Z.je_var (i := 2) rfl (by first | exact Or.inl rfl | exact Or.inr (Or.inr rfl) | exact Or.inr (Or.inl rfl)))) Z.ja_nil)))) Z.js_nil) (Z.js_cons (Z.js_if (Z.jt_cmp (Z.op_eq' o) Z.ok_eq (Z.je_var (i := 2) rfl (by first | exact Or.inl rfl | exact Or.inr (Or.inr rfl) | exact Or.inr (Or.inl rfl))) Z.je_int (by rfl)) (Z.js_one (Z.js_ret (Z.je_tup (Z.ja_cons (Z.je_str (by decide +kernel)) (Z.ja_cons (Z.je_ix (Z.ix' o) Z.ok_ixU (Z.je_lst (Z.ja_cons (Z.je_op op_mod Z.ok_mod (Z.je_var (i := 3) rfl (by first | exact Or.inl rfl | exact Or.inr (Or.inr rfl) | exact Or.inr (Or.inl rfl))) Z.je_int) (Z.ja_cons (Z.je_op op_mod Z.ok_mod (Z.je_var (i := 3) rfl (by first | exact Or.inl rfl | exact Or.inr (Or.inr rfl) | exact Or.inr (Or.inl rfl))) (Z.je_op op_pow Z.ok_pow Z.je_int Z.je_int)) Z.ja_nil))) (Z.je_intOf o (Z.ja_cons (Z.je_cmp (Z.op_eq' o) Z.ok_eq (Z.je_op op_mod Z.ok_mod (Z.je_op op_fdiv Z.ok_div (Z.je_var (i := 3) rfl (by first | exact Or.inl rfl | exact Or.inr (Or.inr rfl) | exact Or.inr (Or.inl rfl))) Z.je_int) Z.je_int) Z.je_int (by rfl)) Z.ja_nil))) Z.ja_nil))))) Z.js_nil) (Z.js_cons (Z.js_if (Z.jt_cmp (Z.op_eq' o) Z.ok_eq (Z.je_var (i := 2) rfl (by first | exact Or.inl rfl | exact Or.inr (Or.inr rfl) | exact Or.inr (Or.inl rfl))) Z.je_int (by rfl)) (Z.js_one (Z.js_ret (Z.je_tup (Z.ja_cons (Z.je_str (by decide +kernel)) (Z.ja_cons (Z.je_ix (Z.ix' o) Z.ok_ixU (Z.je_lst (Z.ja_cons (Z.je_op op_mod Z.ok_mod (Z.je_var (i := 3) rfl (by first | exact Or.inl rfl | exact Or.inr (Or.inr rfl) | exact Or.inr (Or.inl rfl))) Z.je_int) (Z.ja_cons (Z.je_op op_mod Z.ok_mod (Z.je_var (i := 3) rfl (by first | exact Or.inl rfl | exact Or.inr (Or.inr rfl) | exact Or.inr (Or.inl rfl))) (Z.je_op op_pow Z.ok_pow Z.je_int Z.je_int)) Z.ja_nil))) (Z.je_intOf o (Z.ja_cons (Z.je_cmp (Z.op_eq' o) Z.ok_eq (Z.je_op op_mod Z.ok_mod (Z.je_op op_fdiv Z.ok_div (Z.je_var (i := 3) rfl (by first | exact Or.inl rfl | exact Or.inr (Or.inr rfl) | exact Or.inr (Or.inl rfl))) Z.je_int) Z.je_int) Z.je_int (by rfl)) Z.ja_nil))) Z.ja_nil))))) Z.js_nil) (Z.js_cons (Z.js_if (PW.pt (Z.jt_and (Z.jt_cmp (Z.op_eq' o) Z.ok_eq (Z.je_var (i := 2) rfl (by first | exact Or.inl rfl | exact Or.inr (Or.inr rfl) | exact Or.inr (Or.inl rfl))) Z.je_int (by rfl)) (Z.jt_and (Z.jt_cmp (Z.op_ne' o) Z.ok_ne (Z.je_var (i := 1) rfl (by first | exact Or.inl rfl | exact Or.inr (Or.inr rfl) | exact Or.inr (Or.inl rfl))) (Z.je_lst Z.ja_nil) (by rfl)) (Z.jt_and1 (Z.jt_cmp op_gt Z.ok_cmpI (Z.je_op op_mod Z.ok_mod (Z.je_var (i := 3) rfl (by first | exact Or.inl rfl | exact Or.inr (Or.inr rfl) | exact Or.inr (Or.inl rfl))) Z.je_int) Z.je_int (by rfl)))))) (Z.js_one (Z.js_ret (Z.je_tup (Z.ja_cons (Z.je_str (by decide +kernel)) (Z.ja_cons (Z.je_ix (Z.ix' o) Z.ok_ixU (Z.je_var (i := 1) rfl (by first | exact Or.inl rfl | exact Or.inr (Or.inr rfl) | exact Or.inr (Or.inl rfl))) (Z.je_op op_mod Z.ok_mod (Z.je_op op_fdiv Z.ok_div (Z.je_var (i := 3) rfl (by first | exact Or.inl rfl | exact Or.inr (Or.inr rfl) | exact Or.inr (Or.inl rfl))) Z.je_int) (Z.je_len o (Z.ja_cons (Z.je_var (i := 1) rfl (by first | exact Or.inl rfl | exact Or.inr (Or.inr rfl) | exact Or.inr (Or.inl rfl))) Z.ja_nil)))) Z.ja_nil))))) Z.js_nil) (Z.js_cons (Z.js_if (Z.jt_cmp (Z.op_eq' o) Z.ok_eq (Z.je_var (i := 2) rfl (by first | exact Or.inl rfl | exact Or.inr (Or.inr rfl) | exact Or.inr (Or.inl rfl))) Z.je_int (by rfl)) (Z.js_one (Z.js_ret (Z.je_tup (Z.ja_cons (Z.je_str (by decide +kernel)) (Z.ja_cons (Z.je_tup (Z.ja_cons (Z.je_op op_mod Z.ok_mod (Z.je_op op_fdiv Z.ok_div (Z.je_var (i := 3) rfl (by first | exact Or.inl rfl | exact Or.inr (Or.inr rfl) | exact Or.inr (Or.inl rfl))) Z.je_int) Z.je_int) (Z.ja_cons (Z.je_op (Z.op_add' o) Z.ok_add Z.je_int (Z.je_op op_mod Z.ok_mod (Z.je_op op_fdiv Z.ok_div (Z.je_var (i := 3) rfl (by first | exact Or.inl rfl | exact Or.inr (Or.inr rfl) | exact Or.inr (Or.inl rfl))) Z.je_int) (Z.je_op op_pow Z.ok_pow Z.je_int Z.je_int))) Z.ja_nil))) Z.ja_nil))))) Z.js_nil) (Z.js_one (Z.js_ret (Z.je_tup (Z.ja_cons (Z.je_str (by decide +kernel)) (Z.ja_cons (Z.je_ix (Z.ix' o) Z.ok_ixU (Z.je_lst (Z.ja_cons (Z.je_str (by decide +kernel)) (Z.ja_cons (Z.je_str (by decide +kernel)) (Z.ja_cons (Z.je_str (by decide +kernel)) (Z.ja_cons (Z.je_str (by decide +kernel)) (Z.ja_cons (Z.je_str (by decide +kernel)) (Z.ja_cons (Z.je_str (by decide +kernel)) (Z.ja_cons (Z.je_str (by decide +kernel)) (Z.ja_cons (Z.je_str (by decide +kernel)) (Z.ja_cons (Z.je_str (by decide +kernel)) (Z.ja_cons (Z.je_str (by decide +kernel)) (Z.ja_cons (Z.je_str (by decide +kernel)) (Z.ja_cons (Z.je_str (by decide +kernel)) Z.ja_nil))))))))))))) (Z.je_op op_mod Z.ok_mod (Z.je_var (i := 3) rfl (by first | exact Or.inl rfl | exact Or.inr (Or.inr rfl) | exact Or.inr (Or.inl rfl))) Z.je_int)) Z.ja_nil)))))))))))))
abbrev s_leaves : Stmt := top 1
theorem sc_leaves : FnScope ["rows", "found", "k", "row"] ["rows"] (defScope s_leaves) := C8.fnScope_by (by decide +kernel)
theorem k_leaves (D : Z.DK K mg "leaves" s_leaves ["rows"]) (hK : K = G.K) (hw : w = G.w) (hf : Z.Frees mg Z.frees) : Z.FK P w K mg base G 1 "leaves" 1 F_leaves := by
  unfold F_leaves
  exact Z.fk_of D sc_leaves hK hw Z.frees hf (k := 0) (b := B_leaves) (fun f cdv A outer s H E o tk => (Z.js_cons (Z.js_set (i := 1) sc_leaves.nd (by rfl) (by first | exact Or.inl rfl | exact Or.inr rfl) (Z.je_lst Z.ja_nil)) (Z.js_cons (Z.js_for (passes_of rfl) rfl (Z.ji_enum (by rfl) (o.fr _ (by decide)) (Z.ja_cons (Z.je_var (i := 0) rfl (by first | exact Or.inl rfl | exact Or.inr (Or.inr rfl) | exact Or.inr (Or.inl rfl))) Z.ja_nil) (hK := o.hK.symm)) (Z.jg_tup o.calm (Z.jgs_cons (Z.jg_name (j := 2) sc_leaves.nd (by rfl) (by first | exact Or.inl rfl | exact Or.inr rfl)) (Z.jgs_cons (Z.jg_name (j := 3) sc_leaves.nd (by rfl) (by first | exact Or.inl rfl | exact Or.inr rfl)) Z.jgs_nil)) (hK := o.hK.symm)) (Z.js_one (Z.js_expr (Z.je_bm F.plainAttrs_list F.slot_list_append F.type_list_append mt_append Z.ok_append Z.ty_lst (Z.je_var (i := 1) rfl (by first | exact Or.inl rfl | exact Or.inr (Or.inr rfl) | exact Or.inr (Or.inl rfl))) (Z.ja_cons (Z.je_or (Z.je_cmp (Z.op_eq' o) Z.ok_eq (Z.je_op (Z.op_add' o) Z.ok_add (Z.je_var (i := 2) rfl (by first | exact Or.inl rfl | exact Or.inr (Or.inr rfl) | exact Or.inr (Or.inl rfl))) Z.je_int) (Z.je_len o (Z.ja_cons (Z.je_var (i := 0) rfl (by first | exact Or.inl rfl | exact Or.inr (Or.inr rfl) | exact Or.inr (Or.inl rfl))) Z.ja_nil)) (by rfl)) (Z.je_one (Z.je_cmp op_le Z.ok_cmpI (Z.je_ix (Z.ix' o) Z.ok_ixU (Z.je_ix (Z.ix' o) Z.ok_ixU (Z.je_var (i := 0) rfl (by first | exact Or.inl rfl | exact Or.inr (Or.inr rfl) | exact Or.inr (Or.inl rfl))) (Z.je_op (Z.op_add' o) Z.ok_add (Z.je_var (i := 2) rfl (by first | exact Or.inl rfl | exact Or.inr (Or.inr rfl) | exact Or.inr (Or.inl rfl))) Z.je_int)) Z.je_int) (Z.je_ix (Z.ix' o) Z.ok_ixU (Z.je_var (i := 3) rfl (by first | exact Or.inl rfl | exact Or.inr (Or.inr rfl) | exact Or.inr (Or.inl rfl))) Z.je_int) (by rfl)))) Z.ja_nil) (hK := o.hK))))) (Z.js_one (Z.js_ret (Z.je_var (i := 1) rfl (by first | exact Or.inl rfl | exact Or.inr (Or.inr rfl) | exact Or.inr (Or.inl rfl))))))))
abbrev s_unhidden : Stmt := top 2
theorem sc_unhidden : FnScope ["rows", "above", "found", "row"] ["rows"] (defScope s_unhidden) := C8.fnScope_by (by decide +kernel)
theorem k_unhidden (D : Z.DK K mg "unhidden" s_unhidden ["rows"]) (hK : K = G.K) (hw : w = G.w) (hf : Z.Frees mg Z.frees) : Z.FK P w K mg base G 1 "unhidden" 1 F_unhidden := by
  unfold F_unhidden
  exact Z.fk_of D sc_unhidden hK hw Z.frees hf (k := 0) (b := B_unhidden) (fun f cdv A outer s H E o tk => (Z.js_cons (Z.js_set (i := 1) sc_unhidden.nd (by rfl) (by first | exact Or.inl rfl | exact Or.inr rfl) (Z.je_lst Z.ja_nil)) (Z.js_cons (Z.js_set (i := 2) sc_unhidden.nd (by rfl) (by first | exact Or.inl rfl | exact Or.inr rfl) (Z.je_lst Z.ja_nil)) (Z.js_cons (Z.js_for (passes_of rfl) rfl (Z.ji_seq (Z.je_var (i := 0) rfl (by first | exact Or.inl rfl | exact Or.inr (Or.inr rfl) | exact Or.inr (Or.inl rfl))) (hK := o.hK.symm)) (Z.jg_name (j := 3) sc_unhidden.nd (by rfl) (by first | exact Or.inl rfl | exact Or.inr rfl)) (Z.js_cons (Z.js_set (i := 1) sc_unhidden.nd (by rfl) (by first | exact Or.inl rfl | exact Or.inr rfl) (Z.je_sl (Z.sl' o) Z.ok_sl (Z.je_var (i := 1) rfl (by first | exact Or.inl rfl | exact Or.inr (Or.inr rfl) | exact Or.inr (Or.inl rfl))) Z.jo_none (Z.jo_some (Z.je_ix (Z.ix' o) Z.ok_ixU (Z.je_var (i := 3) rfl (by first | exact Or.inl rfl | exact Or.inr (Or.inr rfl) | exact Or.inr (Or.inl rfl))) Z.je_int)))) (Z.js_cons (Z.js_expr (Z.je_bm F.plainAttrs_list F.slot_list_append F.type_list_append mt_append Z.ok_append Z.ty_lst (Z.je_var (i := 2) rfl (by first | exact Or.inl rfl | exact Or.inr (Or.inr rfl) | exact Or.inr (Or.inl rfl))) (Z.ja_cons (Z.je_not (Z.je_any o (Z.ja_cons (Z.je_var (i := 1) rfl (by first | exact Or.inl rfl | exact Or.inr (Or.inr rfl) | exact Or.inr (Or.inl rfl))) Z.ja_nil))) Z.ja_nil) (hK := o.hK))) (Z.js_one (Z.js_expr (Z.je_bm F.plainAttrs_list F.slot_list_append F.type_list_append mt_append Z.ok_append Z.ty_lst (Z.je_var (i := 1) rfl (by first | exact Or.inl rfl | exact Or.inr (Or.inr rfl) | exact Or.inr (Or.inl rfl))) (Z.ja_cons (Z.je_ix (Z.ix' o) Z.ok_ixU (Z.je_var (i := 3) rfl (by first | exact Or.inl rfl | exact Or.inr (Or.inr rfl) | exact Or.inr (Or.inl rfl))) Z.je_int) Z.ja_nil) (hK := o.hK))))))) (Z.js_one (Z.js_ret (Z.je_var (i := 2) rfl (by first | exact Or.inl rfl | exact Or.inr (Or.inr rfl) | exact Or.inr (Or.inl rfl)))))))))
abbrev s_under : Stmt := top 3
theorem sc_under : FnScope ["name", "rows", "depth", "found", "row"] ["name", "rows"] (defScope s_under) := C8.fnScope_by (by decide +kernel)
theorem k_under (D : Z.DK K mg "under" s_under ["name", "rows"]) (hK : K = G.K) (hw : w = G.w) (hf : Z.Frees mg Z.frees) : Z.FK P w K mg base G 1 "under" 2 F_under := by
  unfold F_under
  exact Z.fk_of D sc_under hK hw Z.frees hf (k := 0) (b := B_under) (fun f cdv A outer s H E o tk => (Z.js_cons (Z.js_set (i := 2) sc_under.nd (by rfl) (by first | exact Or.inl rfl | exact Or.inr rfl) Z.je_non) (Z.js_cons (Z.js_set (i := 3) sc_under.nd (by rfl) (by first | exact Or.inl rfl | exact Or.inr rfl) (Z.je_lst Z.ja_nil)) (Z.js_cons (Z.js_for (passes_of rfl) rfl (Z.ji_seq (Z.je_var (i := 1) rfl (by first | exact Or.inl rfl | exact Or.inr (Or.inr rfl) | exact Or.inr (Or.inl rfl))) (hK := o.hK.symm)) (Z.jg_name (j := 4) sc_under.nd (by rfl) (by first | exact Or.inl rfl | exact Or.inr rfl)) (Z.js_cons (Z.js_if (PW.pt (Z.jt_and (Z.jt_cmp op_notN Z.ok_notN (Z.je_var (i := 2) rfl (by first | exact Or.inl rfl | exact Or.inr (Or.inr rfl) | exact Or.inr (Or.inl rfl))) Z.je_non (by rfl)) (Z.jt_and1 (Z.jt_cmp op_le Z.ok_cmpI (Z.je_ix (Z.ix' o) Z.ok_ixU (Z.je_var (i := 4) rfl (by first | exact Or.inl rfl | exact Or.inr (Or.inr rfl) | exact Or.inr (Or.inl rfl))) Z.je_int) (Z.je_var (i := 2) rfl (by first | exact Or.inl rfl | exact Or.inr (Or.inr rfl) | exact Or.inr (Or.inl rfl))) (by rfl))))) (Z.js_one (Z.js_set (i := 2) sc_under.nd (by rfl) (by first | exact Or.inl rfl | exact Or.inr rfl) Z.je_non)) Z.js_nil) (Z.js_cons (Z.js_expr (Z.je_bm F.plainAttrs_list F.slot_list_append F.type_list_append mt_append Z.ok_append Z.ty_lst (Z.je_var (i := 3) rfl (by first | exact Or.inl rfl | exact Or.inr (Or.inr rfl) | exact Or.inr (Or.inl rfl))) (Z.ja_cons (Z.je_cmp op_notN Z.ok_notN (Z.je_var (i := 2) rfl (by first | exact Or.inl rfl | exact Or.inr (Or.inr rfl) | exact Or.inr (Or.inl rfl))) Z.je_non (by rfl)) Z.ja_nil) (hK := o.hK))) (Z.js_one (Z.js_if (Z.jt_cmp (Z.op_eq' o) Z.ok_eq (Z.je_ix (Z.ix' o) Z.ok_ixU (Z.je_var (i := 4) rfl (by first | exact Or.inl rfl | exact Or.inr (Or.inr rfl) | exact Or.inr (Or.inl rfl))) Z.je_int) (Z.je_var (i := 0) rfl (by first | exact Or.inl rfl | exact Or.inr (Or.inr rfl) | exact Or.inr (Or.inl rfl))) (by rfl)) (Z.js_one (Z.js_set (i := 2) sc_under.nd (by rfl) (by first | exact Or.inl rfl | exact Or.inr rfl) (Z.je_ix (Z.ix' o) Z.ok_ixU (Z.je_var (i := 4) rfl (by first | exact Or.inl rfl | exact Or.inr (Or.inr rfl) | exact Or.inr (Or.inl rfl))) Z.je_int))) Z.js_nil))))) (Z.js_one (Z.js_ret (Z.je_var (i := 3) rfl (by first | exact Or.inl rfl | exact Or.inr (Or.inr rfl) | exact Or.inr (Or.inl rfl)))))))))
abbrev s_fits_alone : Stmt := top 4
theorem sc_fits_alone : FnScope ["condition", "row", "word"] ["condition", "row"] (defScope s_fits_alone) := C8.fnScope_by (by decide +kernel)
theorem k_fits_alone (D : Z.DK K mg "fits_alone" s_fits_alone ["condition", "row"]) (hK : K = G.K) (hw : w = G.w) (hf : Z.Frees mg Z.frees) : Z.FK P w K mg base G 1 "fits_alone" 2 F_fits_alone := by
  unfold F_fits_alone
  exact Z.fk_of D sc_fits_alone hK hw Z.frees hf (k := 0) (b := B_fits_alone) (fun f cdv A outer s H E o tk => (Z.js_cons (Z.js_set (i := 2) sc_fits_alone.nd (by rfl) (by first | exact Or.inl rfl | exact Or.inr rfl) (Z.je_ix (Z.ix' o) Z.ok_ixU (Z.je_var (i := 0) rfl (by first | exact Or.inl rfl | exact Or.inr (Or.inr rfl) | exact Or.inr (Or.inl rfl))) Z.je_int)) (Z.js_cons (Z.js_if (Z.jt_cmp (Z.op_eq' o) Z.ok_eq (Z.je_var (i := 2) rfl (by first | exact Or.inl rfl | exact Or.inr (Or.inr rfl) | exact Or.inr (Or.inl rfl))) (Z.je_str (by decide +kernel)) (by rfl)) (Z.js_one (Z.js_ret (Z.je_ix (Z.ix' o) Z.ok_ixU (Z.je_var (i := 1) rfl (by first | exact Or.inl rfl | exact Or.inr (Or.inr rfl) | exact Or.inr (Or.inl rfl))) Z.je_int))) Z.js_nil) (Z.js_cons (Z.js_if (Z.jt_cmp (Z.op_eq' o) Z.ok_eq (Z.je_var (i := 2) rfl (by first | exact Or.inl rfl | exact Or.inr (Or.inr rfl) | exact Or.inr (Or.inl rfl))) (Z.je_str (by decide +kernel)) (by rfl)) (Z.js_one (Z.js_ret (Z.je_ix (Z.ix' o) Z.ok_ixU (Z.je_var (i := 1) rfl (by first | exact Or.inl rfl | exact Or.inr (Or.inr rfl) | exact Or.inr (Or.inl rfl))) Z.je_int))) Z.js_nil) (Z.js_cons (Z.js_if (Z.jt_cmp (Z.op_eq' o) Z.ok_eq (Z.je_var (i := 2) rfl (by first | exact Or.inl rfl | exact Or.inr (Or.inr rfl) | exact Or.inr (Or.inl rfl))) (Z.je_str (by decide +kernel)) (by rfl)) (Z.js_one (Z.js_ret (Z.je_cmp op_isN Z.ok_isN (Z.je_ix (Z.ix' o) Z.ok_ixU (Z.je_var (i := 1) rfl (by first | exact Or.inl rfl | exact Or.inr (Or.inr rfl) | exact Or.inr (Or.inl rfl))) Z.je_int) Z.je_non (by rfl)))) Z.js_nil) (Z.js_cons (Z.js_if (Z.jt_cmp (Z.op_eq' o) Z.ok_eq (Z.je_var (i := 2) rfl (by first | exact Or.inl rfl | exact Or.inr (Or.inr rfl) | exact Or.inr (Or.inl rfl))) (Z.je_str (by decide +kernel)) (by rfl)) (Z.js_one (Z.js_ret (Z.je_cmp (Z.op_eq' o) Z.ok_eq (Z.je_ix (Z.ix' o) Z.ok_ixU (Z.je_var (i := 1) rfl (by first | exact Or.inl rfl | exact Or.inr (Or.inr rfl) | exact Or.inr (Or.inl rfl))) Z.je_int) (Z.je_ix (Z.ix' o) Z.ok_ixU (Z.je_var (i := 0) rfl (by first | exact Or.inl rfl | exact Or.inr (Or.inr rfl) | exact Or.inr (Or.inl rfl))) Z.je_int) (by rfl)))) Z.js_nil) (Z.js_cons (Z.js_if (Z.jt_cmp (Z.op_eq' o) Z.ok_eq (Z.je_var (i := 2) rfl (by first | exact Or.inl rfl | exact Or.inr (Or.inr rfl) | exact Or.inr (Or.inl rfl))) (Z.je_str (by decide +kernel)) (by rfl)) (Z.js_one (Z.js_ret (Z.je_cmp op_le Z.ok_cmpI (Z.je_ix (Z.ix' o) Z.ok_ixU (Z.je_var (i := 1) rfl (by first | exact Or.inl rfl | exact Or.inr (Or.inr rfl) | exact Or.inr (Or.inl rfl))) Z.je_int) (Z.je_ix (Z.ix' o) Z.ok_ixU (Z.je_var (i := 0) rfl (by first | exact Or.inl rfl | exact Or.inr (Or.inr rfl) | exact Or.inr (Or.inl rfl))) Z.je_int) (by rfl)))) Z.js_nil) (Z.js_cons (Z.js_if (Z.jt_cmp (Z.op_eq' o) Z.ok_eq (Z.je_var (i := 2) rfl (by first | exact Or.inl rfl | exact Or.inr (Or.inr rfl) | exact Or.inr (Or.inl rfl))) (Z.je_str (by decide +kernel)) (by rfl)) (Z.js_one (Z.js_ret (Z.je_cmp (Z.op_in' o) Z.ok_inU (Z.je_ix (Z.ix' o) Z.ok_ixU (Z.je_var (i := 0) rfl (by first | exact Or.inl rfl | exact Or.inr (Or.inr rfl) | exact Or.inr (Or.inl rfl))) Z.je_int) (Z.je_ix (Z.ix' o) Z.ok_ixU (Z.je_var (i := 1) rfl (by first | exact Or.inl rfl | exact Or.inr (Or.inr rfl) | exact Or.inr (Or.inl rfl))) Z.je_int) (by rfl)))) Z.js_nil) (Z.js_one (Z.js_ret Z.je_bl))))))))))
abbrev s_fitting : Stmt := top 5
theorem sc_fitting : FnScope ["condition", "rows", "word", "parts", "row", "part", "k", "truth"] ["condition", "rows"] (defScope s_fitting) := C8.fnScope_by (by decide +kernel)
theorem k_fitting (D : Z.DK K mg "fitting" s_fitting ["condition", "rows"]) (hK : K = G.K) (hw : w = G.w) (hf : Z.Frees mg Z.frees) (c_leaves : Z.FK P w K mg base G 1 "leaves" 1 F_leaves) (c_unhidden : Z.FK P w K mg base G 1 "unhidden" 1 F_unhidden) (c_under : Z.FK P w K mg base G 1 "under" 2 F_under) (c_fits_alone : Z.FK P w K mg base G 1 "fits_alone" 2 F_fits_alone) : ∀ n : Nat, Z.FK P w K mg base G (2 + n) "fitting" 2 (F_fitting n)
  | 0 => by
    rw [F_fitting]
    exact Z.fk_bad D
  | n + 1 => by
    have ih := k_fitting D hK hw hf c_leaves c_unhidden c_under c_fits_alone n
    rw [F_fitting]
    exact Z.fk_of D sc_fitting hK hw Z.frees hf (k := 2 + n) (b := B_fitting (F_fitting n)) (fun f cdv A outer s H E o tk => (Z.js_cons (Z.js_set (i := 2) sc_fitting.nd (by rfl) (by first | exact Or.inl rfl | exact Or.inr rfl) (Z.je_ix (Z.ix' o) Z.ok_ixU (Z.je_var (i := 0) rfl (by first | exact Or.inl rfl | exact Or.inr (Or.inr rfl) | exact Or.inr (Or.inl rfl))) Z.je_int)) (Z.js_cons (Z.js_if (PW.pt (Z.jt_or (Z.jt_cmp (Z.op_eq' o) Z.ok_eq (Z.je_var (i := 2) rfl (by first | exact Or.inl rfl | exact Or.inr (Or.inr rfl) | exact Or.inr (Or.inl rfl))) (Z.je_str (by decide +kernel)) (by rfl)) (Z.jt_or1 (Z.jt_cmp (Z.op_eq' o) Z.ok_eq (Z.je_var (i := 2) rfl (by first | exact Or.inl rfl | exact Or.inr (Or.inr rfl) | exact Or.inr (Or.inl rfl))) (Z.je_str (by decide +kernel)) (by rfl))))) (Z.js_cons (by first | exact (Z.js_setLc (i := 3) (own := [("part", 5)]) o.calm sc_fitting.nd (by rfl) (by rfl) (by rfl) (Z.ji_seq (Z.je_ix (Z.ix' o) Z.ok_ixU (Z.je_var (i := 0) rfl (by first | exact Or.inl rfl | exact Or.inr (Or.inr rfl) | exact Or.inr (Or.inl rfl))) Z.je_int) (hK := o.hK.symm)) (blkOk_by (by kernel_rfl)) (fun s H C cl fp => (pg_name sc_fitting.nd (by rfl) (by first | exact Or.inl rfl | exact Or.inr rfl) (by first | exact .inr rfl | exact .inl rfl))) (Z.ct_name (by decide)) (fun s H C cl fp => Z.jts_nil) (fun s H C cl fp => (Z.je_fn ih (Z.Oks.blk o) takes0 (by omega) (by rfl) (Z.ja_cons (Z.je_var (i := 5) rfl (by first | exact Or.inl rfl | exact Or.inr (Or.inr rfl) | exact Or.inr (Or.inl rfl))) (Z.ja_cons (Z.je_var (i := 1) rfl (by first | exact Or.inl rfl | exact Or.inr (Or.inr rfl) | exact Or.inr (Or.inl rfl))) Z.ja_nil)) (Z.AF.len_cons (Z.AF.len_cons Z.AF.len_nil))))) | exact (Z.js_set (i := 3) sc_fitting.nd (by rfl) (by first | exact Or.inl rfl | exact Or.inr rfl) (Z.je_lc (own := [("part", 5)]) o.calm sc_fitting.nd (Z.ji_seq (Z.je_ix (Z.ix' o) Z.ok_ixU (Z.je_var (i := 0) rfl (by first | exact Or.inl rfl | exact Or.inr (Or.inr rfl) | exact Or.inr (Or.inl rfl))) Z.je_int) (hK := o.hK.symm)) (blkOk_by (by kernel_rfl)) (fun s H C cl fp => (pg_name sc_fitting.nd (by rfl) (by first | exact Or.inl rfl | exact Or.inr rfl) (by first | exact .inr rfl | exact .inl rfl))) (Z.ct_name (by decide)) (fun s H C cl fp => Z.jts_nil) (fun s H C cl fp => (Z.je_fn ih (Z.Oks.blk o) takes0 (by omega) (by rfl) (Z.ja_cons (Z.je_var (i := 5) rfl (by first | exact Or.inl rfl | exact Or.inr (Or.inr rfl) | exact Or.inr (Or.inl rfl))) (Z.ja_cons (Z.je_var (i := 1) rfl (by first | exact Or.inl rfl | exact Or.inr (Or.inr rfl) | exact Or.inr (Or.inl rfl))) Z.ja_nil)) (Z.AF.len_cons (Z.AF.len_cons Z.AF.len_nil))))))) (Z.js_cons (Z.js_if (Z.jt_cmp (Z.op_eq' o) Z.ok_eq (Z.je_var (i := 2) rfl (by first | exact Or.inl rfl | exact Or.inr (Or.inr rfl) | exact Or.inr (Or.inl rfl))) (Z.je_str (by decide +kernel)) (by rfl)) (Z.js_one (Z.js_ret (Z.je_lc (own := [("k", 6)]) o.calm sc_fitting.nd (Z.ji_rng1 (by rfl) (o.fr _ (by decide)) (Z.ja_cons (Z.je_len o (Z.ja_cons (Z.je_var (i := 1) rfl (by first | exact Or.inl rfl | exact Or.inr (Or.inr rfl) | exact Or.inr (Or.inl rfl))) Z.ja_nil)) Z.ja_nil)) (blkOk_by (by kernel_rfl)) (fun s H C cl fp => (pg_name sc_fitting.nd (by rfl) (by first | exact Or.inl rfl | exact Or.inr rfl) (by first | exact .inr rfl | exact .inl rfl))) (Z.ct_name (by decide)) (fun s H C cl fp => Z.jts_nil) (fun s H C cl fp => (Z.je_all (Z.Oks.blk o) (Z.ja_cons (Z.je_lc (own := [("part", 5)]) (Z.Oks.blk o).calm sc_fitting.nd (Z.ji_seq (Z.je_var (i := 3) rfl (by first | exact Or.inl rfl | exact Or.inr (Or.inr rfl) | exact Or.inr (Or.inl rfl))) (hK := (Z.Oks.blk o).hK.symm)) (blkOk_by (by kernel_rfl)) (fun s H C cl fp => (pg_name sc_fitting.nd (by rfl) (by first | exact Or.inl rfl | exact Or.inr rfl) (by first | exact .inr rfl | exact .inl rfl))) (Z.ct_name (by decide)) (fun s H C cl fp => Z.jts_nil) (fun s H C cl fp => (Z.je_ix (Z.ix' (Z.Oks.blk (Z.Oks.blk o))) Z.ok_ixU (Z.je_var (i := 5) rfl (by first | exact Or.inl rfl | exact Or.inr (Or.inr rfl) | exact Or.inr (Or.inl rfl))) (Z.je_var (i := 6) rfl (by first | exact Or.inl rfl | exact Or.inr (Or.inr rfl) | exact Or.inr (Or.inl rfl)))))) Z.ja_nil)))))) Z.js_nil) (Z.js_one (Z.js_ret (Z.je_lc (own := [("k", 6)]) o.calm sc_fitting.nd (Z.ji_rng1 (by rfl) (o.fr _ (by decide)) (Z.ja_cons (Z.je_len o (Z.ja_cons (Z.je_var (i := 1) rfl (by first | exact Or.inl rfl | exact Or.inr (Or.inr rfl) | exact Or.inr (Or.inl rfl))) Z.ja_nil)) Z.ja_nil)) (blkOk_by (by kernel_rfl)) (fun s H C cl fp => (pg_name sc_fitting.nd (by rfl) (by first | exact Or.inl rfl | exact Or.inr rfl) (by first | exact .inr rfl | exact .inl rfl))) (Z.ct_name (by decide)) (fun s H C cl fp => Z.jts_nil) (fun s H C cl fp => (Z.je_any (Z.Oks.blk o) (Z.ja_cons (Z.je_lc (own := [("part", 5)]) (Z.Oks.blk o).calm sc_fitting.nd (Z.ji_seq (Z.je_var (i := 3) rfl (by first | exact Or.inl rfl | exact Or.inr (Or.inr rfl) | exact Or.inr (Or.inl rfl))) (hK := (Z.Oks.blk o).hK.symm)) (blkOk_by (by kernel_rfl)) (fun s H C cl fp => (pg_name sc_fitting.nd (by rfl) (by first | exact Or.inl rfl | exact Or.inr rfl) (by first | exact .inr rfl | exact .inl rfl))) (Z.ct_name (by decide)) (fun s H C cl fp => Z.jts_nil) (fun s H C cl fp => (Z.je_ix (Z.ix' (Z.Oks.blk (Z.Oks.blk o))) Z.ok_ixU (Z.je_var (i := 5) rfl (by first | exact Or.inl rfl | exact Or.inr (Or.inr rfl) | exact Or.inr (Or.inl rfl))) (Z.je_var (i := 6) rfl (by first | exact Or.inl rfl | exact Or.inr (Or.inr rfl) | exact Or.inr (Or.inl rfl)))))) Z.ja_nil)))))))) Z.js_nil) (Z.js_cons (Z.js_if (Z.jt_cmp (Z.op_eq' o) Z.ok_eq (Z.je_var (i := 2) rfl (by first | exact Or.inl rfl | exact Or.inr (Or.inr rfl) | exact Or.inr (Or.inl rfl))) (Z.je_str (by decide +kernel)) (by rfl)) (Z.js_one (Z.js_ret (Z.je_lc (own := [("truth", 7)]) o.calm sc_fitting.nd (Z.ji_seq (Z.je_fn ih o tk (by omega) (by rfl) (Z.ja_cons (Z.je_ix (Z.ix' o) Z.ok_ixU (Z.je_var (i := 0) rfl (by first | exact Or.inl rfl | exact Or.inr (Or.inr rfl) | exact Or.inr (Or.inl rfl))) Z.je_int) (Z.ja_cons (Z.je_var (i := 1) rfl (by first | exact Or.inl rfl | exact Or.inr (Or.inr rfl) | exact Or.inr (Or.inl rfl))) Z.ja_nil)) (Z.AF.len_cons (Z.AF.len_cons Z.AF.len_nil))) (hK := o.hK.symm)) (blkOk_by (by kernel_rfl)) (fun s H C cl fp => (pg_name sc_fitting.nd (by rfl) (by first | exact Or.inl rfl | exact Or.inr rfl) (by first | exact .inr rfl | exact .inl rfl))) (Z.ct_name (by decide)) (fun s H C cl fp => Z.jts_nil) (fun s H C cl fp => (Z.je_not (Z.je_var (i := 7) rfl (by first | exact Or.inl rfl | exact Or.inr (Or.inr rfl) | exact Or.inr (Or.inl rfl)))))))) Z.js_nil) (Z.js_cons (Z.js_if (Z.jt_cmp (Z.op_eq' o) Z.ok_eq (Z.je_var (i := 2) rfl (by first | exact Or.inl rfl | exact Or.inr (Or.inr rfl) | exact Or.inr (Or.inl rfl))) (Z.je_str (by decide +kernel)) (by rfl)) (Z.js_one (Z.js_ret (Z.je_fn c_leaves o tk (by omega) (by rfl) (Z.ja_cons (Z.je_var (i := 1) rfl (by first | exact Or.inl rfl | exact Or.inr (Or.inr rfl) | exact Or.inr (Or.inl rfl))) Z.ja_nil) (Z.AF.len_cons Z.AF.len_nil)))) Z.js_nil) (Z.js_cons (Z.js_if (Z.jt_cmp (Z.op_eq' o) Z.ok_eq (Z.je_var (i := 2) rfl (by first | exact Or.inl rfl | exact Or.inr (Or.inr rfl) | exact Or.inr (Or.inl rfl))) (Z.je_str (by decide +kernel)) (by rfl)) (Z.js_one (Z.js_ret (Z.je_fn c_unhidden o tk (by omega) (by rfl) (Z.ja_cons (Z.je_var (i := 1) rfl (by first | exact Or.inl rfl | exact Or.inr (Or.inr rfl) | exact Or.inr (Or.inl rfl))) Z.ja_nil) (Z.AF.len_cons Z.AF.len_nil)))) Z.js_nil) (Z.js_cons (Z.js_if (Z.jt_cmp (Z.op_eq' o) Z.ok_eq (Z.je_var (i := 2) rfl (by first | exact Or.inl rfl | exact Or.inr (Or.inr rfl) | exact Or.inr (Or.inl rfl))) (Z.je_str (by decide +kernel)) (by rfl)) (Z.js_one (Z.js_ret (Z.je_fn c_under o tk (by omega) (by rfl) (Z.ja_cons (Z.je_ix (Z.ix' o) Z.ok_ixU (Z.je_var (i := 0) rfl (by first | exact Or.inl rfl | exact Or.inr (Or.inr rfl) | exact Or.inr (Or.inl rfl))) Z.je_int) (Z.ja_cons (Z.je_var (i := 1) rfl (by first | exact Or.inl rfl | exact Or.inr (Or.inr rfl) | exact Or.inr (Or.inl rfl))) Z.ja_nil)) (Z.AF.len_cons (Z.AF.len_cons Z.AF.len_nil))))) Z.js_nil) (Z.js_one (Z.js_ret (Z.je_lc (own := [("row", 4)]) o.calm sc_fitting.nd (Z.ji_seq (Z.je_var (i := 1) rfl (by first | exact Or.inl rfl | exact Or.inr (Or.inr rfl) | exact Or.inr (Or.inl rfl))) (hK := o.hK.symm)) (blkOk_by (by kernel_rfl)) (fun s H C cl fp => (pg_name sc_fitting.nd (by rfl) (by first | exact Or.inl rfl | exact Or.inr rfl) (by first | exact .inr rfl | exact .inl rfl))) (Z.ct_name (by decide)) (fun s H C cl fp => Z.jts_nil) (fun s H C cl fp => (Z.je_fn c_fits_alone (Z.Oks.blk o) takes0 (by omega) (by rfl) (Z.ja_cons (Z.je_var (i := 0) rfl (by first | exact Or.inl rfl | exact Or.inr (Or.inr rfl) | exact Or.inr (Or.inl rfl))) (Z.ja_cons (Z.je_var (i := 4) rfl (by first | exact Or.inl rfl | exact Or.inr (Or.inr rfl) | exact Or.inr (Or.inl rfl))) Z.ja_nil)) (Z.AF.len_cons (Z.AF.len_cons Z.AF.len_nil))))))))))))))
abbrev s__law_cell_at : Stmt := top 7
theorem sc__law_cell_at : FnScope ["script", "k"] ["script", "k"] (defScope s__law_cell_at) := C8.fnScope_by (by decide +kernel)
theorem k__law_cell_at (D : Z.DK K mg "_law_cell_at" s__law_cell_at ["script", "k"]) (hK : K = G.K) (hw : w = G.w) (hf : Z.Frees mg Z.frees) : Z.FK P w K mg base G 1 "_law_cell_at" 2 F__law_cell_at := by
  unfold F__law_cell_at
  exact Z.fk_of D sc__law_cell_at hK hw Z.frees hf (k := 0) (b := B__law_cell_at) (fun f cdv A outer s H E o tk => (Z.js_cons (Z.js_if (Z.jt_cmp op_lt Z.ok_cmpI (Z.je_var (i := 1) rfl (by first | exact Or.inl rfl | exact Or.inr (Or.inr rfl) | exact Or.inr (Or.inl rfl))) (Z.je_len o (Z.ja_cons (Z.je_var (i := 0) rfl (by first | exact Or.inl rfl | exact Or.inr (Or.inr rfl) | exact Or.inr (Or.inl rfl))) Z.ja_nil)) (by rfl)) (Z.js_one (Z.js_ret (Z.je_ix (Z.ix' o) Z.ok_ixU (Z.je_var (i := 0) rfl (by first | exact Or.inl rfl | exact Or.inr (Or.inr rfl) | exact Or.inr (Or.inl rfl))) (Z.je_var (i := 1) rfl (by first | exact Or.inl rfl | exact Or.inr (Or.inr rfl) | exact Or.inr (Or.inl rfl)))))) Z.js_nil) (Z.js_one (Z.js_ret Z.je_int))))
abbrev s__law_above : Stmt := top 11
theorem sc__law_above : FnScope ["k", "ups", "found"] ["k", "ups"] (defScope s__law_above) := C8.fnScope_by (by decide +kernel)
theorem k__law_above (D : Z.DK K mg "_law_above" s__law_above ["k", "ups"]) (hK : K = G.K) (hw : w = G.w) (hf : Z.Frees mg Z.frees) : Z.FK P w K mg base G 1 "_law_above" 2 F__law_above := by
  unfold F__law_above
  exact Z.fk_of D sc__law_above hK hw Z.frees hf (k := 0) (b := B__law_above) (fun f cdv A outer s H E o tk => (Z.js_cons (Z.js_set (i := 2) sc__law_above.nd (by rfl) (by first | exact Or.inl rfl | exact Or.inr rfl) (Z.je_lst Z.ja_nil)) (Z.js_cons (Z.js_while (passes_of rfl) (Z.jt_cmp op_notN Z.ok_notN (Z.je_ix (Z.ix' o) Z.ok_ixU (Z.je_var (i := 1) rfl (by first | exact Or.inl rfl | exact Or.inr (Or.inr rfl) | exact Or.inr (Or.inl rfl))) (Z.je_var (i := 0) rfl (by first | exact Or.inl rfl | exact Or.inr (Or.inr rfl) | exact Or.inr (Or.inl rfl)))) Z.je_non (by rfl)) (Z.js_cons (Z.js_set (i := 0) sc__law_above.nd (by rfl) (by first | exact Or.inl rfl | exact Or.inr rfl) (Z.je_ix (Z.ix' o) Z.ok_ixU (Z.je_var (i := 1) rfl (by first | exact Or.inl rfl | exact Or.inr (Or.inr rfl) | exact Or.inr (Or.inl rfl))) (Z.je_var (i := 0) rfl (by first | exact Or.inl rfl | exact Or.inr (Or.inr rfl) | exact Or.inr (Or.inl rfl))))) (Z.js_one (Z.js_expr (Z.je_bm F.plainAttrs_list F.slot_list_append F.type_list_append mt_append Z.ok_append Z.ty_lst (Z.je_var (i := 2) rfl (by first | exact Or.inl rfl | exact Or.inr (Or.inr rfl) | exact Or.inr (Or.inl rfl))) (Z.ja_cons (Z.je_var (i := 0) rfl (by first | exact Or.inl rfl | exact Or.inr (Or.inr rfl) | exact Or.inr (Or.inl rfl))) Z.ja_nil) (hK := o.hK)))))) (Z.js_one (Z.js_ret (Z.je_var (i := 2) rfl (by first | exact Or.inl rfl | exact Or.inr (Or.inr rfl) | exact Or.inr (Or.inl rfl))))))))
abbrev s__law_fits : Stmt := top 12
theorem sc__law_fits : FnScope ["condition", "k", "rows", "ups", "word", "row", "j"] ["condition", "k", "rows", "ups"] (defScope s__law_fits) := C8.fnScope_by (by decide +kernel)
theorem k__law_fits (D : Z.DK K mg "_law_fits" s__law_fits ["condition", "k", "rows", "ups"]) (hK : K = G.K) (hw : w = G.w) (hf : Z.Frees mg Z.frees) (c__law_above : Z.FK P w K mg base G 1 "_law_above" 2 F__law_above) : Z.FK P w K mg base G 2 "_law_fits" 4 F__law_fits := by
  unfold F__law_fits
  exact Z.fk_of D sc__law_fits hK hw Z.frees hf (k := 1) (b := B__law_fits) (fun f cdv A outer s H E o tk => (Z.js_cons (Z.js_set (i := 4) sc__law_fits.nd (by rfl) (by first | exact Or.inl rfl | exact Or.inr rfl) (Z.je_ix (Z.ix' o) Z.ok_ixU (Z.je_var (i := 0) rfl (by first | exact Or.inl rfl | exact Or.inr (Or.inr rfl) | exact Or.inr (Or.inl rfl))) Z.je_int)) (Z.js_cons (Z.js_set (i := 5) sc__law_fits.nd (by rfl) (by first | exact Or.inl rfl | exact Or.inr rfl) (Z.je_ix (Z.ix' o) Z.ok_ixU (Z.je_var (i := 2) rfl (by first | exact Or.inl rfl | exact Or.inr (Or.inr rfl) | exact Or.inr (Or.inl rfl))) (Z.je_var (i := 1) rfl (by first | exact Or.inl rfl | exact Or.inr (Or.inr rfl) | exact Or.inr (Or.inl rfl))))) (Z.js_cons (Z.js_if (Z.jt_cmp (Z.op_eq' o) Z.ok_eq (Z.je_var (i := 4) rfl (by first | exact Or.inl rfl | exact Or.inr (Or.inr rfl) | exact Or.inr (Or.inl rfl))) (Z.je_str (by decide +kernel)) (by rfl)) (Z.js_one (Z.js_ret (Z.je_cmp (Z.op_in' o) Z.ok_inU (Z.je_ix (Z.ix' o) Z.ok_ixU (Z.je_var (i := 0) rfl (by first | exact Or.inl rfl | exact Or.inr (Or.inr rfl) | exact Or.inr (Or.inl rfl))) Z.je_int) (Z.je_lc (own := [("j", 6)]) o.calm sc__law_fits.nd (Z.ji_seq (Z.je_fn c__law_above o tk (by omega) (by rfl) (Z.ja_cons (Z.je_var (i := 1) rfl (by first | exact Or.inl rfl | exact Or.inr (Or.inr rfl) | exact Or.inr (Or.inl rfl))) (Z.ja_cons (Z.je_var (i := 3) rfl (by first | exact Or.inl rfl | exact Or.inr (Or.inr rfl) | exact Or.inr (Or.inl rfl))) Z.ja_nil)) (Z.AF.len_cons (Z.AF.len_cons Z.AF.len_nil))) (hK := o.hK.symm)) (blkOk_by (by kernel_rfl)) (fun s H C cl fp => (pg_name sc__law_fits.nd (by rfl) (by first | exact Or.inl rfl | exact Or.inr rfl) (by first | exact .inr rfl | exact .inl rfl))) (Z.ct_name (by decide)) (fun s H C cl fp => Z.jts_nil) (fun s H C cl fp => (Z.je_ix (Z.ix' (Z.Oks.blk o)) Z.ok_ixU (Z.je_ix (Z.ix' (Z.Oks.blk o)) Z.ok_ixU (Z.je_var (i := 2) rfl (by first | exact Or.inl rfl | exact Or.inr (Or.inr rfl) | exact Or.inr (Or.inl rfl))) (Z.je_var (i := 6) rfl (by first | exact Or.inl rfl | exact Or.inr (Or.inr rfl) | exact Or.inr (Or.inl rfl)))) Z.je_int))) (by rfl)))) Z.js_nil) (Z.js_cons (Z.js_if (Z.jt_cmp (Z.op_eq' o) Z.ok_eq (Z.je_var (i := 4) rfl (by first | exact Or.inl rfl | exact Or.inr (Or.inr rfl) | exact Or.inr (Or.inl rfl))) (Z.je_str (by decide +kernel)) (by rfl)) (Z.js_one (Z.js_ret (Z.je_cmp (Z.op_ni' o) Z.ok_notInU Z.je_bl (Z.je_lc (own := [("j", 6)]) o.calm sc__law_fits.nd (Z.ji_seq (Z.je_fn c__law_above o tk (by omega) (by rfl) (Z.ja_cons (Z.je_var (i := 1) rfl (by first | exact Or.inl rfl | exact Or.inr (Or.inr rfl) | exact Or.inr (Or.inl rfl))) (Z.ja_cons (Z.je_var (i := 3) rfl (by first | exact Or.inl rfl | exact Or.inr (Or.inr rfl) | exact Or.inr (Or.inl rfl))) Z.ja_nil)) (Z.AF.len_cons (Z.AF.len_cons Z.AF.len_nil))) (hK := o.hK.symm)) (blkOk_by (by kernel_rfl)) (fun s H C cl fp => (pg_name sc__law_fits.nd (by rfl) (by first | exact Or.inl rfl | exact Or.inr rfl) (by first | exact .inr rfl | exact .inl rfl))) (Z.ct_name (by decide)) (fun s H C cl fp => Z.jts_nil) (fun s H C cl fp => (Z.je_ix (Z.ix' (Z.Oks.blk o)) Z.ok_ixU (Z.je_ix (Z.ix' (Z.Oks.blk o)) Z.ok_ixU (Z.je_var (i := 2) rfl (by first | exact Or.inl rfl | exact Or.inr (Or.inr rfl) | exact Or.inr (Or.inl rfl))) (Z.je_var (i := 6) rfl (by first | exact Or.inl rfl | exact Or.inr (Or.inr rfl) | exact Or.inr (Or.inl rfl)))) Z.je_int))) (by rfl)))) Z.js_nil) (Z.js_cons (Z.js_if (Z.jt_cmp (Z.op_eq' o) Z.ok_eq (Z.je_var (i := 4) rfl (by first | exact Or.inl rfl | exact Or.inr (Or.inr rfl) | exact Or.inr (Or.inl rfl))) (Z.je_str (by decide +kernel)) (by rfl)) (Z.js_one (Z.js_ret (Z.je_cmp (Z.op_ni' o) Z.ok_notInU (Z.je_var (i := 1) rfl (by first | exact Or.inl rfl | exact Or.inr (Or.inr rfl) | exact Or.inr (Or.inl rfl))) (Z.je_var (i := 3) rfl (by first | exact Or.inl rfl | exact Or.inr (Or.inr rfl) | exact Or.inr (Or.inl rfl))) (by rfl)))) Z.js_nil) (Z.js_cons (Z.js_if (Z.jt_cmp (Z.op_eq' o) Z.ok_eq (Z.je_var (i := 4) rfl (by first | exact Or.inl rfl | exact Or.inr (Or.inr rfl) | exact Or.inr (Or.inl rfl))) (Z.je_str (by decide +kernel)) (by rfl)) (Z.js_one (Z.js_ret (Z.je_cmp (Z.op_in' o) Z.ok_inU (Z.je_ix (Z.ix' o) Z.ok_ixU (Z.je_var (i := 0) rfl (by first | exact Or.inl rfl | exact Or.inr (Or.inr rfl) | exact Or.inr (Or.inl rfl))) Z.je_int) (Z.je_ix (Z.ix' o) Z.ok_ixU (Z.je_var (i := 5) rfl (by first | exact Or.inl rfl | exact Or.inr (Or.inr rfl) | exact Or.inr (Or.inl rfl))) Z.je_int) (by rfl)))) Z.js_nil) (Z.js_cons (Z.js_if (Z.jt_cmp (Z.op_eq' o) Z.ok_eq (Z.je_var (i := 4) rfl (by first | exact Or.inl rfl | exact Or.inr (Or.inr rfl) | exact Or.inr (Or.inl rfl))) (Z.je_str (by decide +kernel)) (by rfl)) (Z.js_one (Z.js_ret (Z.je_and (Z.je_cmp op_notN Z.ok_notN (Z.je_ix (Z.ix' o) Z.ok_ixU (Z.je_var (i := 5) rfl (by first | exact Or.inl rfl | exact Or.inr (Or.inr rfl) | exact Or.inr (Or.inl rfl))) Z.je_int) Z.je_non (by rfl)) (Z.je_one (Z.je_cmp (Z.op_eq' o) Z.ok_eq (Z.je_ix (Z.ix' o) Z.ok_ixU (Z.je_var (i := 5) rfl (by first | exact Or.inl rfl | exact Or.inr (Or.inr rfl) | exact Or.inr (Or.inl rfl))) Z.je_int) (Z.je_ix (Z.ix' o) Z.ok_ixU (Z.je_var (i := 0) rfl (by first | exact Or.inl rfl | exact Or.inr (Or.inr rfl) | exact Or.inr (Or.inl rfl))) Z.je_int) (by rfl)))))) Z.js_nil) (Z.js_cons (Z.js_if (Z.jt_cmp (Z.op_eq' o) Z.ok_eq (Z.je_var (i := 4) rfl (by first | exact Or.inl rfl | exact Or.inr (Or.inr rfl) | exact Or.inr (Or.inl rfl))) (Z.je_str (by decide +kernel)) (by rfl)) (Z.js_one (Z.js_ret (Z.je_cmp op_le Z.ok_cmpI (Z.je_ix (Z.ix' o) Z.ok_ixU (Z.je_var (i := 5) rfl (by first | exact Or.inl rfl | exact Or.inr (Or.inr rfl) | exact Or.inr (Or.inl rfl))) Z.je_int) (Z.je_ix (Z.ix' o) Z.ok_ixU (Z.je_var (i := 0) rfl (by first | exact Or.inl rfl | exact Or.inr (Or.inr rfl) | exact Or.inr (Or.inl rfl))) Z.je_int) (by rfl)))) Z.js_nil) (Z.js_one (Z.js_ret (Z.je_ix (Z.ix' o) Z.ok_ixU (Z.je_disp (ps := [((Z.eC (.str "all")), (Z.eC (.bl true))), ((Z.eC (.str "done")), (Z.eBin Z.pIxU (Z.eVar 5) (Z.eC (.int 3)))), ((Z.eC (.str "folded")), (Z.eBin Z.pIxU (Z.eVar 5) (Z.eC (.int 5)))), ((Z.eC (.str "free")), (Z.eBin Z.pIsN (Z.eBin Z.pIxU (Z.eVar 5) (Z.eC (.int 4))) (Z.eC .non)))]) (Z.pps_of_cons (Z.je_str (by decide +kernel)) Z.je_bl (Z.pps_of_cons (Z.je_str (by decide +kernel)) (Z.je_ix (Z.ix' o) Z.ok_ixU (Z.je_var (i := 5) rfl (by first | exact Or.inl rfl | exact Or.inr (Or.inr rfl) | exact Or.inr (Or.inl rfl))) Z.je_int) (Z.pps_of_cons (Z.je_str (by decide +kernel)) (Z.je_ix (Z.ix' o) Z.ok_ixU (Z.je_var (i := 5) rfl (by first | exact Or.inl rfl | exact Or.inr (Or.inr rfl) | exact Or.inr (Or.inl rfl))) Z.je_int) (Z.pps_of_cons (Z.je_str (by decide +kernel)) (Z.je_cmp op_isN Z.ok_isN (Z.je_ix (Z.ix' o) Z.ok_ixU (Z.je_var (i := 5) rfl (by first | exact Or.inl rfl | exact Or.inr (Or.inr rfl) | exact Or.inr (Or.inl rfl))) Z.je_int) Z.je_non (by rfl)) pps_nil)))) o.hK o.hw o.u0) (Z.je_var (i := 4) rfl (by first | exact Or.inl rfl | exact Or.inr (Or.inr rfl) | exact Or.inr (Or.inl rfl)))))))))))))))
abbrev s_law : Stmt := top 14
theorem sc_law : FnScope ["script", "rows", "kept", "ups", "condition", "found", "k", "row"] ["script"] (defScope s_law) := C8.fnScope_by (by decide +kernel)
theorem k0_law {f : Addr} {fd : FuncData} (F : FunD K "law" "law" (defArgs s_law) (defBody s_law) (defScope s_law) [] [] f fd) (hK : K = G.K) (hw : w = G.w) (hf : Z.Frees mg Z.frees) (c__law_rows : Z.FK P w K mg base G 2 "_law_rows" 1 F__law_rows) (c__law_ups : Z.FK P w K mg base G 1 "_law_ups" 1 F__law_ups) (c__law_atom : Z.FK P w K mg base G 1 "_law_atom" 2 F__law_atom) (c_fitting : Z.FK P w K mg base G 42 "fitting" 2 (F_fitting 40)) (c__law_cell_at : Z.FK P w K mg base G 1 "_law_cell_at" 2 F__law_cell_at) (c__law_fits : Z.FK P w K mg base G 2 "_law_fits" 4 F__law_fits) : FnOk P w K mg base (L2.CX P w) 43 f fd ["script"] (Z.spF G 1 F_law) := by
  unfold F_law
  exact Z.fn_F F sc_law rfl rfl (k := 42) (b := B_law) (fun cdv A outer s H E hr tk => by
    have o : Z.Oks (Z.bodyCx P w K mg base ["script", "rows", "kept", "ups", "condition", "found", "k", "row"] "law" (defScope s_law) f cdv A outer s H E) G 42 Z.frees := ⟨hK, hw, rfl, hr, hf⟩
    exact (Z.js_cons (Z.js_set (i := 1) sc_law.nd (by rfl) (by first | exact Or.inl rfl | exact Or.inr rfl) (Z.je_fn c__law_rows o tk (by omega) (by rfl) (Z.ja_cons (Z.je_sl (Z.sl' o) Z.ok_sl (Z.je_var (i := 0) rfl (by first | exact Or.inl rfl | exact Or.inr (Or.inr rfl) | exact Or.inr (Or.inl rfl))) (Z.jo_some Z.je_int) (Z.jo_some Z.je_int)) Z.ja_nil) (Z.AF.len_cons Z.AF.len_nil))) (Z.js_cons (Z.js_set (i := 2) sc_law.nd (by rfl) (by first | exact Or.inl rfl | exact Or.inr rfl) (Z.je_list o (Z.ja_cons (Z.je_var (i := 1) rfl (by first | exact Or.inl rfl | exact Or.inr (Or.inr rfl) | exact Or.inr (Or.inl rfl))) Z.ja_nil))) (Z.js_cons (Z.js_set (i := 3) sc_law.nd (by rfl) (by first | exact Or.inl rfl | exact Or.inr rfl) (Z.je_fn c__law_ups o tk (by omega) (by rfl) (Z.ja_cons (Z.je_var (i := 1) rfl (by first | exact Or.inl rfl | exact Or.inr (Or.inr rfl) | exact Or.inr (Or.inl rfl))) Z.ja_nil) (Z.AF.len_cons Z.AF.len_nil))) (Z.js_cons (Z.js_set (i := 4) sc_law.nd (by rfl) (by first | exact Or.inl rfl | exact Or.inr rfl) (Z.je_fn c__law_atom o tk (by omega) (by rfl) (Z.ja_cons (Z.je_fn c__law_cell_at o tk (by omega) (by rfl) (Z.ja_cons (Z.je_var (i := 0) rfl (by first | exact Or.inl rfl | exact Or.inr (Or.inr rfl) | exact Or.inr (Or.inl rfl))) (Z.ja_cons Z.je_int Z.ja_nil)) (Z.AF.len_cons (Z.AF.len_cons Z.AF.len_nil))) (Z.ja_cons (Z.je_lc (own := [("row", 7)]) o.calm sc_law.nd (Z.ji_seq (Z.je_var (i := 1) rfl (by first | exact Or.inl rfl | exact Or.inr (Or.inr rfl) | exact Or.inr (Or.inl rfl))) (hK := o.hK.symm)) (blkOk_by (by kernel_rfl)) (fun s H C cl fp => (pg_name sc_law.nd (by rfl) (by first | exact Or.inl rfl | exact Or.inr rfl) (by first | exact .inr rfl | exact .inl rfl))) (Z.ct_name (by decide)) (fun s H C cl fp => Z.jts_nil) (fun s H C cl fp => (Z.je_ix (Z.ix' (Z.Oks.blk o)) Z.ok_ixU (Z.je_var (i := 7) rfl (by first | exact Or.inl rfl | exact Or.inr (Or.inr rfl) | exact Or.inr (Or.inl rfl))) Z.je_int))) Z.ja_nil)) (Z.AF.len_cons (Z.AF.len_cons Z.AF.len_nil)))) (Z.js_cons (Z.js_set (i := 5) sc_law.nd (by rfl) (by first | exact Or.inl rfl | exact Or.inr rfl) (Z.je_fn c_fitting o tk (by omega) (by rfl) (Z.ja_cons (Z.je_var (i := 4) rfl (by first | exact Or.inl rfl | exact Or.inr (Or.inr rfl) | exact Or.inr (Or.inl rfl))) (Z.ja_cons (Z.je_var (i := 1) rfl (by first | exact Or.inl rfl | exact Or.inr (Or.inr rfl) | exact Or.inr (Or.inl rfl))) Z.ja_nil)) (Z.AF.len_cons (Z.AF.len_cons Z.AF.len_nil)))) (Z.js_cons (Z.js_if (PW.pt (Z.jt_or (Z.jt_not (Z.jt_val (Z.je_isT (T := "list") (by rfl) (o.fr _ (by decide)) (Z.je_var (i := 5) rfl (by first | exact Or.inl rfl | exact Or.inr (Or.inr rfl) | exact Or.inr (Or.inl rfl))) (by rfl) (o.fr _ (by decide)) (by decide +kernel) (by decide) (by decide +kernel) (hK := o.hK)))) (Z.jt_or (Z.jt_cmp (Z.op_ne' o) Z.ok_ne (Z.je_len o (Z.ja_cons (Z.je_var (i := 5) rfl (by first | exact Or.inl rfl | exact Or.inr (Or.inr rfl) | exact Or.inr (Or.inl rfl))) Z.ja_nil)) (Z.je_len o (Z.ja_cons (Z.je_var (i := 1) rfl (by first | exact Or.inl rfl | exact Or.inr (Or.inr rfl) | exact Or.inr (Or.inl rfl))) Z.ja_nil)) (by rfl)) (Z.jt_or1 (Z.jt_cmp (Z.op_ne' o) Z.ok_ne (Z.je_var (i := 1) rfl (by first | exact Or.inl rfl | exact Or.inr (Or.inr rfl) | exact Or.inr (Or.inl rfl))) (Z.je_var (i := 2) rfl (by first | exact Or.inl rfl | exact Or.inr (Or.inr rfl) | exact Or.inr (Or.inl rfl))) (by rfl)))))) (Z.js_one (Z.js_ret Z.je_bl)) Z.js_nil) (Z.js_cons (Z.js_for (passes_of rfl) rfl (Z.ji_rng1 (by rfl) (o.fr _ (by decide)) (Z.ja_cons (Z.je_len o (Z.ja_cons (Z.je_var (i := 1) rfl (by first | exact Or.inl rfl | exact Or.inr (Or.inr rfl) | exact Or.inr (Or.inl rfl))) Z.ja_nil)) Z.ja_nil)) (Z.jg_name (j := 6) sc_law.nd (by rfl) (by first | exact Or.inl rfl | exact Or.inr rfl)) (Z.js_one (Z.js_if (PW.pt (Z.jt_or (Z.jt_not (Z.jt_val (Z.je_isT (T := "bool") (by rfl) (o.fr _ (by decide)) (Z.je_ix (Z.ix' o) Z.ok_ixU (Z.je_var (i := 5) rfl (by first | exact Or.inl rfl | exact Or.inr (Or.inr rfl) | exact Or.inr (Or.inl rfl))) (Z.je_var (i := 6) rfl (by first | exact Or.inl rfl | exact Or.inr (Or.inr rfl) | exact Or.inr (Or.inl rfl)))) (by rfl) (o.fr _ (by decide)) (by decide +kernel) (by decide) (by decide +kernel) (hK := o.hK)))) (Z.jt_or1 (Z.jt_cmp (Z.op_ne' o) Z.ok_ne (Z.je_ix (Z.ix' o) Z.ok_ixU (Z.je_var (i := 5) rfl (by first | exact Or.inl rfl | exact Or.inr (Or.inr rfl) | exact Or.inr (Or.inl rfl))) (Z.je_var (i := 6) rfl (by first | exact Or.inl rfl | exact Or.inr (Or.inr rfl) | exact Or.inr (Or.inl rfl)))) (Z.je_fn c__law_fits o tk (by omega) (by rfl) (Z.ja_cons (Z.je_var (i := 4) rfl (by first | exact Or.inl rfl | exact Or.inr (Or.inr rfl) | exact Or.inr (Or.inl rfl))) (Z.ja_cons (Z.je_var (i := 6) rfl (by first | exact Or.inl rfl | exact Or.inr (Or.inr rfl) | exact Or.inr (Or.inl rfl))) (Z.ja_cons (Z.je_var (i := 1) rfl (by first | exact Or.inl rfl | exact Or.inr (Or.inr rfl) | exact Or.inr (Or.inl rfl))) (Z.ja_cons (Z.je_var (i := 3) rfl (by first | exact Or.inl rfl | exact Or.inr (Or.inr rfl) | exact Or.inr (Or.inl rfl))) Z.ja_nil)))) (Z.AF.len_cons (Z.AF.len_cons (Z.AF.len_cons (Z.AF.len_cons Z.AF.len_nil))))) (by rfl))))) (Z.js_one (Z.js_ret Z.je_bl)) Z.js_nil))) (Z.js_one (Z.js_ret (Z.je_cmp (Z.op_eq' o) Z.ok_eq (Z.je_fn c_fitting o tk (by omega) (by rfl) (Z.ja_cons (Z.je_var (i := 4) rfl (by first | exact Or.inl rfl | exact Or.inr (Or.inr rfl) | exact Or.inr (Or.inl rfl))) (Z.ja_cons (Z.je_var (i := 1) rfl (by first | exact Or.inl rfl | exact Or.inr (Or.inr rfl) | exact Or.inr (Or.inl rfl))) Z.ja_nil)) (Z.AF.len_cons (Z.AF.len_cons Z.AF.len_nil))) (Z.je_var (i := 5) rfl (by first | exact Or.inl rfl | exact Or.inr (Or.inr rfl) | exact Or.inr (Or.inl rfl))) (by rfl)))))))))))) hK
end
end Z.K50
/-! K50m: what the functions of k50 compute. -/
namespace Z.K50
open Z
open L2 (atI)
def leafAt (L : List Row) (k : Nat) : Bool := decide (k + 1 = L.length) || match L[k + 1]?, L[k]? with
  | some a, some b => decide (a.d ≤ b.d)
  | _, _ => true
theorem rowV {L : List Row} {i : Nat} {x : PV} (h : (L.map Row.v)[i]? = some x) : ∃ a, L[i]? = some a ∧ x = a.v := by
  rw [List.getElem?_map] at h
  cases e : L[i]? with
  | none => rw [e] at h; cases h
  | some a => rw [e] at h; cases h; exact ⟨a, rfl, rfl⟩
theorem leaves_ok {h : PH} {n : Nat} {L : List Row} (hl : L.length ≤ 1000) (hn : listAt h n = some (L.map Row.v)) :
    (F_leaves [.ref n] h).sat (NewL h ((List.range L.length).map fun k => .bl (leafAt L k))) X1 := by
  unfold F_leaves
  refine run_sat ?_
  unfold B_leaves
  simp only [List.map_cons, List.map_nil, List.length_cons, List.length_nil, List.cons_append, List.nil_append, List.replicate, Nat.reduceAdd, Nat.reduceSub]
  simp only [sSeq_ap, sAsg_ap, eArg_ap, aNil_ap, bind_ok, pLst_nil, rp_some, toS_ok, gName_1, toN_ok, thn_nx]
  rw [sat_thn]
  refine for_enum (n := n) (xs := L.map Row.v) rfl (listAt_pfx (List.prefix_append _ _) hn) (fun i r g => h <+: g ∧ (∃ a b, r = [some (.ref n), some (.ref h.length), a, b]) ∧ g[h.length]? = some (.lst ((List.range i).map fun k => .bl (leafAt L k))))
    ⟨List.prefix_append _ _, ⟨_, _, rfl⟩, by simp⟩ (fun i r g ⟨p, _, _⟩ => listAt_pfx p hn) ?_ ?_
  · intro i x r g hx ⟨p, ⟨a, b, hr⟩, hd⟩
    obtain ⟨w, hw, rfl⟩ := rowV hx
    subst hr
    have hi := (List.getElem?_eq_some_iff.mp hw).1
    refine ⟨[some (.ref n), some (.ref h.length), some (.int i), some w.v], g, rfl, ?_⟩
    have hng := listAt_pfx p hn
    have eb : L1_leaves [some (.ref n), some (.ref h.length), some (.int i), some w.v] g = .nx [some (.ref n), some (.ref h.length), some (.int i), some w.v] (g.set h.length (.lst ((List.range i).map (fun k => PV.bl (leafAt L k)) ++ [.bl (leafAt L i)]))) := by
      unfold L1_leaves
      by_cases he : i + 1 = L.length
      · have e1 : (i : Int) + 1 = L.length := by omega
        have e2 : leafAt L i = true := by simp [leafAt, he]
        simp [isLst_l (listAt_l hd), pLen_l hng, e1, e2, pAppend_l hd (sz_lt (by simp; omega))]
      · have hi1 : i + 1 < L.length := by omega
        have e1 : ¬ (i : Int) + 1 = (L.length : Int) := by omega
        have a1 : atI (L.map Row.v) ((i : Int) + 1) = some (L[i + 1]).v := atI_nat (k := i + 1) (by simp [hi1])
        have hwi : L[i] = w := by simpa [List.getElem?_eq_getElem hi] using hw
        have e2 : leafAt L i = decide (L[i + 1].d ≤ w.d) := by simp [leafAt, he, hi, hi1, hwi]
        simp [isLst_l (listAt_l hd), pLen_l hng, e1, e2, pIxU_l hng, a1, Row.v, pAppend_l hd (sz_lt (by simp; omega))]
    rw [eb]
    refine ⟨pfx_set p (Nat.le_refl _), ⟨_, _, rfl⟩, ?_⟩
    rw [List.getElem?_set_self (get_lt hd), List.range_succ, List.map_append]
    rfl
  · intro r g ⟨p, ⟨a, b, hr⟩, hd⟩
    subst hr
    simp only [sRet_ap, eVar_1, toS_ok, sat_ret]
    simp at hd
    exact ⟨p, h.length, rfl, Nat.le_refl _, hd⟩
/-! ### texts -/
theorem text_ok {h : PH} {i : Int} : (F__law_text [.int i] h).sat (fun v h' => h <+: h' ∧ ∃ t, v = .str t ∧ t.length ≤ 100) X1 := by
  unfold F__law_text
  refine run_sat ?_
  unfold B__law_text
  simp only [List.map_cons, List.map_nil, List.length_cons, List.length_nil, List.cons_append, List.nil_append, List.replicate, Nat.reduceAdd, Nat.reduceSub]
  have m5 : ∀ j : Int, j % 12 < 12 ∧ 0 ≤ j % 12 := fun j => ⟨Int.emod_lt_of_pos _ (by decide), Int.emod_nonneg _ (by decide)⟩
  have hsome : ∀ (l : List PV), l = [.str "", .str "a", .str "b", .str "ab", .str "b a", .str "a b c", .str "B", .str "ab ab", .str "or", .str "not a", .str "( a )", .str "a(b"] → ∃ t, atI l (i % 12) = some (.str t) ∧ t.length ≤ 6 := by
    rintro l rfl
    obtain ⟨a, e, ha⟩ := atI_lt (xs := ([.str "", .str "a", .str "b", .str "ab", .str "b a", .str "a b c", .str "B", .str "ab ab", .str "or", .str "not a", .str "( a )", .str "a(b"] : List PV)) (m5 i).2 (m5 i).1
    have hm := List.mem_of_getElem? ha
    rw [e]
    simp only [List.mem_cons, List.not_mem_nil, or_false] at hm
    rcases hm with rfl | rfl | rfl | rfl | rfl | rfl | rfl | rfl | rfl | rfl | rfl | rfl <;> exact ⟨_, rfl, by decide⟩
  obtain ⟨t, ht, hlt⟩ := hsome _ rfl
  have m30 : 0 ≤ i / 60 % 30 ∧ i / 60 % 30 < 30 := ⟨Int.emod_nonneg _ (by decide), Int.emod_lt_of_pos _ (by decide)⟩
  have la := (mulS_ok (s := "a") (n := i / 60 % 30) (by decide) (by omega) (by omega)).2
  have lb := (mulS_ok (s := "b") (n := i / 60 % 30) (by decide) (by omega) (by omega)).2
  have la1 : ("a" : PySem.Str).length = 1 := by decide
  have lb1 : ("b" : PySem.Str).length = 1 := by decide
  rw [la1, Nat.one_mul] at la
  rw [lb1, Nat.one_mul] at lb
  have pa : ∀ g, pMul (.str "a") (.int (i / 60 % 30)) g = some (.str (PySem.Txt.mul "a" (i / 60 % 30)), g) := fun g => pMul_s (by decide) (by omega) (by omega)
  have pb : ∀ g, pMul (.str "b") (.int (i / 60 % 30)) g = some (.str (PySem.Txt.mul "b" (i / 60 % 30)), g) := fun g => pMul_s (by decide) (by omega) (by omega)
  have p1 : ∀ g, pAdd (.str (PySem.Txt.mul "a" (i / 60 % 30))) (.str t) g = some (.str (PySem.Txt.mul "a" (i / 60 % 30) ++ t), g) := fun g => pAdd_s (by omega)
  have l1 : (PySem.Txt.mul "a" (i / 60 % 30) ++ t).length = (PySem.Txt.mul "a" (i / 60 % 30)).length + t.length := PySem.Str.length_append _ _
  have p2 : ∀ g, pAdd (.str (PySem.Txt.mul "a" (i / 60 % 30) ++ t)) (.str (PySem.Txt.mul "b" (i / 60 % 30))) g = some (.str (PySem.Txt.mul "a" (i / 60 % 30) ++ t ++ PySem.Txt.mul "b" (i / 60 % 30)), g) := fun g => pAdd_s (by omega)
  have l2 : (PySem.Txt.mul "a" (i / 60 % 30) ++ t ++ PySem.Txt.mul "b" (i / 60 % 30)).length = (PySem.Txt.mul "a" (i / 60 % 30) ++ t).length + (PySem.Txt.mul "b" (i / 60 % 30)).length := PySem.Str.length_append _ _
  by_cases hc : i / 12 % 5 = 4
  · simp [pLst_n, pDiv_i, pMod_i, pIxU_l new_l, ht, hc, pa, pb, p1, p2]
    omega
  · simp [pLst_n, pDiv_i, pMod_i, pIxU_l new_l, ht, hc]
    omega
end Z.K50
/-! K50n: the rows of the law. -/
namespace Z.K50
open Z
open L2 (atI)
/-- how deep the row at k may be -/
def dp (L : List Row) (k : Nat) : Nat := match k with
  | 0 => 0
  | j + 1 => match L[j]? with
    | some q => q.d + 1
    | none => 0
structure Good (L : List Row) : Prop where
  len : L.length ≤ 40
  chain : ∀ (k : Nat) (r : Row), L[k]? = some r → r.d ≤ dp L k
  name : ∀ (k : Nat) (r : Row), L[k]? = some r → r.n2 = (k : Int) + 1 ∨ r.n2 = 201 - (k : Int)
theorem dp_app {L : List Row} {r : Row} {k : Nat} (hk : k ≤ L.length) : dp (L ++ [r]) k = dp L k := by
  cases k with
  | zero => rfl
  | succ j =>
    unfold dp
    dsimp only
    rw [List.getElem?_append_left (by omega)]
theorem Good.snoc {L : List Row} {r : Row} (g : Good L) (hl : L.length < 40) (hd : r.d ≤ dp L L.length) (hn : r.n2 = (L.length : Int) + 1 ∨ r.n2 = 201 - (L.length : Int)) : Good (L ++ [r]) := by
  refine ⟨by simp; omega, fun k q h => ?_, fun k q h => ?_⟩
  · by_cases hk : k < L.length
    · rw [List.getElem?_append_left hk] at h
      rw [dp_app (by omega)]
      exact g.chain k q h
    · have hk2 := (List.getElem?_eq_some_iff.mp h).1
      simp at hk2
      have e : k = L.length := by omega
      subst e
      simp at h
      subst h
      rw [dp_app (Nat.le_refl _)]
      exact hd
  · by_cases hk : k < L.length
    · rw [List.getElem?_append_left hk] at h
      exact g.name k q h
    · have hk2 := (List.getElem?_eq_some_iff.mp h).1
      simp at hk2
      have e : k = L.length := by omega
      subst e
      simp at h
      subst h
      exact hn
theorem row_step {g : PH} {n m : Nat} {L : List Row} {c : Int} {x5 x6 x7 x8 : Option PV} (G : Good L) (hl : L.length < 40) (hd : g[m]? = some (.lst (L.map Row.v))) :
    ∃ r : Row, Good (L ++ [r]) ∧ ∃ y5 y6 y7 y8 g2, L1__law_rows [some (.ref n), some (.ref m), some (.int (dp L L.length)), some (.int L.length), some (.int c), x5, x6, x7, x8] g = .nx [some (.ref n), some (.ref m), some (.int (dp (L ++ [r]) (L ++ [r]).length)), some (.int L.length), some (.int c), y5, y6, y7, y8] (g2.set m (.lst ((L ++ [r]).map Row.v))) ∧ g <+: g2 := by
  generalize hN : c % 1000003 * 48271 % 2147483647 = N
  have hc4 : 0 ≤ c % 4 ∧ c % 4 < 4 := ⟨Int.emod_nonneg _ (by decide), Int.emod_lt_of_pos _ (by decide)⟩
  have h82 : N / 8 % 2 = 0 ∨ N / 8 % 2 = 1 := by omega
  obtain ⟨z, hz, hz2⟩ : ∃ z : Int, atI ([.int L.length, .int (200 - (L.length : Int))] : List PV) (N / 8 % 2) = some (.int z) ∧ (1 + z = (L.length : Int) + 1 ∨ 1 + z = 201 - (L.length : Int)) := by
    rcases h82 with e | e
    · rw [e]; exact ⟨_, atI_0, by omega⟩
    · rw [e]; exact ⟨_, atI_1, by omega⟩
  obtain ⟨who, hw⟩ : ∃ who : Option Int, atI ([.non, .int (N / 64 % 8)] : List PV) (if 0 < N / 16 % 3 then 1 else 0) = some (whoV who) := by
    by_cases e : 0 < N / 16 % 3
    · rw [if_pos e]; exact ⟨some _, atI_1⟩
    · rw [if_neg e]; exact ⟨none, atI_0⟩
  obtain ⟨v, g3, e3, p3, t, rfl, ht⟩ := Res.get (text_ok (h := g ++ [.lst [.int L.length, .int (200 - (L.length : Int))], .lst [.non, .int (N / 64 % 8)]]) (i := c / 4))
  generalize hD : dp L L.length = D
  have hd3 : g3[m]? = some (.lst (L.map Row.v)) := pfx_get p3 (get_app hd)
  have hdd : ∃ d : Nat, (D : Int) - (if (D : Int) < c % 4 then (D : Int) else c % 4) = d ∧ d ≤ D := by
    by_cases e : (D : Int) < c % 4
    · rw [if_pos e]; exact ⟨0, by omega, by omega⟩
    · rw [if_neg e]; exact ⟨D - (c % 4).toNat, by omega, by omega⟩
  obtain ⟨d, ed, hdD⟩ := hdd
  refine ⟨⟨d, N % 8, 1 + z, t, decide (N / 48 % 2 = 1), who, decide (N / 96 % 3 = 1)⟩, G.snoc hl (by rw [hD]; exact hdD) hz2, some (.int N), some (.int d), some (.tup [.int (N % 8), .int (1 + z)]), some (whoV who), g3, ?_, (List.prefix_append _ _).trans p3⟩
  have eD : dp (L ++ [⟨d, N % 8, 1 + z, t, decide (N / 48 % 2 = 1), who, decide (N / 96 % 3 = 1)⟩]) (L ++ [(⟨d, N % 8, 1 + z, t, decide (N / 48 % 2 = 1), who, decide (N / 96 % 3 = 1)⟩ : Row)]).length = d + 1 := by
    rw [List.length_append]
    unfold dp
    simp
  rw [eD]
  unfold L1__law_rows
  have im1 : inM 48271 = true := by decide +kernel
  simp [pMod_i, pMul_i im1, hN]
  simp [pMod_i, pDiv_i, ed, pLst_n, pTup_n, pIxU_l new_l, hz, hw, pIxU_l new_l2, e3, isLst_l (listAt_l (get_app hd)), pAppend_l hd3 (sz_lt (by simp; omega)), Row.v, Row.nm]
theorem rows_ok {h : PH} {n : Nat} {cs : List Int} (hl : cs.length ≤ 40) (hn : listAt h n = some (cs.map PV.int)) :
    (F__law_rows [.ref n] h).sat (fun v h' => ∃ L : List Row, Good L ∧ NewL h (L.map Row.v) v h') X1 := by
  unfold F__law_rows
  refine run_sat ?_
  unfold B__law_rows
  simp only [List.map_cons, List.map_nil, List.length_cons, List.length_nil, List.cons_append, List.nil_append, List.replicate, Nat.reduceAdd, Nat.reduceSub]
  simp only [sSeq_ap, sAsg_ap, eArg_ap, aNil_ap, bind_ok, pLst_nil, rp_some, toS_ok, gName_1, toN_ok, thn_nx, eC_ap, gName_2]
  rw [sat_thn]
  refine for_enum (n := n) (xs := cs.map PV.int) rfl (listAt_pfx (List.prefix_append _ _) hn) (fun i r g => h <+: g ∧ ∃ L : List Row, L.length = i ∧ Good L ∧ (∃ a b c d e f, r = [some (.ref n), some (.ref h.length), some (.int (dp L L.length)), a, b, c, d, e, f]) ∧ g[h.length]? = some (.lst (L.map Row.v)))
    ⟨List.prefix_append _ _, [], rfl, ⟨Nat.zero_le _, fun k r z => by simp at z, fun k r z => by simp at z⟩, ⟨_, _, _, _, _, _, rfl⟩, by simp⟩ (fun i r g q => listAt_pfx q.1 hn) ?_ ?_
  · intro i x r g hx ⟨p, L, hL, G, ⟨a, b, c, d, e, f, hr⟩, hd⟩
    subst hr
    rw [List.getElem?_map] at hx
    have hi : i < cs.length := by
      by_cases hi : i < cs.length
      · exact hi
      · rw [List.getElem?_eq_none (by omega)] at hx; cases hx
    rw [List.getElem?_eq_getElem hi] at hx
    cases hx
    subst hL
    obtain ⟨w, G2, y5, y6, y7, y8, g2, eb, p2⟩ := row_step (n := n) (c := cs[L.length]) (x5 := c) (x6 := d) (x7 := e) (x8 := f) G (by omega) hd
    refine ⟨[some (.ref n), some (.ref h.length), some (.int (dp L L.length)), some (.int L.length), some (.int cs[L.length]), c, d, e, f], g, rfl, ?_⟩
    rw [eb]
    refine ⟨pfx_set (p.trans p2) (Nat.le_refl _), L ++ [w], by simp, G2, ⟨_, _, _, _, _, _, rfl⟩, ?_⟩
    rw [List.getElem?_set_self (Nat.lt_of_lt_of_le (get_lt hd) (pfx_len p2))]
  · intro r g ⟨p, L, hL, G, ⟨a, b, c, d, e, f, hr⟩, hd⟩
    subst hr
    simp only [sRet_ap, eVar_1, toS_ok, sat_ret]
    exact ⟨L, G, p, h.length, rfl, Nat.le_refl _, hd⟩
/-! ### ups -/
/-- the last row ahead of k that is so deep -/
def lastAt (L : List Row) (d : Int) : Nat → Option Nat
  | 0 => none
  | k + 1 => match L[k]? with
    | some r => if (r.d : Int) = d then some k else lastAt L d k
    | none => lastAt L d k
def optV : Option Nat → PV
  | none => .non
  | some k => .int k
def upAt (L : List Row) (k : Nat) : Option Nat := match L[k]? with
  | some r => lastAt L ((r.d : Int) - 1) k
  | none => none
theorem ups_ok {h : PH} {n : Nat} {L : List Row} (hl : L.length ≤ 40) (hn : listAt h n = some (L.map Row.v)) :
    (F__law_ups [.ref n] h).sat (NewL h ((List.range L.length).map fun k => optV (upAt L k))) X1 := by
  unfold F__law_ups
  refine run_sat ?_
  unfold B__law_ups
  simp only [List.map_cons, List.map_nil, List.length_cons, List.length_nil, List.cons_append, List.nil_append, List.replicate, Nat.reduceAdd, Nat.reduceSub]
  simp only [sSeq_ap, sAsg_ap, eNewD_ap, eArg_ap, aNil_ap, bind_ok, pLst_nil, rp_some, toS_ok, gName_1, toN_ok, thn_nx, eC_ap, gName_2]
  rw [sat_thn]
  have p0 : h <+: h ++ [.dct 0 []] ++ [.lst []] := by rw [List.append_assoc]; exact List.prefix_append _ _
  refine for_enum (n := n) (xs := L.map Row.v) rfl (listAt_pfx p0 hn) (fun i r g => h <+: g ∧ (∃ a b, r = [some (.ref n), some (.ref h.length), some (.ref (h.length + 1)), a, b]) ∧
      (∃ ep kvs, g[h.length]? = some (.dct ep kvs) ∧ kvs.length ≤ i ∧ ∀ d : Int, (dGet kvs (.int d)).getD .non = optV (lastAt L d i)) ∧ g[h.length + 1]? = some (.lst ((List.range i).map fun k => optV (upAt L k))))
    ⟨p0, ⟨none, none, by simp⟩, ⟨0, [], by simp, Nat.le_refl _, fun d => rfl⟩, by simp⟩ (fun i r g q => listAt_pfx q.1 hn) ?_ ?_
  · intro i x r g hx ⟨p, ⟨a, b, hr⟩, ⟨ep, kvs, hk, hkl, hv⟩, hd⟩
    obtain ⟨w, hw, rfl⟩ := rowV hx
    subst hr
    have hi := (List.getElem?_eq_some_iff.mp hw).1
    refine ⟨[some (.ref n), some (.ref h.length), some (.ref (h.length + 1)), some (.int i), some w.v], g, rfl, ?_⟩
    have hk2 : (g.set (h.length + 1) (.lst ((List.range i).map (fun k => optV (upAt L k)) ++ [optV (upAt L i)])))[h.length]? = some (.dct ep kvs) := by rw [List.getElem?_set_ne (by omega)]; exact hk
    have eu : upAt L i = lastAt L ((w.d : Int) - 1) i := by unfold upAt; rw [hw]
    have eb : L1__law_ups [some (.ref n), some (.ref h.length), some (.ref (h.length + 1)), some (.int i), some w.v] g = .nx [some (.ref n), some (.ref h.length), some (.ref (h.length + 1)), some (.int i), some w.v]
        ((g.set (h.length + 1) (.lst ((List.range i).map (fun k => optV (upAt L k)) ++ [optV (upAt L i)]))).set h.length (.dct (if dHas kvs (.int w.d) then ep else ep + 1) (dPut kvs (.int w.d) (.int i)))) := by
      unfold L1__law_ups
      simp [isLst_l (listAt_l hd), isDct_d hk, Row.v, pGet1 hk kOk_int, hv, ← eu, pAppend_l hd (sz_lt (by simp; omega)), pSetU_d hk2 kOk_int (sz_lt (by omega))]
    rw [eb]
    refine ⟨pfx_set (pfx_set p (by omega)) (Nat.le_refl _), ⟨_, _, rfl⟩, ⟨_, _, List.getElem?_set_self (by simpa using get_lt hk), Nat.le_trans dPut_len (by omega), fun d => ?_⟩, ?_⟩
    · rw [dGet_put]
      unfold lastAt
      rw [hw]
      dsimp only
      by_cases e : (w.d : Int) = d
      · subst e
        rw [if_pos rfl, if_pos rfl]
        rfl
      · rw [if_neg e, if_neg (fun z => e (by injection z with z; exact z.symm))]
        exact hv d
    · rw [List.getElem?_set_ne (by omega), List.getElem?_set_self (get_lt hd), List.range_succ, List.map_append]
      rfl
  · intro r g ⟨p, ⟨a, b, hr⟩, _, hd⟩
    subst hr
    simp only [sRet_ap, eVar_2, toS_ok, sat_ret]
    simp at hd
    exact ⟨p, h.length + 1, rfl, by omega, hd⟩
end Z.K50
/-! K50o: seen, beneath. -/
namespace Z.K50
open Z
open L2 (atI)
def stk (L : List Row) : Nat → List Bool
  | 0 => []
  | k + 1 => match L[k]? with
    | some r => (stk L k).take r.d ++ [r.fo]
    | none => stk L k
theorem stk_len (L : List Row) : ∀ k, (stk L k).length ≤ k
  | 0 => Nat.le_refl _
  | k + 1 => by
    have ih := stk_len L k
    unfold stk
    split
    · rw [List.length_append, List.length_take]
      simp
      omega
    · omega
def seenAt (L : List Row) (k : Nat) : Bool := match L[k]? with
  | some r => !((stk L k).take r.d).any id
  | none => true
theorem seen_ok {h : PH} {n : Nat} {L : List Row} (hl : L.length ≤ 40) (hn : listAt h n = some (L.map Row.v)) :
    (F_unhidden [.ref n] h).sat (NewL h ((List.range L.length).map fun k => PV.bl (seenAt L k))) X1 := by
  unfold F_unhidden
  refine run_sat ?_
  unfold B_unhidden
  simp only [List.map_cons, List.map_nil, List.length_cons, List.length_nil, List.cons_append, List.nil_append, List.replicate, Nat.reduceAdd, Nat.reduceSub]
  simp only [sSeq_ap, sAsg_ap, eArg_ap, aNil_ap, bind_ok, pLst_nil, rp_some, toS_ok, gName_1, toN_ok, thn_nx, eC_ap, gName_2]
  rw [sat_thn]
  have p0 : h <+: h ++ [.lst []] ++ [.lst []] := by rw [List.append_assoc]; exact List.prefix_append _ _
  have sq : ∀ g, h <+: g → seqOf g (.ref n) = some (L.map Row.v) := fun g p => listAt_pfx p hn
  refine for_seq (v := .ref n) (xs := L.map Row.v) rfl (sq _ p0) (fun i r g => h <+: g ∧ ∃ m a, r = [some (.ref n), some (.ref m), some (.ref (h.length + 1)), a] ∧ h.length ≤ m ∧ m ≠ h.length + 1 ∧ g[m]? = some (.lst ((stk L i).map PV.bl)) ∧
      g[h.length + 1]? = some (.lst ((List.range i).map fun k => PV.bl (seenAt L k))))
    ⟨p0, h.length, none, by simp, Nat.le_refl _, by omega, by simp [stk], by simp⟩ (fun i r g q => sq g q.1) ?_ ?_
  · intro i x r g hx ⟨p, m, a, hr, hm, hne, hs, hd⟩
    obtain ⟨w, hw, rfl⟩ := rowV hx
    subst hr
    have hi := (List.getElem?_eq_some_iff.mp hw).1
    have hg2 : h.length + 1 < g.length := get_lt hd
    refine ⟨[some (.ref n), some (.ref m), some (.ref (h.length + 1)), some w.v], g, rfl, ?_⟩
    have es : seenAt L i = !((stk L i).take w.d).any id := by unfold seenAt; rw [hw]
    have sl := stk_len L i
    have k1 : listAt (g ++ [PO.lst (((stk L i).take w.d).map PV.bl)]) g.length = some (((stk L i).take w.d).map PV.bl) := new_l
    have k2 : (g ++ [PO.lst (((stk L i).take w.d).map PV.bl)])[h.length + 1]? = some (.lst ((List.range i).map fun k => PV.bl (seenAt L k))) := get_app hd
    have k3 : ((g ++ [PO.lst (((stk L i).take w.d).map PV.bl)]).set (h.length + 1) (PO.lst ((List.range i).map (fun k => PV.bl (seenAt L k)) ++ [PV.bl (seenAt L i)])))[g.length]? = some (.lst (((stk L i).take w.d).map PV.bl)) := by
      rw [List.getElem?_set_ne (by omega)]; simp
    have el : (((stk L i).take w.d).map PV.bl).length < PySem.sizeLine := sz_lt (by simp; omega)
    have ec : ((List.range i).map fun k => PV.bl (seenAt L k)).length < PySem.sizeLine := sz_lt (by simp; omega)
    have eb : L1_unhidden [some (.ref n), some (.ref m), some (.ref (h.length + 1)), some w.v] g = .nx [some (.ref n), some (.ref g.length), some (.ref (h.length + 1)), some w.v]
        (((g ++ [PO.lst (((stk L i).take w.d).map PV.bl)]).set (h.length + 1) (PO.lst ((List.range i).map (fun k => PV.bl (seenAt L k)) ++ [PV.bl (seenAt L i)]))).set g.length (PO.lst (((stk L i).take w.d).map PV.bl ++ [PV.bl w.fo]))) := by
      unfold L1_unhidden
      have c1 := pSlc_take (d := w.d) (listAt_l hs)
      rw [← List.map_take] at c1
      have c2 := pAny_l k1
      simp only [sSeq_ap, sAsg_ap, sExpr_ap, eSl_ap, eVar_1, eVar_3, eVar_2, oNo_ap, oPart_ap, eBin_ap, eC_ap, bind_ok, Row.v, pIxU_t, atI_0, Option.map_some, rp_some, c1, toS_ok, gName_1, toN_ok, thn_nx,
        eBM_ap, isLst_l (listAt_l k2), if_pos, aCons_ap, aNil_ap, eNot_ap, eArg_ap, c2, onB_ok, ← es, pAppend_l k2 ec, isLst_l (listAt_l k3), atI_5, pAppend_l k3 el]
    rw [eb]
    refine ⟨pfx_set (pfx_set (pfx_app p) (by omega)) (pfx_len p), g.length, _, rfl, pfx_len p, by omega, ?_, ?_⟩
    · rw [List.getElem?_set_self (by simp)]
      have e3 : stk L (i + 1) = (stk L i).take w.d ++ [w.fo] := by rw [stk, hw]
      rw [e3, List.map_append]
      rfl
    · rw [List.getElem?_set_ne (by omega), List.getElem?_set_self (by simp; omega), List.range_succ, List.map_append]
      rfl
  · intro r g ⟨p, m, a, hr, hm, hne, hs, hd⟩
    subst hr
    simp only [sRet_ap, eVar_2, toS_ok, sat_ret]
    simp at hd
    exact ⟨p, h.length + 1, rfl, by omega, hd⟩
/-! ### beneath -/
def cutD (o : Option Nat) (d : Nat) : Option Nat := match o with
  | some e => if d ≤ e then none else some e
  | none => none
def udep (L : List Row) (a b : Int) : Nat → Option Nat
  | 0 => none
  | k + 1 => match L[k]? with
    | some r => if r.n1 = a ∧ r.n2 = b then some r.d else cutD (udep L a b k) r.d
    | none => udep L a b k
def underAt (L : List Row) (a b : Int) (k : Nat) : Bool := match L[k]? with
  | some r => (cutD (udep L a b k) r.d).isSome
  | none => false
theorem isNon_opt {o : Option Nat} : isNon (optV o) = o.isNone := by cases o <;> rfl
theorem under_ok {h : PH} {n : Nat} {L : List Row} {a b : Int} (hl : L.length ≤ 40) (hn : listAt h n = some (L.map Row.v)) :
    (F_under [.tup [.int a, .int b], .ref n] h).sat (NewL h ((List.range L.length).map fun k => PV.bl (underAt L a b k))) X1 := by
  unfold F_under
  refine run_sat ?_
  unfold B_under
  simp only [List.map_cons, List.map_nil, List.length_cons, List.length_nil, List.cons_append, List.nil_append, List.replicate, Nat.reduceAdd, Nat.reduceSub]
  simp only [sSeq_ap, sAsg_ap, eArg_ap, aNil_ap, bind_ok, pLst_nil, rp_some, toS_ok, gName_3, toN_ok, thn_nx, eC_ap, gName_2]
  rw [sat_thn]
  have p0 : h <+: h ++ [.lst []] := List.prefix_append _ _
  have sq : ∀ g, h <+: g → seqOf g (.ref n) = some (L.map Row.v) := fun g p => listAt_pfx p hn
  refine for_seq (v := .ref n) (xs := L.map Row.v) rfl (sq _ p0) (fun i r g => h <+: g ∧ ∃ x, r = [some (.tup [.int a, .int b]), some (.ref n), some (optV (udep L a b i)), some (.ref h.length), x] ∧
      g[h.length]? = some (.lst ((List.range i).map fun k => PV.bl (underAt L a b k))))
    ⟨p0, none, rfl, by simp⟩ (fun i r g q => sq g q.1) ?_ ?_
  · intro i x r g hx ⟨p, y, hr, hd⟩
    obtain ⟨w, hw, rfl⟩ := rowV hx
    subst hr
    have hi := (List.getElem?_eq_some_iff.mp hw).1
    refine ⟨[some (.tup [.int a, .int b]), some (.ref n), some (optV (udep L a b i)), some (.ref h.length), some w.v], g, rfl, ?_⟩
    have eu : underAt L a b i = (cutD (udep L a b i) w.d).isSome := by unfold underAt; rw [hw]
    have ed : udep L a b (i + 1) = if w.n1 = a ∧ w.n2 = b then some w.d else cutD (udep L a b i) w.d := by rw [udep, hw]
    have ec : ((List.range i).map fun k => PV.bl (underAt L a b k)).length < PySem.sizeLine := sz_lt (by simp; omega)
    have st1 : ∀ r, r = [some (.tup [.int a, .int b]), some (.ref n), some (optV (udep L a b i)), some (.ref h.length), some w.v] →
        sIf (eAnd (eBin pNotN (eVar 2) (eC .non)) (eBin (pCmpI fun i j => decide (i ≤ j)) (eBin pIxU (eVar 4) (eC (.int 0))) (eVar 2))) (sAsg (eC .non) (Z.gName 2)) sNx r g = .nx [some (.tup [.int a, .int b]), some (.ref n), some (optV (cutD (udep L a b i) w.d)), some (.ref h.length), some w.v] g := by
      rintro r rfl
      cases e : udep L a b i with
      | none => simp [optV, cutD]
      | some k =>
        simp [optV, cutD, Row.v]
        by_cases e2 : w.d ≤ k
        · simp [e2]
        · simp [e2]
    have eb : L1_under [some (.tup [.int a, .int b]), some (.ref n), some (optV (udep L a b i)), some (.ref h.length), some w.v] g = .nx [some (.tup [.int a, .int b]), some (.ref n), some (optV (udep L a b (i + 1))), some (.ref h.length), some w.v]
        (g.set h.length (PO.lst ((List.range i).map (fun k => PV.bl (underAt L a b k)) ++ [PV.bl (underAt L a b i)]))) := by
      unfold L1_under
      rw [sSeq_ap, st1 _ rfl, thn_nx, eu, ed]
      generalize cutD (udep L a b i) w.d = o
      have eo : (!o.isNone) = o.isSome := by cases o <;> rfl
      by_cases e2 : w.n1 = a ∧ w.n2 = b
      · simp [isLst_l (listAt_l hd), isNon_opt, pAppend_l hd ec, Row.v, Row.nm, pEq_nm, e2, show optV (some w.d) = PV.int w.d from rfl]
      · have e3 : (decide (w.n1 = a) && decide (w.n2 = b)) = false := by
          rw [← Bool.decide_and]; exact decide_eq_false e2
        simp [isLst_l (listAt_l hd), isNon_opt, pAppend_l hd ec, Row.v, Row.nm, pEq_nm, e2, e3]
    rw [eb]
    refine ⟨pfx_set p (Nat.le_refl _), _, rfl, ?_⟩
    rw [List.getElem?_set_self (get_lt hd), List.range_succ, List.map_append]
    rfl
  · intro r g ⟨p, y, hr, hd⟩
    subst hr
    simp only [sRet_ap, eVar_3, toS_ok, sat_ret]
    simp at hd
    exact ⟨p, h.length, rfl, Nat.le_refl _, hd⟩
end Z.K50
/-! K50q: the law's own reckoning, the atoms. -/
namespace Z.K50
open Z
open L2 (atI)
open PySem (PyData)
theorem lastAt_lt {L : List Row} {d : Int} : ∀ {k j : Nat}, lastAt L d k = some j → j < k
  | 0, j, h => by cases h
  | k + 1, j, h => by
    unfold lastAt at h
    split at h
    · split at h
      · cases h; omega
      · have := lastAt_lt h; omega
    · have := lastAt_lt h; omega
theorem upAt_lt {L : List Row} {k j : Nat} (h : upAt L k = some j) : j < k := by
  unfold upAt at h
  split at h
  · exact lastAt_lt h
  · cases h
def aboveL (L : List Row) (k : Nat) : List Nat := match h : upAt L k with
  | some j => j :: aboveL L j
  | none => []
termination_by k
decreasing_by exact upAt_lt h
theorem aboveL_some {L : List Row} {k j : Nat} (h : upAt L k = some j) : aboveL L k = j :: aboveL L j := by
  rw [aboveL]
  split
  · rename_i q e; rw [h] at e; cases e; rfl
  · rename_i e; rw [h] at e; cases e
theorem aboveL_none {L : List Row} {k : Nat} (h : upAt L k = none) : aboveL L k = [] := by
  rw [aboveL]
  split
  · rename_i q e; rw [h] at e; cases e
  · rfl
theorem aboveL_lt {L : List Row} : ∀ (n k : Nat), k < n → ∀ j ∈ aboveL L k, j < k
  | 0, k, h, _, _ => by omega
  | n + 1, k, h, j, hj => by
    cases e : upAt L k with
    | none => rw [aboveL_none e] at hj; cases hj
    | some i =>
      have hi := upAt_lt e
      rw [aboveL_some e] at hj
      rcases List.mem_cons.mp hj with rfl | hj
      · exact hi
      · have := aboveL_lt n i (by omega) j hj
        omega
theorem aboveL_len {L : List Row} : ∀ (n k : Nat), k < n → (aboveL L k).length ≤ k
  | 0, k, h => by omega
  | n + 1, k, h => by
    cases e : upAt L k with
    | none => rw [aboveL_none e]; simp
    | some i =>
      have hi := upAt_lt e
      rw [aboveL_some e]
      have := aboveL_len (L := L) n i (by omega)
      simp
      omega
theorem above_ok {h : PH} {u k : Nat} {L : List Row} (hl : L.length ≤ 40) (hk : k < L.length) (hu : listAt h u = some ((List.range L.length).map fun k => optV (upAt L k))) :
    (F__law_above [.int k, .ref u] h).sat (NewL h ((aboveL L k).map fun (j : Nat) => PV.int j)) X1 := by
  unfold F__law_above
  refine run_sat ?_
  unfold B__law_above
  simp only [List.map_cons, List.map_nil, List.length_cons, List.length_nil, List.cons_append, List.nil_append, List.replicate, Nat.reduceAdd, Nat.reduceSub]
  simp only [sSeq_ap, sAsg_ap, eArg_ap, aNil_ap, bind_ok, pLst_nil, rp_some, toS_ok, gName_2, toN_ok, thn_nx, eC_ap]
  rw [sat_thn]
  unfold sWhile
  have at_ : ∀ g c, h <+: g → c < L.length → pIxU (.ref u) (.int (c : Nat)) g = some (optV (upAt L c), g) := fun g c p hc => by
    have : atI ((List.range L.length).map fun k => optV (upAt L k)) (c : Int) = some (optV (upAt L c)) := atI_nat (by simp [hc])
    rw [pIxU_l (listAt_pfx p hu), this]
    rfl
  refine whileN_sat (fun j r g => h <+: g ∧ ∃ c acc, r = [some (.int (c : Nat)), some (.ref u), some (.ref h.length)] ∧ c ≤ j ∧ c < L.length ∧ acc ++ aboveL L c = aboveL L k ∧ acc.length ≤ 40 ∧ g[h.length]? = some (.lst (acc.map fun (j : Nat) => PV.int j)))
    _ (fun j r g ⟨p, c, acc, hr, hc, hcl, ha, hal, hd⟩ => ?_) big k _ _ (by have : big = 1000000 := rfl; omega) ⟨List.prefix_append _ _, k, [], rfl, Nat.le_refl _, hk, rfl, Nat.zero_le _, by simp⟩
  subst hr
  unfold C1__law_above L1__law_above
  refine ⟨(upAt L c).isSome, g, ?_, fun e => ?_, fun e => ?_⟩
  · simp [at_ g c p hcl, isNon_opt]
  · have e2 : upAt L c = none := by cases h : upAt L c with | none => rfl | some j => rw [h] at e; cases e
    rw [aboveL_none e2, List.append_nil] at ha
    subst ha
    simp only [sRet_ap, eVar_2, toS_ok, sat_ret]
    exact ⟨p, h.length, rfl, Nat.le_refl _, hd⟩
  · cases e2 : upAt L c with
    | none => rw [e2] at e; cases e
    | some i =>
      have hi := upAt_lt e2
      refine ⟨j - 1, by omega, ?_⟩
      have hall : acc.length < 40 := by
        have h1 := aboveL_len (L := L) (k + 1) k (by omega)
        rw [← ha, List.length_append, aboveL_some e2] at h1
        simp at h1
        omega
      have es : optV (some i) = .int (i : Nat) := rfl
      simp [at_ g c p hcl, e2, es, isLst_l (listAt_l hd), pAppend_l hd (sz_lt (by simp; omega))]
      refine ⟨pfx_set p (Nat.le_refl _), i, by rfl, by omega, by omega, acc ++ [i], ?_, by simp; omega, ?_⟩
      · rw [← ha, aboveL_some e2]; simp
      · rw [List.getElem?_set_self (get_lt hd)]; simp
/-! ### the ten conditions -/
inductive Atom where
  | all | done | folded | free | leaf | seen
  | due (i : Int) | depth (i : Int) | beneath (a b : Int) | says (s : PySem.Str)
def Atom.v : Atom → PV
  | .all => .tup [.str "all"] | .done => .tup [.str "done"] | .folded => .tup [.str "folded"] | .free => .tup [.str "free"] | .leaf => .tup [.str "leaf"] | .seen => .tup [.str "seen"]
  | .due i => .tup [.str "due", .int i] | .depth i => .tup [.str "depth", .int i] | .beneath a b => .tup [.str "beneath", .tup [.int a, .int b]] | .says s => .tup [.str "says", .str s]
theorem cell_ok {h : PH} {n : Nat} {ns : List Int} {k : Nat} (hn : listAt h n = some (ns.map PV.int)) : (F__law_cell_at [.ref n, .int k] h).sat (fun v h' => h' = h ∧ ∃ i, v = .int i) X1 := by
  unfold F__law_cell_at
  refine run_sat ?_
  unfold B__law_cell_at
  by_cases hk : (k : Int) < ns.length
  · have e : atI (ns.map PV.int) (k : Int) = some (.int (ns[k]'(by omega))) := atI_nat (by simp)
    simp [pLen_l hn, hk, pIxU_l hn, e]
  · simp [pLen_l hn, hk]
theorem pPow_i {h : PH} {i : Int} {j : Nat} (hj : j ≤ 1000) (hi : i.natAbs ≤ 1000) : pPow (.int i) (.int j) h = some (.int (i ^ j), h) := by
  unfold pPow
  dsimp only
  rw [if_pos]
  · rfl
  · exact And.intro (by omega) (And.intro (by omega) (by omega))
theorem pick {α : Type} {l : List α} {P : α → Prop} (hP : ∀ x ∈ l, P x) {i : Int} (h0 : 0 ≤ i) (h1 : i < l.length) : ∃ a, atI l i = some a ∧ P a := by
  obtain ⟨a, e, ha⟩ := atI_lt h0 h1
  exact ⟨a, e, hP a (List.mem_of_getElem? ha)⟩
end Z.K50
/-! K50r: a condition drawn; one row by a condition. -/
namespace Z.K50
open Z
open L2 (atI)
open PySem (PyData)
def nmD (r : Row) : PyData := .tuple [.int r.n1, .int r.n2]
theorem toD_names {h : PH} {k : Nat} {L : List Row} : (L.map Row.nm).mapM (toD h (k + 1 + 1)) = some (L.map nmD) := mapM_map (fun r => toD_nm) L
theorem toD_nl {h : PH} {n : Nat} {L : List Row} (e : listAt h n = some (L.map Row.nm)) : toD h (63 + 1) (.ref n) = some (.list (L.map nmD)) := by
  rw [toD_ref, e]
  show ((L.map Row.nm).mapM (toD h (61 + 1 + 1))).map PyData.list = _
  rw [toD_names]
  rfl
theorem toD_el {h : PH} {n : Nat} (e : listAt h n = some []) : toD h (63 + 1) (.ref n) = some (.list []) := by
  rw [toD_ref, e]
  show (([] : List PV).mapM (toD h 63)).map PyData.list = _
  rw [mapM_n]
  rfl
theorem pNe_empty {h : PH} {n m : Nat} {L : List Row} (e : listAt h n = some (L.map Row.nm)) (e2 : listAt h m = some []) : pNe (.ref n) (.ref m) h = some (.bl (decide (L ≠ [])), h) := by
  rw [pNe_D rfl (toD_nl e) (toD_el e2)]
  cases L with
  | nil => simp [PyData.eqv, PyData.eqvAll]
  | cons a r => simp [PyData.eqv, PyData.eqvAll]
theorem atom_ok {h : PH} {i : Int} {n : Nat} {L : List Row} (hl : L.length ≤ 40) (hn : listAt h n = some (L.map Row.nm)) :
    (F__law_atom [.int i, .ref n] h).sat (fun v h' => h <+: h' ∧ ∃ A : Atom, v = A.v) X1 := by
  unfold F__law_atom
  refine run_sat ?_
  unfold B__law_atom
  simp only [List.map_cons, List.map_nil, List.length_cons, List.length_nil, List.cons_append, List.nil_append, List.replicate, Nat.reduceAdd, Nat.reduceSub]
  have hw : 0 ≤ i % 10 ∧ i % 10 < 10 := ⟨Int.emod_nonneg _ (by decide), Int.emod_lt_of_pos _ (by decide)⟩
  generalize hW : i % 10 = w at hw
  generalize hM : i / 10 = m
  have p10 : ∀ g, pPow (.int 10) (.int 20) g = some (.int 100000000000000000000, g) := fun g => (pPow_i (j := 20) (by decide) (by decide)).trans (by simp)
  have j10 : (0 : Int) < 100000000000000000000 := by decide
  have two : ∀ (a b : Int) (c : Bool), ∃ z, atI ([.int a, .int b] : List PV) (if c = true then 1 else 0) = some (.int z) := by
    intro a b c
    cases c
    · exact ⟨_, atI_0⟩
    · exact ⟨_, atI_1⟩
  by_cases h6 : w < 6
  · obtain ⟨x, ex, A, hA⟩ := pick (l := ([.str "all", .str "done", .str "folded", .str "free", .str "leaf", .str "seen"] : List PV)) (P := fun x => ∃ A : Atom, .tup [x] = A.v) (by
      intro x hx
      simp only [List.mem_cons, List.not_mem_nil, or_false] at hx
      rcases hx with rfl | rfl | rfl | rfl | rfl | rfl
      · exact ⟨.all, rfl⟩
      · exact ⟨.done, rfl⟩
      · exact ⟨.folded, rfl⟩
      · exact ⟨.free, rfl⟩
      · exact ⟨.leaf, rfl⟩
      · exact ⟨.seen, rfl⟩) hw.1 (i := w) (by simpa using h6)
    simp [pMod_i, pDiv_i, hW, hM, h6, pLst_n, pIxU_l new_l, ex, pTup_n]
    exact ⟨A, hA⟩
  · by_cases e6 : w = 6
    · obtain ⟨z, hz⟩ := two (m % 8) (m % 100000000000000000000) (decide (m / 8 % 4 = 3))
      subst e6
      simp only [decide_eq_true_eq] at hz
      simp [pMod_i, pDiv_i, hW, hM, pLst_n, pIxU_l new_l, pTup_n, p10, j10, hz]
      exact ⟨.due z, rfl⟩
    · by_cases e7 : w = 7
      · obtain ⟨z, hz⟩ := two (m % 4) (m % 100000000000000000000) (decide (m / 8 % 4 = 3))
        subst e7
        simp only [decide_eq_true_eq] at hz
        simp [pMod_i, pDiv_i, hW, hM, pLst_n, pIxU_l new_l, pTup_n, p10, j10, hz]
        exact ⟨.depth z, rfl⟩
      · by_cases e8 : w = 8
        · subst e8
          have hne := pNe_empty (L := L) (m := h.length) (listAt_pfx (List.prefix_append h [.lst []]) hn) new_l
          by_cases hc : L ≠ [] ∧ 0 < m % 4
          · have hpos : (0 : Int) < L.length := by
              have : 0 < L.length := List.length_pos_iff.mpr hc.1
              omega
            have hr : 0 ≤ m / 4 % (L.length : Int) ∧ m / 4 % (L.length : Int) < L.length := ⟨Int.emod_nonneg _ (by omega), Int.emod_lt_of_pos _ hpos⟩
            obtain ⟨x, ex, a, b, hx⟩ := pick (l := L.map Row.nm) (P := fun x => ∃ a b, x = .tup [.int a, .int b]) (by
              intro x hx
              obtain ⟨r, _, rfl⟩ := List.mem_map.mp hx
              exact ⟨_, _, rfl⟩) hr.1 (by simpa using hr.2)
            subst hx
            have hn' := listAt_pfx (List.prefix_append h [.lst []]) hn
            have hp2 : (0 : Int) < ((L.map Row.nm).length : Int) := by simpa using hpos
            simp [pMod_i, pDiv_i, hW, hM, hne, hc.1, hc.2, pLen_l hn', pIxU_l hn', pMod_i hpos, ex, pTup_n]
            exact ⟨.beneath a b, rfl⟩
          · have key : ∀ g, h <+: g → (∃ A : Atom, PV.tup [.str "beneath", .tup [.int (m / 4 % 9), .int (1 + m / 36 % 100000000000000000000)]] = A.v) := fun g _ => ⟨.beneath _ _, rfl⟩
            by_cases h1 : L = []
            · have e1 : decide (L ≠ []) = false := by simp [h1]
              rw [e1] at hne
              simp [pMod_i, pDiv_i, hW, hM, hne, pTup_n, p10, j10]
              exact key h (List.prefix_rfl)
            · have h2 : ¬ 0 < m % 4 := fun z => hc ⟨h1, z⟩
              simp [pMod_i, pDiv_i, hW, hM, hne, h1, h2, pTup_n, p10, j10]
              exact key h (List.prefix_rfl)
        · have hm12 : 0 ≤ m % 12 ∧ m % 12 < 12 := ⟨Int.emod_nonneg _ (by decide), Int.emod_lt_of_pos _ (by decide)⟩
          obtain ⟨x, ex, s, hs⟩ := pick (l := ([.str "a", .str "b", .str "ab", .str "or", .str "A", .str "not", .str "(", .str "aa", .str "B", .str ")", .str "by", .str "x"] : List PV)) (P := fun x => ∃ s, x = .str s) (by
            intro x hx
            simp only [List.mem_cons, List.not_mem_nil, or_false] at hx
            rcases hx with rfl | rfl | rfl | rfl | rfl | rfl | rfl | rfl | rfl | rfl | rfl | rfl <;> exact ⟨_, rfl⟩) hm12.1 (i := m % 12) (by simpa using hm12.2)
          subst hs
          simp [pMod_i, pDiv_i, hW, hM, h6, e6, e7, e8, pLst_n, pIxU_l new_l, ex, pTup_n]
          exact ⟨.says s, rfl⟩
end Z.K50
/-! K50s: a row by a condition, both ways. -/
namespace Z.K50
open Z
open L2 (atI)
open PySem (PyData)
def aloneV : Atom → Row → Bool
  | .done, r => r.dn
  | .folded, r => r.fo
  | .free, r => r.who.isNone
  | .due i, r => decide (r.who = some i)
  | .depth i, r => decide ((r.d : Int) ≤ i)
  | .says s, r => occS s r.t
  | _, _ => true
theorem pEq_who {h : PH} {o : Option Int} {i : Int} : pEq (whoV o) (.int i) h = some (.bl (decide (o = some i)), h) := by
  cases o with
  | none => simp [whoV]
  | some j => simp [whoV]
theorem alone_ok {h : PH} {A : Atom} {r : Row} : F_fits_alone [A.v, r.v] h = .ok (.bl (aloneV A r)) h := by
  unfold F_fits_alone runF B_fits_alone
  cases A <;> simp (decide := true) [Atom.v, Row.v, aloneV, pEq_who]
/-! ### the law's -/
def lawV (L : List Row) (A : Atom) (k : Nat) : Bool := match A with
  | .beneath a b => (aboveL L k).any fun j => match L[j]? with
    | some r => decide (r.n1 = a) && decide (r.n2 = b)
    | none => false
  | .seen => !((aboveL L k).any fun j => match L[j]? with
    | some r => r.fo
    | none => false)
  | .leaf => !((List.range L.length).any fun j => decide (upAt L j = some k))
  | A => match L[k]? with
    | some r => aloneV A r
    | none => true
/-- [rows[j][..] for j in above] -/
theorem lc_above {h : PH} {n u k : Nat} {L : List Row} {X : Exn → PH → Prop} {i : Int} {w : Row → PV} {Q : PV → PH → Prop} (hl : L.length ≤ 40) (hk : k < L.length) (hn : listAt h n = some (L.map Row.v)) (hu : listAt h u = some ((List.range L.length).map fun k => optV (upAt L k)))
    (hw : ∀ r : Row, ∀ g, pIxU r.v (.int i) g = some (w r, g)) {x0 x4 x5 x6 : Option PV}
    (fin : ∀ g m, h <+: g → h.length ≤ m → g[m]? = some (.lst ((aboveL L k).map fun (j : Nat) => match L[j]? with
      | some r => w r
      | none => .non)) → Q (.ref m) g) :
    (eLc (iSeq (eCall F__law_above (aCons (eVar 1) (aCons (eVar 3) aNil)))) (Z.gName 6) (eC (.bl true)) (eBin pIxU (eBin pIxU (eVar 2) (eVar 6)) (eC (.int i))) [6]
      [x0, some (.int k), some (.ref n), some (.ref u), x4, x5, x6] h).sat Q X := by
  obtain ⟨v, g1, e1, p1, m1, rfl, hm1, hd1⟩ := Res.get (above_ok (h := h) hl hk hu)
  have hcall : eCall F__law_above (aCons (eVar 1) (aCons (eVar 3) aNil)) [x0, some (.int k), some (.ref n), some (.ref u), x4, x5, x6] h = .ok (.ref m1) g1 := by simp [e1]
  refine lc_seq (v := .ref m1) (xs := (aboveL L k).map fun (j : Nat) => PV.int j) (ys := (aboveL L k).map fun (j : Nat) => match L[j]? with
      | some r => w r
      | none => .non) hcall (fun g p => listAt_pfx p (listAt_l hd1)) ?_ (by simp) (fun _ => True) ?_ trivial ?_
  · have := aboveL_len (L := L) (k + 1) k (by omega)
    simp
    omega
  · intro j x y g hx hy p _
    rw [List.getElem?_map] at hx hy
    cases hj : (aboveL L k)[j]? with
    | none => rw [hj] at hx; cases hx
    | some c =>
      rw [hj] at hx hy
      cases hx
      cases hy
      have hc : c < L.length := Nat.lt_trans (aboveL_lt (k + 1) k (by omega) c (List.mem_of_getElem? hj)) hk
      have ec : L[c]? = some L[c] := List.getElem?_eq_getElem hc
      have a1 : atI (L.map Row.v) (c : Int) = some (L[c]).v := atI_nat (by simp [hc])
      refine ⟨[x0, some (.int k), some (.ref n), some (.ref u), x4, x5, some (.int c)], by simp [wipe], rfl, g, ?_, List.prefix_rfl, fun _ => trivial⟩
      dsimp only
      rw [ec]
      simp [pIxU_l (listAt_pfx (p1.trans p) hn), a1, hw]
  · intro g p _ hg
    exact fin g g1.length (p1.trans p) (pfx_len p1) hg
theorem any_map' {α β : Type} {f : α → β} {p : β → Bool} (xs : List α) : (xs.map f).any p = xs.any fun x => p (f x) := by
  rw [List.any_map]; rfl
def dk4 (a b c d : Bool) : List (PV × PV) := [(.str "all", .bl a), (.str "done", .bl b), (.str "folded", .bl c), (.str "free", .bl d)]
theorem put4 (a b c d : Bool) : putAll [.str "all", .bl a, .str "done", .bl b, .str "folded", .bl c, .str "free", .bl d] 0 [] = some (4, dk4 a b c d) := by rfl
theorem dGet_all (a b c d : Bool) : kOk 8 (.str "all") = true ∧ dGet (dk4 a b c d) (.str "all") = some (.bl a) := ⟨by rfl, by rfl⟩
theorem dGet_done (a b c d : Bool) : kOk 8 (.str "done") = true ∧ dGet (dk4 a b c d) (.str "done") = some (.bl b) := ⟨by rfl, by rfl⟩
theorem dGet_folded (a b c d : Bool) : kOk 8 (.str "folded") = true ∧ dGet (dk4 a b c d) (.str "folded") = some (.bl c) := ⟨by rfl, by rfl⟩
theorem dGet_free (a b c d : Bool) : kOk 8 (.str "free") = true ∧ dGet (dk4 a b c d) (.str "free") = some (.bl d) := ⟨by rfl, by rfl⟩
theorem set_new {h : PH} {a b : PO} : (h ++ [a]).set h.length b = h ++ [b] := by
  rw [List.set_append_right _ _ (Nat.le_refl _)]
  simp
theorem dict_go {h : PH} {r : Row} {x0 x1 x2 x3 x6 : Option PV} {X : Exn → PH → Prop} {s : PySem.Str} {z : Bool} {Z : Bool} (ez : Z = z) (g : kOk 8 (.str s) = true ∧ dGet (dk4 true r.dn r.fo r.who.isNone) (.str s) = some (.bl z)) :
    ((eDisp [((eC (.str "all")), (eC (.bl true))), ((eC (.str "done")), (eBin pIxU (eVar 5) (eC (.int 3)))), ((eC (.str "folded")), (eBin pIxU (eVar 5) (eC (.int 5)))), ((eC (.str "free")), (eBin pIsN (eBin pIxU (eVar 5) (eC (.int 4))) (eC .non)))] [x0, x1, x2, x3, some (.str s), some r.v, x6] h).bind
      fun x h1 => (pIxU x (.str s) h1).r).sat (fun v h' => h <+: h' ∧ v = .bl Z) X := by
  have e : eDisp [((eC (.str "all")), (eC (.bl true))), ((eC (.str "done")), (eBin pIxU (eVar 5) (eC (.int 3)))), ((eC (.str "folded")), (eBin pIxU (eVar 5) (eC (.int 5)))), ((eC (.str "free")), (eBin pIsN (eBin pIxU (eVar 5) (eC (.int 4))) (eC .non)))] [x0, x1, x2, x3, some (.str s), some r.v, x6] h
      = .ok (.ref h.length) (h ++ [.dct 4 (dk4 true r.dn r.fo r.who.isNone)]) := by
    unfold eDisp
    simp [afOf, Row.v, put4, set_new]
  rw [e, bind_ok, pIxU_d (ep := 4) (kvs := dk4 true r.dn r.fo r.who.isNone) (by simp) g.1 g.2, ez]
  exact ⟨List.prefix_append _ _, rfl⟩
theorem lawfits_ok {h : PH} {n u k : Nat} {L : List Row} {A : Atom} (hl : L.length ≤ 40) (hk : k < L.length) (hn : listAt h n = some (L.map Row.v)) (hu : listAt h u = some ((List.range L.length).map fun k => optV (upAt L k))) :
    (F__law_fits [A.v, .int k, .ref n, .ref u] h).sat (fun v h' => h <+: h' ∧ v = .bl (lawV L A k)) X1 := by
  unfold F__law_fits
  refine run_sat ?_
  unfold B__law_fits
  simp only [List.map_cons, List.map_nil, List.length_cons, List.length_nil, List.cons_append, List.nil_append, List.replicate, Nat.reduceAdd, Nat.reduceSub]
  have ek : L[k]? = some L[k] := List.getElem?_eq_getElem hk
  have a1 : atI (L.map Row.v) (k : Int) = some (L[k]).v := atI_nat (by simp [hk])
  have lk : ∀ B : Atom, (∀ r, aloneV B r = (match L[k]? with | some r => aloneV B r | none => true) ∨ True) := fun _ _ => Or.inr trivial
  cases A with
  | beneath a b =>
    simp (decide := true) [Atom.v, pIxU_l hn, a1]
    rw [sat_thn, sat_toS, sat_bind]
    refine lc_above (w := Row.nm) hl hk hn hu (fun r g => by simp [Row.v]) fun g m p hm hg => ?_
    have hD : ((aboveL L k).map fun (j : Nat) => match L[j]? with | some r => Row.nm r | none => PV.non).mapM (toD g 63) = some ((aboveL L k).map fun (j : Nat) => match L[j]? with | some r => nmD r | none => PyData.none) := by
      refine mapM_map (fun j => ?_) _
      cases L[j]? with
      | none => exact toD_non (k := 62)
      | some r => exact toD_nm (k := 61)
    have e := pInU_l (x := .tup [.int a, .int b]) (listAt_l hg) (toD_nm (k := 62)) hD
    rw [e]
    simp
    refine ⟨p, ?_⟩
    unfold lawV
    congr 1
    funext j
    simp only [Function.comp]
    cases L[j]? with
    | none => simp [PyData.eqv]
    | some r => unfold nmD; exact eqv_nm
  | seen =>
    simp (decide := true) [Atom.v, pIxU_l hn, a1]
    rw [sat_thn, sat_toS, sat_bind]
    refine lc_above (w := fun r => .bl r.fo) hl hk hn hu (fun r g => by simp [Row.v]) fun g m p hm hg => ?_
    have hD : ((aboveL L k).map fun (j : Nat) => match L[j]? with | some r => PV.bl (Row.fo r) | none => PV.non).mapM (toD g 63) = some ((aboveL L k).map fun (j : Nat) => match L[j]? with | some r => PyData.bool r.fo | none => PyData.none) := by
      refine mapM_map (fun j => ?_) _
      cases L[j]? with
      | none => exact toD_non (k := 62)
      | some r => exact toD_bl (k := 62)
    have e := pNotInU_l (x := .bl true) (listAt_l hg) (toD_bl (k := 63)) hD
    rw [e, any_map']
    have key : ((aboveL L k).any fun j => PyData.eqv (match L[j]? with | some r => PyData.bool r.fo | none => PyData.none) (PyData.bool true)) = (aboveL L k).any fun j => match L[j]? with
      | some r => r.fo
      | none => false := by
      congr 1
      funext j
      cases L[j]? with
      | none => simp [PyData.eqv]
      | some r => cases hf : r.fo <;> simp [PyData.eqv, hf]
    rw [key]
    exact ⟨p, rfl⟩
  | leaf =>
    have hD : ((List.range L.length).map fun k => optV (upAt L k)).mapM (toD h 63) = some ((List.range L.length).map fun j => match upAt L j with | some i => PyData.int i | none => PyData.none) := by
      refine mapM_map (fun j => ?_) _
      cases upAt L j with
      | none => exact toD_non (k := 62)
      | some r => exact toD_int (k := 62)
    have e := pNotInU_l (x := .int k) hu (toD_int (k := 63)) hD
    rw [any_map'] at e
    have key : ((List.range L.length).any fun j => PyData.eqv (match upAt L j with | some i => PyData.int (i : Nat) | none => PyData.none) (PyData.int k)) = (List.range L.length).any fun j => decide (upAt L j = some k) := by
      congr 1
      funext j
      cases upAt L j with
      | none => simp [PyData.eqv]
      | some r =>
        show ((r : Int) == (k : Int)) = _
        by_cases hr : r = k
        · subst hr; simp
        · have : ¬ (r : Int) = (k : Int) := by omega
          simp [hr, this]
    rw [key] at e
    have ev : lawV L .leaf k = !((List.range L.length).any fun j => decide (upAt L j = some k)) := rfl
    simp (decide := true) [Atom.v, pIxU_l hn, a1, e, ev]
  | says s =>
    simp (decide := true) [Atom.v, pIxU_l hn, a1, Row.v, lawV, ek, aloneV]
  | due i =>
    simp (decide := true) [Atom.v, pIxU_l hn, a1, Row.v, lawV, ek, aloneV, pEq_who]
    cases hq : (L[k]).who <;> simp
  | depth i =>
    simp (decide := true) [Atom.v, pIxU_l hn, a1, Row.v, lawV, ek, aloneV]
  | all =>
    have ez : lawV L .all k = aloneV .all L[k] := by unfold lawV; rw [ek]
    simp (decide := true) [Atom.v, pIxU_l hn, a1]
    rw [sat_toS]
    exact dict_go (r := L[k]) ez (dGet_all ..)
  | done =>
    have ez : lawV L .done k = aloneV .done L[k] := by unfold lawV; rw [ek]
    simp (decide := true) [Atom.v, pIxU_l hn, a1]
    rw [sat_toS]
    exact dict_go (r := L[k]) ez (dGet_done ..)
  | folded =>
    have ez : lawV L .folded k = aloneV .folded L[k] := by unfold lawV; rw [ek]
    simp (decide := true) [Atom.v, pIxU_l hn, a1]
    rw [sat_toS]
    exact dict_go (r := L[k]) ez (dGet_folded ..)
  | free =>
    have ez : lawV L .free k = aloneV .free L[k] := by unfold lawV; rw [ek]
    simp (decide := true) [Atom.v, pIxU_l hn, a1]
    rw [sat_toS]
    exact dict_go (r := L[k]) ez (dGet_free ..)
end Z.K50
/-! K50t: fitting. -/
namespace Z.K50
open Z
open L2 (atI)
def fitsV (L : List Row) (A : Atom) (k : Nat) : Bool := match A with
  | .leaf => leafAt L k
  | .seen => seenAt L k
  | .beneath a b => underAt L a b k
  | A => match L[k]? with
    | some r => aloneV A r
    | none => true
theorem map_ix {α β : Type} {L : List α} {f : α → β} {g : Nat → β} (h : ∀ k r, L[k]? = some r → f r = g k) : L.map f = (List.range L.length).map g := by
  refine List.ext_getElem? fun k => ?_
  rw [List.getElem?_map, List.getElem?_map]
  by_cases hk : k < L.length
  · rw [List.getElem?_eq_getElem hk, List.getElem?_range hk]
    exact congrArg some (h k _ (List.getElem?_eq_getElem hk))
  · rw [List.getElem?_eq_none (by omega), List.getElem?_eq_none (by simp; omega)]
    rfl
theorem lc_alone {h : PH} {n : Nat} {L : List Row} {A : Atom} {X : Exn → PH → Prop} {w x3 x4 x5 x6 x7 : Option PV} (hl : L.length ≤ 40) (hn : listAt h n = some (L.map Row.v)) :
    (eLc (iSeq (eVar 1)) (Z.gName 4) (eC (.bl true)) (eCall F_fits_alone (aCons (eVar 0) (aCons (eVar 4) aNil))) [4] [some A.v, some (.ref n), w, x3, x4, x5, x6, x7] h).sat (NewL h (L.map fun r => .bl (aloneV A r))) X := by
  refine lc_seq (v := .ref n) (xs := L.map Row.v) (ys := L.map fun r => .bl (aloneV A r)) rfl (fun g p => listAt_pfx p hn) (by simp; omega) (by simp) (fun _ => True) ?_ trivial ?_
  · intro j x y g hx hy p _
    obtain ⟨r, hr, rfl⟩ := rowV hx
    rw [List.getElem?_map, hr] at hy
    cases hy
    refine ⟨[some A.v, some (.ref n), w, x3, some r.v, x5, x6, x7], by simp [wipe], rfl, g, ?_, List.prefix_rfl, fun _ => trivial⟩
    simp [alone_ok]
  · intro g p _ hg
    exact ⟨p, h.length, rfl, Nat.le_refl _, hg⟩
theorem fitting_ok {h : PH} {n : Nat} {L : List Row} {A : Atom} (hl : L.length ≤ 40) (hn : listAt h n = some (L.map Row.v)) :
    (F_fitting 40 [A.v, .ref n] h).sat (NewL h ((List.range L.length).map fun k => .bl (fitsV L A k))) X1 := by
  have e0 : F_fitting 40 = runF 8 (B_fitting (F_fitting 39)) := rfl
  rw [e0]
  generalize F_fitting 39 = FT
  refine run_sat ?_
  unfold B_fitting
  simp only [List.map_cons, List.map_nil, List.length_cons, List.length_nil, List.cons_append, List.nil_append, List.replicate, Nat.reduceAdd, Nat.reduceSub]
  have al : ∀ B : Atom, (∀ k r, L[k]? = some r → aloneV B r = fitsV L B k) → (L.map fun r => PV.bl (aloneV B r)) = (List.range L.length).map fun k => .bl (fitsV L B k) := fun B hB => map_ix fun k r hr => by rw [hB k r hr]
  cases A with
  | leaf =>
    obtain ⟨v, g, e, q⟩ := Res.get (leaves_ok (h := h) (n := n) (L := L) (by omega) hn)
    simp (decide := true) [Atom.v, e]
    exact q
  | seen =>
    obtain ⟨v, g, e, q⟩ := Res.get (seen_ok (h := h) (n := n) (L := L) hl hn)
    simp (decide := true) [Atom.v, e]
    exact q
  | beneath a b =>
    obtain ⟨v, g, e, q⟩ := Res.get (under_ok (h := h) (n := n) (L := L) (a := a) (b := b) hl hn)
    simp (decide := true) [Atom.v, e]
    exact q
  | all =>
    rw [← al .all (fun k r hr => by unfold fitsV; rw [hr])]
    have := fun w x3 x4 x5 x6 x7 => lc_alone (A := .all) (X := fun x h => X0 x [some Atom.all.v, some (.ref n), w, x3, x4, x5, x6, x7] h) (w := w) (x3 := x3) (x4 := x4) (x5 := x5) (x6 := x6) (x7 := x7) hl hn
    simp (decide := true) [Atom.v]
    rw [sat_toS]
    exact this _ _ _ _ _ _
  | done =>
    rw [← al .done (fun k r hr => by unfold fitsV; rw [hr])]
    have := fun w x3 x4 x5 x6 x7 => lc_alone (A := .done) (X := fun x h => X0 x [some Atom.done.v, some (.ref n), w, x3, x4, x5, x6, x7] h) (w := w) (x3 := x3) (x4 := x4) (x5 := x5) (x6 := x6) (x7 := x7) hl hn
    simp (decide := true) [Atom.v]
    rw [sat_toS]
    exact this _ _ _ _ _ _
  | folded =>
    rw [← al .folded (fun k r hr => by unfold fitsV; rw [hr])]
    have := fun w x3 x4 x5 x6 x7 => lc_alone (A := .folded) (X := fun x h => X0 x [some Atom.folded.v, some (.ref n), w, x3, x4, x5, x6, x7] h) (w := w) (x3 := x3) (x4 := x4) (x5 := x5) (x6 := x6) (x7 := x7) hl hn
    simp (decide := true) [Atom.v]
    rw [sat_toS]
    exact this _ _ _ _ _ _
  | free =>
    rw [← al .free (fun k r hr => by unfold fitsV; rw [hr])]
    have := fun w x3 x4 x5 x6 x7 => lc_alone (A := .free) (X := fun x h => X0 x [some Atom.free.v, some (.ref n), w, x3, x4, x5, x6, x7] h) (w := w) (x3 := x3) (x4 := x4) (x5 := x5) (x6 := x6) (x7 := x7) hl hn
    simp (decide := true) [Atom.v]
    rw [sat_toS]
    exact this _ _ _ _ _ _
  | due i =>
    rw [← al (.due i) (fun k r hr => by unfold fitsV; rw [hr])]
    have := fun w x3 x4 x5 x6 x7 => lc_alone (A := (.due i)) (X := fun x h => X0 x [some (Atom.due i).v, some (.ref n), w, x3, x4, x5, x6, x7] h) (w := w) (x3 := x3) (x4 := x4) (x5 := x5) (x6 := x6) (x7 := x7) hl hn
    simp (decide := true) [Atom.v]
    rw [sat_toS]
    exact this _ _ _ _ _ _
  | depth i =>
    rw [← al (.depth i) (fun k r hr => by unfold fitsV; rw [hr])]
    have := fun w x3 x4 x5 x6 x7 => lc_alone (A := (.depth i)) (X := fun x h => X0 x [some (Atom.depth i).v, some (.ref n), w, x3, x4, x5, x6, x7] h) (w := w) (x3 := x3) (x4 := x4) (x5 := x5) (x6 := x6) (x7 := x7) hl hn
    simp (decide := true) [Atom.v]
    rw [sat_toS]
    exact this _ _ _ _ _ _
  | says s =>
    rw [← al (.says s) (fun k r hr => by unfold fitsV; rw [hr])]
    have := fun w x3 x4 x5 x6 x7 => lc_alone (A := (.says s)) (X := fun x h => X0 x [some (Atom.says s).v, some (.ref n), w, x3, x4, x5, x6, x7] h) (w := w) (x3 := x3) (x4 := x4) (x5 := x5) (x6 := x6) (x7 := x7) hl hn
    simp (decide := true) [Atom.v]
    rw [sat_toS]
    exact this _ _ _ _ _ _
end Z.K50
/-! K50u: both ways tell the same. -/
namespace Z.K50
open Z
def dAt (L : List Row) (k : Nat) : Nat := match L[k]? with
  | some r => r.d
  | none => 0
theorem dAt_eq {L : List Row} {k : Nat} {r : Row} (h : L[k]? = some r) : dAt L k = r.d := by unfold dAt; rw [h]
theorem at_of {L : List Row} {k : Nat} (h : k < L.length) : ∃ r, L[k]? = some r := ⟨_, List.getElem?_eq_getElem h⟩
theorem dp_s {L : List Row} {k : Nat} {r : Row} (h : L[k]? = some r) : dp L (k + 1) = r.d + 1 := by
  unfold dp
  dsimp only
  rw [h]
theorem dp_z {L : List Row} : dp L 0 = 0 := rfl
theorem Good.step {L : List Row} (G : Good L) {k : Nat} (h : k + 1 < L.length) : dAt L (k + 1) ≤ dAt L k + 1 := by
  obtain ⟨r, hr⟩ := at_of h
  obtain ⟨q, hq⟩ := at_of (L := L) (k := k) (by omega)
  have := G.chain (k + 1) r hr
  rw [dp_s hq] at this
  rw [dAt_eq hr, dAt_eq hq]
  exact this
theorem Good.zero {L : List Row} (G : Good L) (h : 0 < L.length) : dAt L 0 = 0 := by
  obtain ⟨r, hr⟩ := at_of h
  have := G.chain 0 r hr
  rw [dAt_eq hr]
  rw [dp_z] at this
  omega
/-- what lies between is met -/
theorem Good.mid {L : List Row} (G : Good L) {a v : Nat} : ∀ (n j : Nat), j = a + n → j < L.length → dAt L a ≤ v → v < dAt L j → ∃ i, a ≤ i ∧ i < j ∧ dAt L i = v
  | 0, j, e, hj, h1, h2 => by
    rw [Nat.add_zero] at e
    subst e
    omega
  | n + 1, j, e, hj, h1, h2 => by
    subst e
    by_cases h3 : v < dAt L (a + n)
    · obtain ⟨i, x, y, z⟩ := Good.mid G n (a + n) rfl (by omega) h1 h3
      exact ⟨i, x, by omega, z⟩
    · have := G.step (k := a + n) hj
      have h2' : v < dAt L (a + n + 1) := h2
      exact ⟨a + n, by omega, by omega, by omega⟩
theorem Good.mid' {L : List Row} (G : Good L) {a j v : Nat} (h : a ≤ j) (hj : j < L.length) (h1 : dAt L a ≤ v) (h2 : v < dAt L j) : ∃ i, a ≤ i ∧ i < j ∧ dAt L i = v := G.mid (j - a) j (by omega) hj h1 h2
theorem lastAt_s {L : List Row} {e k : Nat} (hk : k < L.length) : lastAt L (e : Int) (k + 1) = if dAt L k = e then some k else lastAt L (e : Int) k := by
  obtain ⟨r, hr⟩ := at_of hk
  rw [lastAt, hr, dAt_eq hr]
  dsimp only
  by_cases h : r.d = e
  · subst h; simp
  · rw [if_neg h, if_neg (by omega)]
theorem lastAt_some {L : List Row} {e : Nat} : ∀ {k j : Nat}, k ≤ L.length → (lastAt L (e : Int) k = some j ↔ j < k ∧ dAt L j = e ∧ ∀ i, j < i → i < k → dAt L i ≠ e)
  | 0, j, _ => by
    constructor
    · intro h; cases h
    · intro h; omega
  | k + 1, j, hk => by
    rw [lastAt_s (by omega)]
    by_cases h : dAt L k = e
    · rw [if_pos h]
      constructor
      · intro q
        cases q
        exact ⟨by omega, h, fun i h1 h2 => by omega⟩
      · rintro ⟨h1, h2, h3⟩
        by_cases hj : j = k
        · subst hj; rfl
        · exact absurd h (h3 k (by omega) (by omega))
    · rw [if_neg h, lastAt_some (by omega)]
      constructor
      · rintro ⟨h1, h2, h3⟩
        refine ⟨by omega, h2, fun i a b => ?_⟩
        by_cases hi : i = k
        · subst hi; exact h
        · exact h3 i a (by omega)
      · rintro ⟨h1, h2, h3⟩
        have : j ≠ k := fun z => h (z ▸ h2)
        exact ⟨by omega, h2, fun i a b => h3 i a (by omega)⟩
theorem lastAt_ex {L : List Row} {e k i : Nat} (hk : k ≤ L.length) (hi : i < k) (hd : dAt L i = e) : ∃ j, lastAt L (e : Int) k = some j := by
  induction k with
  | zero => omega
  | succ k ih =>
    rw [lastAt_s (by omega)]
    by_cases h : dAt L k = e
    · exact ⟨k, by rw [if_pos h]⟩
    · rw [if_neg h]
      have : i ≠ k := fun z => h (z ▸ hd)
      exact ih (by omega) (by omega)
theorem up_s {L : List Row} {k e : Nat} (hk : k < L.length) (hd : dAt L k = e + 1) : upAt L k = lastAt L (e : Int) k := by
  obtain ⟨r, hr⟩ := at_of hk
  unfold upAt
  rw [hr]
  rw [dAt_eq hr] at hd
  dsimp only
  have : (r.d : Int) - 1 = (e : Int) := by omega
  rw [this]
theorem lastAt_neg {L : List Row} : ∀ k, lastAt L (-1) k = none
  | 0 => rfl
  | k + 1 => by
    unfold lastAt
    split
    · rw [if_neg (by omega)]; exact lastAt_neg k
    · exact lastAt_neg k
theorem up_z {L : List Row} {k : Nat} (hd : dAt L k = 0) : upAt L k = none := by
  unfold upAt
  unfold dAt at hd
  cases h : L[k]? with
  | none => rfl
  | some r =>
    rw [h] at hd
    dsimp only at hd ⊢
    rw [hd]
    exact lastAt_neg k
/-- what is above k -/
theorem above_iff {L : List Row} (G : Good L) (p : Nat → Bool) : ∀ (n k : Nat), k < n → k < L.length → ((aboveL L k).any p = true ↔ ∃ e, e < dAt L k ∧ ∃ j, lastAt L (e : Int) k = some j ∧ p j = true)
  | 0, k, h, _ => by omega
  | n + 1, k, h, hk => by
    cases hd : dAt L k with
    | zero =>
      rw [aboveL_none (up_z hd)]
      simp
    | succ e0 =>
      have hup := up_s hk hd
      obtain ⟨i0, _, h2, h3⟩ := G.mid' (a := 0) (j := k) (v := e0) (Nat.zero_le _) hk (by rw [G.zero (by omega)]; omega) (by omega)
      obtain ⟨j, hj⟩ := lastAt_ex (Nat.le_of_lt hk) h2 h3
      have hjj := (lastAt_some (Nat.le_of_lt hk)).mp hj
      rw [hj] at hup
      rw [aboveL_some hup]
      have ih := above_iff G p n j (by omega) (by omega)
      rw [List.any_cons, Bool.or_eq_true, ih]
      have skip : ∀ e, e < e0 → lastAt L (e : Int) j = lastAt L (e : Int) k := by
        intro e he
        have big : ∀ i, j ≤ i → i < k → e < dAt L i := by
          intro i a b
          by_cases hij : i = j
          · subst hij; omega
          · by_cases hle : dAt L i ≤ e0
            · obtain ⟨i2, b1, b2, b3⟩ := G.mid' (a := i) (j := k) (v := e0) (by omega) hk hle (by omega)
              exact absurd b3 (hjj.2.2 i2 (by omega) b2)
            · omega
        cases hz : lastAt L (e : Int) k with
        | none =>
          cases hz2 : lastAt L (e : Int) j with
          | none => rfl
          | some m =>
            have q := (lastAt_some (by omega)).mp hz2
            obtain ⟨m2, hm2⟩ := lastAt_ex (L := L) (k := k) (Nat.le_of_lt hk) (i := m) (by omega) q.2.1
            rw [hz] at hm2; cases hm2
        | some m =>
          have q := (lastAt_some (Nat.le_of_lt hk)).mp hz
          have hmj : m < j := by
            by_cases hm : m < j
            · exact hm
            · have := big m (by omega) q.1
              omega
          exact (lastAt_some (by omega)).mpr ⟨hmj, q.2.1, fun i a b => q.2.2 i a (by omega)⟩
      constructor
      · rintro (hp | ⟨e, he, m, hm, hp⟩)
        · exact ⟨e0, by omega, j, hj, hp⟩
        · have he' : e < e0 := by rw [hjj.2.1] at he; exact he
          exact ⟨e, by omega, m, by rw [← skip e he']; exact hm, hp⟩
      · rintro ⟨e, he, m, hm, hp⟩
        by_cases h0 : e = e0
        · subst h0
          rw [hj] at hm
          cases hm
          exact Or.inl hp
        · exact Or.inr ⟨e, by rw [hjj.2.1]; omega, m, by rw [skip e (by omega)]; exact hm, hp⟩
/-! ### leaf -/
theorem leaf_same {L : List Row} (G : Good L) {k : Nat} (hk : k < L.length) : leafAt L k = lawV L .leaf k := by
  have ev : lawV L .leaf k = !((List.range L.length).any fun j => decide (upAt L j = some k)) := rfl
  rw [ev]
  by_cases hl : k + 1 = L.length
  · have e1 : leafAt L k = true := by unfold leafAt; simp [hl]
    rw [e1, eq_comm, Bool.not_eq_true', List.any_eq_false]
    intro j hj
    have := List.mem_range.mp hj
    simp
    intro h
    have := upAt_lt h
    omega
  · have hk1 : k + 1 < L.length := by omega
    obtain ⟨r, hr⟩ := at_of hk
    obtain ⟨q, hq⟩ := at_of hk1
    have e1 : leafAt L k = decide (dAt L (k + 1) ≤ dAt L k) := by unfold leafAt; rw [hr, hq, dAt_eq hr, dAt_eq hq]; simp [hl]
    rw [e1]
    by_cases hd : dAt L (k + 1) ≤ dAt L k
    · rw [decide_eq_true hd, eq_comm, Bool.not_eq_true', List.any_eq_false]
      intro j hj
      have hj := List.mem_range.mp hj
      simp
      intro h
      have hlt := upAt_lt h
      cases hdj : dAt L j with
      | zero => rw [up_z hdj] at h; cases h
      | succ e =>
        rw [up_s hj hdj, lastAt_some (by omega)] at h
        obtain ⟨i, a, b, c⟩ := G.mid' (a := k + 1) (j := j) (v := e) (by omega) hj (by omega) (by omega)
        exact h.2.2 i (by omega) b c
    · rw [decide_eq_false hd, eq_comm, Bool.not_eq_false', List.any_eq_true]
      refine ⟨k + 1, List.mem_range.mpr hk1, ?_⟩
      have hs := G.step hk1
      have hd2 : dAt L (k + 1) = dAt L k + 1 := by omega
      simp
      rw [up_s hk1 hd2, lastAt_some (by omega)]
      exact ⟨by omega, rfl, fun i a b => by omega⟩
/-! ### seen -/
def foAt (L : List Row) (j : Nat) : Bool := match L[j]? with
  | some r => r.fo
  | none => false
theorem stk_at {L : List Row} (G : Good L) : ∀ k, k ≤ L.length → (stk L k).length = dp L k ∧ ∀ e, e < dp L k → (stk L k)[e]? = (lastAt L (e : Int) k).map (foAt L)
  | 0, _ => ⟨rfl, fun e h => by rw [dp_z] at h; omega⟩
  | k + 1, hk => by
    obtain ⟨ih1, ih2⟩ := stk_at G k (by omega)
    obtain ⟨r, hr⟩ := at_of (L := L) (k := k) (by omega)
    have hc := G.chain k r hr
    have e1 : stk L (k + 1) = (stk L k).take r.d ++ [r.fo] := by rw [stk, hr]
    have e2 : dp L (k + 1) = r.d + 1 := dp_s hr
    have e3 : ((stk L k).take r.d).length = r.d := by rw [List.length_take, ih1]; omega
    rw [e1, e2]
    refine ⟨by rw [List.length_append, e3]; rfl, fun e he => ?_⟩
    rw [lastAt_s (by omega), dAt_eq hr]
    by_cases h : r.d = e
    · subst h
      rw [if_pos rfl, List.getElem?_append_right (by omega), e3]
      simp [foAt, hr]
    · rw [if_neg h, List.getElem?_append_left (by omega), List.getElem?_take_of_lt (by omega)]
      exact ih2 e (by omega)
theorem seen_same {L : List Row} (G : Good L) {k : Nat} (hk : k < L.length) : seenAt L k = lawV L .seen k := by
  have ev : lawV L .seen k = !((aboveL L k).any (foAt L)) := rfl
  obtain ⟨r, hr⟩ := at_of hk
  have es : seenAt L k = !((stk L k).take r.d).any id := by unfold seenAt; rw [hr]
  rw [ev, es]
  congr 1
  rw [Bool.eq_iff_iff, above_iff G (foAt L) (k + 1) k (by omega) hk, dAt_eq hr, List.any_eq_true]
  obtain ⟨h1, h2⟩ := stk_at G k (by omega)
  have hc := G.chain k r hr
  constructor
  · rintro ⟨x, hx, hx2⟩
    obtain ⟨e, he⟩ := List.mem_iff_getElem?.mp hx
    have hel : e < ((stk L k).take r.d).length := (List.getElem?_eq_some_iff.mp he).1
    rw [List.length_take, h1] at hel
    rw [List.getElem?_take_of_lt (by omega), h2 e (by omega)] at he
    cases hj : lastAt L (e : Int) k with
    | none => rw [hj] at he; cases he
    | some j =>
      rw [hj] at he
      refine ⟨e, by omega, j, hj, ?_⟩
      have : foAt L j = x := by simpa using he
      rw [this]
      exact hx2
  · rintro ⟨e, he, j, hj, hp⟩
    refine ⟨true, List.mem_iff_getElem?.mpr ⟨e, ?_⟩, rfl⟩
    rw [List.getElem?_take_of_lt he, h2 e (by omega), hj]
    simp [hp]
/-! ### beneath -/
def nmAt (L : List Row) (a b : Int) (j : Nat) : Bool := match L[j]? with
  | some r => decide (r.n1 = a) && decide (r.n2 = b)
  | none => false
theorem nm_one {L : List Row} (G : Good L) {a b : Int} {i j : Nat} (h1 : nmAt L a b i = true) (h2 : nmAt L a b j = true) : i = j := by
  unfold nmAt at h1 h2
  cases e1 : L[i]? with
  | none => rw [e1] at h1; cases h1
  | some r =>
    cases e2 : L[j]? with
    | none => rw [e2] at h2; cases h2
    | some q =>
      rw [e1] at h1
      rw [e2] at h2
      simp at h1 h2
      have l1 := (List.getElem?_eq_some_iff.mp e1).1
      have l2 := (List.getElem?_eq_some_iff.mp e2).1
      have := G.len
      rcases G.name i r e1 with x | x <;> rcases G.name j q e2 with y | y <;> omega
theorem cutD_some {o : Option Nat} {d e : Nat} : cutD o d = some e ↔ o = some e ∧ e < d := by
  cases o with
  | none => simp [cutD]
  | some x =>
    unfold cutD
    dsimp only
    by_cases h : d ≤ x
    · rw [if_pos h]
      constructor
      · intro z; cases z
      · rintro ⟨z, w⟩; cases z; omega
    · rw [if_neg h]
      constructor
      · intro z; cases z; exact ⟨rfl, by omega⟩
      · rintro ⟨z, w⟩; exact z
theorem udep_iff {L : List Row} (G : Good L) {a b : Int} {e : Nat} : ∀ k, k ≤ L.length → (udep L a b k = some e ↔ ∃ p, p < k ∧ nmAt L a b p = true ∧ dAt L p = e ∧ ∀ i, p < i → i < k → e < dAt L i)
  | 0, _ => by
    constructor
    · intro h; cases h
    · rintro ⟨p, h, _⟩; omega
  | k + 1, hk => by
    obtain ⟨r, hr⟩ := at_of (L := L) (k := k) (by omega)
    have en : nmAt L a b k = (decide (r.n1 = a) && decide (r.n2 = b)) := by unfold nmAt; rw [hr]
    have ed : udep L a b (k + 1) = if r.n1 = a ∧ r.n2 = b then some r.d else cutD (udep L a b k) r.d := by rw [udep, hr]
    rw [ed]
    by_cases h : r.n1 = a ∧ r.n2 = b
    · have hn : nmAt L a b k = true := by rw [en]; simp [h]
      rw [if_pos h]
      constructor
      · intro z
        cases z
        exact ⟨k, by omega, hn, dAt_eq hr, fun i x y => by omega⟩
      · rintro ⟨p, h1, h2, h3, h4⟩
        have := nm_one G h2 hn
        subst this
        rw [← h3, dAt_eq hr]
    · have hn : ¬ nmAt L a b k = true := by rw [en]; simpa using h
      rw [if_neg h, cutD_some, udep_iff G k (by omega)]
      constructor
      · rintro ⟨⟨p, h1, h2, h3, h4⟩, h5⟩
        refine ⟨p, by omega, h2, h3, fun i x y => ?_⟩
        by_cases hi : i = k
        · subst hi; rw [dAt_eq hr]; exact h5
        · exact h4 i x (by omega)
      · rintro ⟨p, h1, h2, h3, h4⟩
        have hp : p ≠ k := fun z => hn (z ▸ h2)
        refine ⟨⟨p, by omega, h2, h3, fun i x y => h4 i x (by omega)⟩, ?_⟩
        have := h4 k (by omega) (by omega)
        rw [dAt_eq hr] at this
        exact this
theorem beneath_same {L : List Row} (G : Good L) {a b : Int} {k : Nat} (hk : k < L.length) : underAt L a b k = lawV L (.beneath a b) k := by
  have ev : lawV L (.beneath a b) k = (aboveL L k).any (nmAt L a b) := rfl
  obtain ⟨r, hr⟩ := at_of hk
  have es : underAt L a b k = (cutD (udep L a b k) r.d).isSome := by unfold underAt; rw [hr]
  rw [ev, es, Bool.eq_iff_iff, above_iff G (nmAt L a b) (k + 1) k (by omega) hk, Option.isSome_iff_exists]
  constructor
  · rintro ⟨e, he⟩
    rw [cutD_some, udep_iff G k (by omega)] at he
    obtain ⟨⟨p, h1, h2, h3, h4⟩, h5⟩ := he
    refine ⟨e, by rw [dAt_eq hr]; exact h5, p, (lastAt_some (by omega)).mpr ⟨h1, h3, fun i x y => ?_⟩, h2⟩
    have := h4 i x y
    omega
  · rintro ⟨e, he, j, hj, hp⟩
    have q := (lastAt_some (by omega)).mp hj
    refine ⟨e, ?_⟩
    rw [cutD_some, udep_iff G k (by omega)]
    refine ⟨⟨j, q.1, hp, q.2.1, fun i x y => ?_⟩, by rw [dAt_eq hr] at he; exact he⟩
    by_cases hle : dAt L i ≤ e
    · obtain ⟨i2, b1, b2, b3⟩ := G.mid' (a := i) (j := k) (v := e) (by omega) hk hle he
      exact absurd b3 (q.2.2 i2 (by omega) b2)
    · omega
theorem same {L : List Row} (G : Good L) {A : Atom} {k : Nat} (hk : k < L.length) : fitsV L A k = lawV L A k := by
  cases A with
  | leaf => exact leaf_same G hk
  | seen => exact seen_same G hk
  | beneath a b => exact beneath_same G hk
  | _ => rfl
end Z.K50
/-! K50v: the law. -/
namespace Z.K50
open Z
open L2 (atI)
open PySem (PyData)
theorem cut_ints (ns : List Int) : ∃ cs : List Int, cs.length ≤ 40 ∧ cutP (ns.map PV.int) (some 2) (some 42) = cs.map PV.int := by
  unfold cutP
  have e1 : HT.sIx (ns.map PV.int).length 0 (some 2) = min 2 ns.length := by simp [HT.sIx]
  have e2 : HT.sIx (ns.map PV.int).length (ns.map PV.int).length (some 42) = min 42 ns.length := by simp [HT.sIx]
  rw [e1, e2]
  refine ⟨(ns.drop (min 2 ns.length)).take (min 42 ns.length - min 2 ns.length), ?_, by rw [List.map_take, List.map_drop]⟩
  rw [List.length_take]
  omega
def rowD (r : Row) : PyData := .tuple [.int r.d, nmD r, .str r.t, .bool r.dn, (match r.who with
  | some i => .int i
  | none => .none), .bool r.fo]
theorem toD_row {h : PH} {k : Nat} {r : Row} : toD h (k + 1 + 1 + 1) r.v = some (rowD r) := by
  unfold Row.v
  rw [toD_tup, mapM_c toD_int (mapM_c (show toD h (k + 1 + 1) r.nm = some (nmD r) from toD_nm) (mapM_c toD_str (mapM_c toD_bl (mapM_c (show toD h (k + 1 + 1) (whoV r.who) = some (match r.who with
    | some i => .int i
    | none => .none) by cases r.who with
      | none => exact toD_non
      | some i => exact toD_int) (mapM_c toD_bl mapM_n)))))]
  rfl
theorem toD_rows {h : PH} {n : Nat} {L : List Row} (e : listAt h n = some (L.map Row.v)) : toD h (63 + 1) (.ref n) = some (.list (L.map rowD)) := by
  rw [toD_ref, e]
  show ((L.map Row.v).mapM (toD h (60 + 1 + 1 + 1))).map PyData.list = _
  rw [mapM_map (fun r => toD_row)]
  rfl
theorem pNe_rows {h : PH} {n m : Nat} {L : List Row} (e1 : listAt h n = some (L.map Row.v)) (e2 : listAt h m = some (L.map Row.v)) : pNe (.ref n) (.ref m) h = some (.bl false, h) := by
  rw [pNe_D rfl (toD_rows e1) (toD_rows e2), eqv_self _ _ _ (toD_rows e1)]
  rfl
theorem toD_bls {h : PH} {n : Nat} {α : Type} {f : α → Bool} {xs : List α} (e : listAt h n = some (xs.map fun k => .bl (f k))) : toD h (63 + 1) (.ref n) = some (.list (xs.map fun k => .bool (f k))) := by
  rw [toD_ref, e]
  show ((xs.map fun k => PV.bl (f k)).mapM (toD h (62 + 1))).map PyData.list = _
  rw [mapM_map (fun r => toD_bl)]
  rfl
theorem pEq_bls {h : PH} {n m : Nat} {α : Type} {f : α → Bool} {xs : List α} (e1 : listAt h n = some (xs.map fun k => .bl (f k))) (e2 : listAt h m = some (xs.map fun k => .bl (f k))) : pEq (.ref n) (.ref m) h = some (.bl true, h) := by
  rw [pEq_D rfl (toD_bls e1) (toD_bls e2), eqv_self _ _ _ (toD_bls e1)]
theorem names_ok {h : PH} {n : Nat} {L : List Row} {X : Exn → PH → Prop} {x0 x2 x3 x4 x5 x6 x7 : Option PV} (hl : L.length ≤ 40) (hn : listAt h n = some (L.map Row.v)) :
    (eLc (iSeq (eVar 1)) (Z.gName 7) (eC (.bl true)) (eBin pIxU (eVar 7) (eC (.int 1))) [7] [x0, some (.ref n), x2, x3, x4, x5, x6, x7] h).sat (NewL h (L.map Row.nm)) X := by
  refine lc_seq (v := .ref n) (xs := L.map Row.v) (ys := L.map Row.nm) rfl (fun g p => listAt_pfx p hn) (by simp; omega) (by simp) (fun _ => True) ?_ trivial ?_
  · intro j x y g hx hy p _
    obtain ⟨r, hr, rfl⟩ := rowV hx
    rw [List.getElem?_map, hr] at hy
    cases hy
    refine ⟨[x0, some (.ref n), x2, x3, x4, x5, x6, some r.v], by simp [wipe], rfl, g, ?_, List.prefix_rfl, fun _ => trivial⟩
    simp [Row.v]
  · intro g p _ hg
    exact ⟨p, h.length, rfl, Nat.le_refl _, hg⟩
theorem isT_list {h : PH} {n : Nat} {xs : List PV} (e : listAt h n = some xs) : pIsT "list" (.ref n) h = some (.bl true, h) := by
  unfold pIsT tyP
  dsimp only
  rw [e]
  rfl
theorem isT_bool {h : PH} {b : Bool} : pIsT "bool" (.bl b) h = some (.bl true, h) := rfl
theorem law_holds (ns : List Int) (hns : ns.length ≤ 63) : ∃ h2, F_law [.ref 0] [.frz (ns.map PV.int)] = .ok (.bl true) h2 := by
  have main : (F_law [.ref 0] [.frz (ns.map PV.int)]).sat (fun v _ => v = .bl true) X1 := by
    unfold F_law
    refine run_sat ?_
    unfold B_law
    simp only [List.map_cons, List.map_nil, List.length_cons, List.length_nil, List.cons_append, List.nil_append, List.replicate, Nat.reduceAdd, Nat.reduceSub]
    obtain ⟨cs, hcs, ecs⟩ := cut_ints ns
    generalize hh0 : ([.frz (ns.map PV.int)] : PH) = h0
    have s0 : listAt h0 0 = some (ns.map PV.int) := by subst hh0; rfl
    -- the rows
    obtain ⟨v1, h1, e1, L, G, p1, m1, rfl, hm1, hd1⟩ := Res.get (rows_ok (h := h0 ++ [.lst (cs.map PV.int)]) (n := h0.length) (cs := cs) hcs new_l)
    have hl := G.len
    have hsl : pSlc (.ref 0) (some 2) (some 42) h0 = some (.ref h0.length, h0 ++ [.lst (cs.map PV.int)]) := by
      unfold pSlc
      dsimp only
      rw [s0]
      show some (PV.ref h0.length, h0 ++ [PO.lst (cutP (ns.map PV.int) (some 2) (some 42))]) = _
      rw [ecs]
    have st1 : sAsg (eCall F__law_rows (aCons (eSl pSlc (eVar 0) (oPart (eC (.int 2))) (oPart (eC (.int 42)))) aNil)) (gName 1) [some (.ref 0), none, none, none, none, none, none, none] h0 = .nx [some (.ref 0), some (.ref m1), none, none, none, none, none, none] h1 := by
      simp [hsl, e1]
    rw [sSeq_ap, st1, thn_nx]
    have r1 : listAt h1 m1 = some (L.map Row.v) := listAt_l hd1
    have s1 : listAt h1 0 = some (ns.map PV.int) := listAt_pfx ((List.prefix_append _ _).trans p1) s0
    -- the copy
    rw [sSeq_ap]
    have st2 : sAsg (eArg pList (aCons (eVar 1) aNil)) (gName 2) [some (.ref 0), some (.ref m1), none, none, none, none, none, none] h1 = .nx [some (.ref 0), some (.ref m1), some (.ref h1.length), none, none, none, none, none] (h1 ++ [.lst (L.map Row.v)]) := by
      simp [pList_l r1]
    rw [st2, thn_nx]
    have k2 : listAt (h1 ++ [.lst (L.map Row.v)]) h1.length = some (L.map Row.v) := new_l
    have p2 : h1 <+: h1 ++ [.lst (L.map Row.v)] := List.prefix_append _ _
    generalize h1 ++ [.lst (L.map Row.v)] = h2 at k2 p2
    generalize h1.length = mk at k2
    have r2 := listAt_pfx p2 r1
    have s2 := listAt_pfx p2 s1
    -- ups
    obtain ⟨v3, h3, e3, p3, m3, rfl, hm3, hd3⟩ := Res.get (ups_ok (h := h2) hl r2)
    rw [sSeq_ap]
    have st3 : sAsg (eCall F__law_ups (aCons (eVar 1) aNil)) (gName 3) [some (.ref 0), some (.ref m1), some (.ref mk), none, none, none, none, none] h2 = .nx [some (.ref 0), some (.ref m1), some (.ref mk), some (.ref m3), none, none, none, none] h3 := by
      simp [e3]
    rw [st3, thn_nx]
    have r3 := listAt_pfx p3 r2
    have s3 := listAt_pfx p3 s2
    have k3 := listAt_pfx p3 k2
    have u3 := listAt_l hd3
    -- the condition
    obtain ⟨v4, h4, e4, q4, i, rfl⟩ := Res.get (cell_ok (h := h3) (n := 0) (k := 0) s3)
    subst q4
    obtain ⟨v5, h5, e5, p5, m5, rfl, hm5, hd5⟩ := Res.get (names_ok (X := X1) (h := h4) (x0 := some (.ref 0)) (x2 := some (.ref mk)) (x3 := some (.ref m3)) (x4 := none) (x5 := none) (x6 := none) (x7 := none) hl r3)
    obtain ⟨v6, h6, e6, p6, A, rfl⟩ := Res.get (atom_ok (h := h5) (i := i) hl (listAt_l hd5))
    rw [sSeq_ap]
    have st4 : sAsg (eCall F__law_atom (aCons (eCall F__law_cell_at (aCons (eVar 0) (aCons (eC (.int 0)) aNil))) (aCons (eLc (iSeq (eVar 1)) (gName 7) (eC (.bl true)) (eBin pIxU (eVar 7) (eC (.int 1))) [7]) aNil))) (gName 4)
        [some (.ref 0), some (.ref m1), some (.ref mk), some (.ref m3), none, none, none, none] h4 = .nx [some (.ref 0), some (.ref m1), some (.ref mk), some (.ref m3), some A.v, none, none, none] h6 := by
      have e4' : F__law_cell_at [.ref 0, .int 0] h4 = .ok (.int i) h4 := e4
      simp only [sAsg_ap, eCall_ap, aCons_ap, aNil_ap, eVar_0, eC_ap, bind_ok, e4', e5, e6, toS_ok, gName_4, toN_ok]
    rw [st4, thn_nx]
    have p46 := p5.trans p6
    have r6 := listAt_pfx p46 r3
    have k6 := listAt_pfx p46 k3
    have u6 := listAt_pfx p46 u3
    -- found
    obtain ⟨v7, h7, e7, p7, m7, rfl, hm7, hd7⟩ := Res.get (fitting_ok (h := h6) (n := m1) (L := L) (A := A) hl r6)
    rw [sSeq_ap]
    have st5 : sAsg (eCall (F_fitting 40) (aCons (eVar 4) (aCons (eVar 1) aNil))) (gName 5) [some (.ref 0), some (.ref m1), some (.ref mk), some (.ref m3), some A.v, none, none, none] h6 = .nx [some (.ref 0), some (.ref m1), some (.ref mk), some (.ref m3), some A.v, some (.ref m7), none, none] h7 := by
      simp only [sAsg_ap, eCall_ap, aCons_ap, aNil_ap, eVar_4, eVar_1, bind_ok, e7, toS_ok, gName_5, toN_ok]
    rw [st5, thn_nx]
    have r7 := listAt_pfx p7 r6
    have k7 := listAt_pfx p7 k6
    have u7 := listAt_pfx p7 u6
    have f7 := listAt_l hd7
    rw [sSeq_ap]
    have st6 : sIf (eOr (eNot (eUn (pIsT "list") (eVar 5))) (eOr (eBin pNe (eArg pLen (aCons (eVar 5) aNil)) (eArg pLen (aCons (eVar 1) aNil))) (eBin pNe (eVar 1) (eVar 2)))) (sRet (eC (.bl false))) sNx
        [some (.ref 0), some (.ref m1), some (.ref mk), some (.ref m3), some A.v, some (.ref m7), none, none] h7 = .nx [some (.ref 0), some (.ref m1), some (.ref mk), some (.ref m3), some A.v, some (.ref m7), none, none] h7 := by
      simp [isT_list f7, pLen_l f7, pLen_l r7, pNe_rows r7 k7]
    rw [st6, thn_nx, sSeq_ap, sat_thn]
    have hlen : eArg pLen (aCons (eVar 1) aNil) [some (.ref 0), some (.ref m1), some (.ref mk), some (.ref m3), some A.v, some (.ref m7), none, none] h7 = .ok (.int (L.length : Nat)) h7 := by
      simp [pLen_l r7]
    refine for_rng1 (k := L.length) hlen (by omega) (fun i r g => h7 <+: g ∧ ∃ x, r = [some (.ref 0), some (.ref m1), some (.ref mk), some (.ref m3), some A.v, some (.ref m7), x, none]) ⟨List.prefix_rfl, none, rfl⟩ ?_ ?_
    · intro k r g hk ⟨p, x, hr⟩
      subst hr
      refine ⟨[some (.ref 0), some (.ref m1), some (.ref mk), some (.ref m3), some A.v, some (.ref m7), some (.int k), none], g, rfl, ?_⟩
      obtain ⟨v8, h8, e8, p8, rfl⟩ := Res.get (lawfits_ok (h := g) (k := k) (A := A) hl hk (listAt_pfx p r7) (listAt_pfx p u7))
      have fk : atI ((List.range L.length).map fun k => PV.bl (fitsV L A k)) (k : Int) = some (.bl (fitsV L A k)) := atI_nat (by simp [hk])
      have eb : L1_law [some (.ref 0), some (.ref m1), some (.ref mk), some (.ref m3), some A.v, some (.ref m7), some (.int k), none] g = .nx [some (.ref 0), some (.ref m1), some (.ref mk), some (.ref m3), some A.v, some (.ref m7), some (.int k), none] h8 := by
        unfold L1_law
        simp [pIxU_l (listAt_pfx p f7), fk, isT_bool, e8, same G hk]
      rw [eb]
      exact ⟨p.trans p8, _, rfl⟩
    · intro r g ⟨p, x, hr⟩
      subst hr
      obtain ⟨v9, h9, e9, p9, m9, rfl, hm9, hd9⟩ := Res.get (fitting_ok (h := g) (n := m1) (L := L) (A := A) hl (listAt_pfx p r7))
      have q := pEq_bls (listAt_l hd9) (listAt_pfx (p.trans p9) f7)
      simp [e9, q]
  obtain ⟨a, h, e, rfl⟩ := Res.get main
  exact ⟨h, e⟩
end Z.K50
/-! K50h: the head of the law. Printed by gen.py. -/
namespace Z.K50
open PySem PySem.Spec PyProof.Rows L2
def d__law_text : He.DefD := ⟨("_law_text", none), "_law_text", "_law_text", defArgs s__law_text, defBody s__law_text, defScope s__law_text, [], []⟩
def d__law_rows : He.DefD := ⟨("_law_rows", none), "_law_rows", "_law_rows", defArgs s__law_rows, defBody s__law_rows, defScope s__law_rows, [], []⟩
def d__law_ups : He.DefD := ⟨("_law_ups", none), "_law_ups", "_law_ups", defArgs s__law_ups, defBody s__law_ups, defScope s__law_ups, [], []⟩
def d__law_atom : He.DefD := ⟨("_law_atom", none), "_law_atom", "_law_atom", defArgs s__law_atom, defBody s__law_atom, defScope s__law_atom, [], []⟩
def d_leaves : He.DefD := ⟨("leaves", none), "leaves", "leaves", defArgs s_leaves, defBody s_leaves, defScope s_leaves, [], []⟩
def d_unhidden : He.DefD := ⟨("unhidden", none), "unhidden", "unhidden", defArgs s_unhidden, defBody s_unhidden, defScope s_unhidden, [], []⟩
def d_under : He.DefD := ⟨("under", none), "under", "under", defArgs s_under, defBody s_under, defScope s_under, [], []⟩
def d_fits_alone : He.DefD := ⟨("fits_alone", none), "fits_alone", "fits_alone", defArgs s_fits_alone, defBody s_fits_alone, defScope s_fits_alone, [], []⟩
def d_fitting : He.DefD := ⟨("fitting", none), "fitting", "fitting", defArgs s_fitting, defBody s_fitting, defScope s_fitting, [], []⟩
def d__law_cell_at : He.DefD := ⟨("_law_cell_at", none), "_law_cell_at", "_law_cell_at", defArgs s__law_cell_at, defBody s__law_cell_at, defScope s__law_cell_at, [], []⟩
def d__law_above : He.DefD := ⟨("_law_above", none), "_law_above", "_law_above", defArgs s__law_above, defBody s__law_above, defScope s__law_above, [], []⟩
def d__law_fits : He.DefD := ⟨("_law_fits", none), "_law_fits", "_law_fits", defArgs s__law_fits, defBody s__law_fits, defScope s__law_fits, [], []⟩
def d_law : He.DefD := ⟨("law", none), "law", "law", defArgs s_law, defBody s_law, defScope s_law, [], []⟩
def fn : List He.DefD := [d__law_text, d__law_rows, d__law_ups, d__law_atom, d_leaves, d_unhidden, d_under, d_fits_alone, d_fitting, d__law_cell_at, d__law_above, d__law_fits, d_law]
def fa : List He.Fa := [.glo "_law_text", .glo "_law_rows", .glo "_law_ups", .glo "_law_atom", .glo "leaves", .glo "unhidden", .glo "under", .glo "fits_alone", .glo "fitting", .glo "_law_cell_at", .glo "_law_above", .glo "_law_fits", .glo "law"] ++ Z.frees.map He.Fa.free
abbrev R : PySem.W.OpenRow := PySem.W.OpenLaw.row PySem.Challenge.rw_limb_k50_rows_that_fit
abbrev hk : PySem.W.Hook := He.hookD 5 fa fn
def ob (s : PySem.W.SharedT) : He.AlD := He.obsDG 5 fa fn (HandSHeadRun.getT s)
theorem ob_eq (s : PySem.W.SharedT) : ob s = hk.obs s.abs := He.obsDG_eq (HandSHeadRun.getT_eq s)
def names0 : List PySem.Str := [Str.ofString "leaves", Str.ofString "unhidden", Str.ofString "under", Str.ofString "fits_alone", Str.ofString "fitting", Str.ofString "_law_cell_at", Str.ofString "_law_text", Str.ofString "_law_rows", Str.ofString "_law_ups", Str.ofString "_law_above", Str.ofString "_law_fits", Str.ofString "_law_atom"]
def names : List PySem.Str := names0
theorem run (w : World) : HandSHeadRun.RunEq R (PySem.W.view R.prog [14]) hk ob 40000 names w := by
  intro os
  kernel_rfl
section
variable {P : Program} {w : World} {K : PySem.W.Frag} {h : Heap} {mg : Str → Option Value}
theorem frees_ok (X : K.In h) (G : h.Ns mainGlobals mg) (c : He.SaysD fa fn K) : Z.Frees mg Z.frees := fun x hx => by
  have hm : He.Fa.free x ∈ fa := List.mem_append_right _ (List.mem_map.mpr ⟨x, hx, rfl⟩)
  obtain ⟨i, hi, e⟩ := List.mem_iff_getElem.mp hm
  exact He.free_ok X G (c.fact i (f := .free x) (by rw [List.getElem?_eq_getElem hi, e]))
theorem dk__law_text (X : K.In h) (G : h.Ns mainGlobals mg) (c : He.SaysD fa fn K) : Z.DK K mg "_law_text" s__law_text ["number"] := by
  obtain ⟨fd, F⟩ := c.def_ 0 (d := d__law_text) rfl
  exact ⟨_, fd, F, He.glo_ok X G (c.fact 0 (f := .glo "_law_text") rfl), FunD.bindsN F fun _ _ _ _ _ _ us hl => match us, hl with | [_], _ => rfl⟩
theorem dk__law_rows (X : K.In h) (G : h.Ns mainGlobals mg) (c : He.SaysD fa fn K) : Z.DK K mg "_law_rows" s__law_rows ["cells"] := by
  obtain ⟨fd, F⟩ := c.def_ 1 (d := d__law_rows) rfl
  exact ⟨_, fd, F, He.glo_ok X G (c.fact 1 (f := .glo "_law_rows") rfl), FunD.bindsN F fun _ _ _ _ _ _ us hl => match us, hl with | [_], _ => rfl⟩
theorem dk__law_ups (X : K.In h) (G : h.Ns mainGlobals mg) (c : He.SaysD fa fn K) : Z.DK K mg "_law_ups" s__law_ups ["rows"] := by
  obtain ⟨fd, F⟩ := c.def_ 2 (d := d__law_ups) rfl
  exact ⟨_, fd, F, He.glo_ok X G (c.fact 2 (f := .glo "_law_ups") rfl), FunD.bindsN F fun _ _ _ _ _ _ us hl => match us, hl with | [_], _ => rfl⟩
theorem dk__law_atom (X : K.In h) (G : h.Ns mainGlobals mg) (c : He.SaysD fa fn K) : Z.DK K mg "_law_atom" s__law_atom ["number", "names"] := by
  obtain ⟨fd, F⟩ := c.def_ 3 (d := d__law_atom) rfl
  exact ⟨_, fd, F, He.glo_ok X G (c.fact 3 (f := .glo "_law_atom") rfl), FunD.bindsN F fun _ _ _ _ _ _ us hl => match us, hl with | [_, _], _ => rfl⟩
theorem dk_leaves (X : K.In h) (G : h.Ns mainGlobals mg) (c : He.SaysD fa fn K) : Z.DK K mg "leaves" s_leaves ["rows"] := by
  obtain ⟨fd, F⟩ := c.def_ 4 (d := d_leaves) rfl
  exact ⟨_, fd, F, He.glo_ok X G (c.fact 4 (f := .glo "leaves") rfl), FunD.bindsN F fun _ _ _ _ _ _ us hl => match us, hl with | [_], _ => rfl⟩
theorem dk_unhidden (X : K.In h) (G : h.Ns mainGlobals mg) (c : He.SaysD fa fn K) : Z.DK K mg "unhidden" s_unhidden ["rows"] := by
  obtain ⟨fd, F⟩ := c.def_ 5 (d := d_unhidden) rfl
  exact ⟨_, fd, F, He.glo_ok X G (c.fact 5 (f := .glo "unhidden") rfl), FunD.bindsN F fun _ _ _ _ _ _ us hl => match us, hl with | [_], _ => rfl⟩
theorem dk_under (X : K.In h) (G : h.Ns mainGlobals mg) (c : He.SaysD fa fn K) : Z.DK K mg "under" s_under ["name", "rows"] := by
  obtain ⟨fd, F⟩ := c.def_ 6 (d := d_under) rfl
  exact ⟨_, fd, F, He.glo_ok X G (c.fact 6 (f := .glo "under") rfl), FunD.bindsN F fun _ _ _ _ _ _ us hl => match us, hl with | [_, _], _ => rfl⟩
theorem dk_fits_alone (X : K.In h) (G : h.Ns mainGlobals mg) (c : He.SaysD fa fn K) : Z.DK K mg "fits_alone" s_fits_alone ["condition", "row"] := by
  obtain ⟨fd, F⟩ := c.def_ 7 (d := d_fits_alone) rfl
  exact ⟨_, fd, F, He.glo_ok X G (c.fact 7 (f := .glo "fits_alone") rfl), FunD.bindsN F fun _ _ _ _ _ _ us hl => match us, hl with | [_, _], _ => rfl⟩
theorem dk_fitting (X : K.In h) (G : h.Ns mainGlobals mg) (c : He.SaysD fa fn K) : Z.DK K mg "fitting" s_fitting ["condition", "rows"] := by
  obtain ⟨fd, F⟩ := c.def_ 8 (d := d_fitting) rfl
  exact ⟨_, fd, F, He.glo_ok X G (c.fact 8 (f := .glo "fitting") rfl), FunD.bindsN F fun _ _ _ _ _ _ us hl => match us, hl with | [_, _], _ => rfl⟩
theorem dk__law_cell_at (X : K.In h) (G : h.Ns mainGlobals mg) (c : He.SaysD fa fn K) : Z.DK K mg "_law_cell_at" s__law_cell_at ["script", "k"] := by
  obtain ⟨fd, F⟩ := c.def_ 9 (d := d__law_cell_at) rfl
  exact ⟨_, fd, F, He.glo_ok X G (c.fact 9 (f := .glo "_law_cell_at") rfl), FunD.bindsN F fun _ _ _ _ _ _ us hl => match us, hl with | [_, _], _ => rfl⟩
theorem dk__law_above (X : K.In h) (G : h.Ns mainGlobals mg) (c : He.SaysD fa fn K) : Z.DK K mg "_law_above" s__law_above ["k", "ups"] := by
  obtain ⟨fd, F⟩ := c.def_ 10 (d := d__law_above) rfl
  exact ⟨_, fd, F, He.glo_ok X G (c.fact 10 (f := .glo "_law_above") rfl), FunD.bindsN F fun _ _ _ _ _ _ us hl => match us, hl with | [_, _], _ => rfl⟩
theorem dk__law_fits (X : K.In h) (G : h.Ns mainGlobals mg) (c : He.SaysD fa fn K) : Z.DK K mg "_law_fits" s__law_fits ["condition", "k", "rows", "ups"] := by
  obtain ⟨fd, F⟩ := c.def_ 11 (d := d__law_fits) rfl
  exact ⟨_, fd, F, He.glo_ok X G (c.fact 11 (f := .glo "_law_fits") rfl), FunD.bindsN F fun _ _ _ _ _ _ us hl => match us, hl with | [_, _, _, _], _ => rfl⟩
theorem dk_law (X : K.In h) (G : h.Ns mainGlobals mg) (c : He.SaysD fa fn K) : Z.DK K mg "law" s_law ["script"] := by
  obtain ⟨fd, F⟩ := c.def_ 12 (d := d_law) rfl
  exact ⟨_, fd, F, He.glo_ok X G (c.fact 12 (f := .glo "law") rfl), FunD.bindsN F fun _ _ _ _ _ _ us hl => match us, hl with | [_], _ => rfl⟩
theorem facts {f : Addr} (X : K.In h) (G : h.Ns mainGlobals mg) (hfa : mg ("law" : Str) = some (.ref f)) (c : He.SaysD fa fn K) :
    ∃ fd : FuncData, (∀ (s : Shared) (v : Value), BindsTo s fd ⟨[v], []⟩ [("script", v)]) ∧ ∀ base : Heap, FnOk P w K mg base (L2.CX P w) 43 f fd ["script"] (Z.spF ⟨K, w, fun _ => 0, fun _ => ""⟩ 1 F_law) := by
  obtain ⟨fd, F⟩ := c.def_ 12 (d := d_law) rfl
  have e := hfa.symm.trans (He.glo_ok X G (c.fact 12 (f := .glo "law") rfl))
  cases e
  have b := FunD.bindsA (ps := ["script"]) F fun _ _ _ _ _ _ us hl => match us, hl with | [_], _ => rfl
  refine ⟨fd, fun s v => b s [v] rfl, fun base => ?_⟩
  have hf := frees_ok X G c
  have c__law_text := k__law_text (P := P) (w := w) (base := base) (G := ⟨K, w, fun _ => 0, fun _ => ""⟩) (dk__law_text X G c) rfl rfl hf
  have c__law_rows := k__law_rows (P := P) (w := w) (base := base) (G := ⟨K, w, fun _ => 0, fun _ => ""⟩) (dk__law_rows X G c) rfl rfl hf c__law_text
  have c__law_ups := k__law_ups (P := P) (w := w) (base := base) (G := ⟨K, w, fun _ => 0, fun _ => ""⟩) (dk__law_ups X G c) rfl rfl hf
  have c__law_atom := k__law_atom (P := P) (w := w) (base := base) (G := ⟨K, w, fun _ => 0, fun _ => ""⟩) (dk__law_atom X G c) rfl rfl hf
  have c_leaves := k_leaves (P := P) (w := w) (base := base) (G := ⟨K, w, fun _ => 0, fun _ => ""⟩) (dk_leaves X G c) rfl rfl hf
  have c_unhidden := k_unhidden (P := P) (w := w) (base := base) (G := ⟨K, w, fun _ => 0, fun _ => ""⟩) (dk_unhidden X G c) rfl rfl hf
  have c_under := k_under (P := P) (w := w) (base := base) (G := ⟨K, w, fun _ => 0, fun _ => ""⟩) (dk_under X G c) rfl rfl hf
  have c_fits_alone := k_fits_alone (P := P) (w := w) (base := base) (G := ⟨K, w, fun _ => 0, fun _ => ""⟩) (dk_fits_alone X G c) rfl rfl hf
  have c_fitting := k_fitting (P := P) (w := w) (base := base) (G := ⟨K, w, fun _ => 0, fun _ => ""⟩) (dk_fitting X G c) rfl rfl hf c_leaves c_unhidden c_under c_fits_alone 40
  have c__law_cell_at := k__law_cell_at (P := P) (w := w) (base := base) (G := ⟨K, w, fun _ => 0, fun _ => ""⟩) (dk__law_cell_at X G c) rfl rfl hf
  have c__law_above := k__law_above (P := P) (w := w) (base := base) (G := ⟨K, w, fun _ => 0, fun _ => ""⟩) (dk__law_above X G c) rfl rfl hf
  have c__law_fits := k__law_fits (P := P) (w := w) (base := base) (G := ⟨K, w, fun _ => 0, fun _ => ""⟩) (dk__law_fits X G c) rfl rfl hf c__law_above
  exact k0_law F rfl rfl hf c__law_rows c__law_ups c__law_atom c_fitting c__law_cell_at c__law_fits
end
end Z.K50
open PySem PySem.W PySem.Calls PyProof.Rows
theorem Z.K50.holds_of (hl : ∀ ns : List Int, ns.length ≤ 63 → ∃ h2, Z.K50.F_law [.ref 0] [.frz (ns.map Z.PV.int)] = .ok (.bl true) h2) : PySem.Challenge.rw_limb_k50_rows_that_fit.Holds := by
  w_on; o_law
  refine HandSHeadRun.head_any (r := OpenLaw.row PySem.Challenge.rw_limb_k50_rows_that_fit) (q := view (OpenLaw.row PySem.Challenge.rw_limb_k50_rows_that_fit).prog [14]) (H := Z.K50.hk) (ob := Z.K50.ob) (M := 40000) (loose := Z.K50.names) (d := HandSHeadRun.topDef (OpenLaw.row PySem.Challenge.rw_limb_k50_rows_that_fit).prog 14) (kwd := []) Z.K50.ob_eq
    (by kernel_rfl) (fun s => by kernel_rfl) Z.K50.run (by kernel_rfl) (by kernel_rfl) (by kernel_rfl) (by rfl) (by first | assumption | decide +kernel) (by decide +kernel) ⟨rfl, rfl, rfl, rfl, rfl, by decide +kernel⟩ ?hw ?hc
  case hw => w_witness2
  case hc =>
    refine L2.walk_ofE (l := PySem.Challenge.rw_limb_k50_rows_that_fit) (n := 63) (k := 43) (x := "script") (CX := fun _ _ _ _ _ _ => False) rfl (by decide) (by kernel_rfl) ⟨rfl, by decide, by decide⟩ ?F (fun _ _ _ _ z => z)
    intro w mg fa h Y G hmg0
    obtain ⟨K, KX, c⟩ := Y
    have hmg : mg ("law" : PySem.Str) = some (.ref fa) := by
      have e : (HandSHeadRun.topDef (OpenLaw.row PySem.Challenge.rw_limb_k50_rows_that_fit).prog 14).name = ("law" : PySem.Str) := by kernel_rfl
      rw [← e]
      exact hmg0
    obtain ⟨fd, hb, hF⟩ := Z.K50.facts (P := (PySem.Challenge.rw_limb_k50_rows_that_fit).prog) (w := w) KX G hmg c
    exact ⟨K, fd, fun vs H Q _ => Z.spF ⟨K, w, fun _ => 0, fun _ => ""⟩ 1 Z.K50.F_law vs H Q (fun _ _ _ => False), KX, hb, fun H a ns hn hO hS => Z.law_sp (G := ⟨K, w, fun _ => 0, fun _ => ""⟩) hO hS (hl ns hn), fun base _ _ => Z.fn_close (hF base)⟩
theorem PySem.Challenge.cw_limb_k50_rows_that_fit_holds : PySem.Challenge.rw_limb_k50_rows_that_fit.Holds := by
  exact Z.K50.holds_of Z.K50.law_holds
