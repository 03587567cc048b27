import PyProof.Rows.All
import Wide.All
import OpenK.AllK
import Wide.FinOn
import HandS.ForMost
import HandS.ForExc
import HandS.Wide
import HandS.More
import HandS.Conv
import HandS.IsInst
import HandS.ExcIs
import HandS.TryMany
import HandS.DictEq
import HandS.DeepEq
import HandS.Style
import HandS.Small
import HandS.StrMore
import HandS.HotCalls
import HandS.Finally
import PySem.Challenge.RW_formlens_k13_whole_unknown_stays
set_option Elab.async false
set_option maxRecDepth 100000
set_option linter.all false
/-! FA: the data, the interpreter's combinators. -/
namespace Fm
open PySem L2

/-- data that nobody changes any more -/
inductive F where
  | non | bl (b : Bool) | int (i : Int) | str (x : Str)
  | lst (xs : List F) | tup (xs : List F) | dct (kvs : List (Key × F))
  /-- the script -/
  | scr (ns : List Int)
  deriving Inhabited
/-- a value: data, the k-th cell, the object that slot i owns, a caught error of a class -/
inductive W where
  | f (x : F) | c (k : Nat) | o (i : Nat) | x (c : Str)
  /-- an object of which nothing is known -/
  | u
/-- what stands in a cell -/
inductive Ct where
  | lst (xs : List F) | dct (kvs : List (Key × F)) | ins (fs : List (Str × Nat))
  /-- a list of cells -/
  | cls (ks : List Nat)
inductive Sl where
  | no | v (w : W) | own (c : Ct)
structure Sto where
  O : List Ct
  lk : List W
inductive Y where
  | w (x : W) | fr (c : Ct)
inductive R (α : Type) where
  | ok (a : α) (s : Sto) | exc (c : Str) (s : Sto) | bad
abbrev M := List Sl → Sto → R Y
inductive RS where
  | nx (sl : List Sl) (s : Sto) | rt (y : Y) (s : Sto) | bk (sl : List Sl) (s : Sto) | ct (sl : List Sl) (s : Sto) | exc (c : Str) (sl : List Sl) (s : Sto) | bad
abbrev MS := List Sl → Sto → RS

def R.bind {α β : Type} (r : R α) (k : α → Sto → R β) : R β := match r with
  | .ok a s => k a s
  | .exc c s => .exc c s
  | .bad => .bad
@[simp] theorem R.bind_ok {α β : Type} (a : α) (s : Sto) (k : α → Sto → R β) : (R.ok a s).bind k = k a s := rfl
@[simp] theorem R.bind_exc {α β : Type} (c : Str) (s : Sto) (k : α → Sto → R β) : (R.exc c s : R α).bind k = .exc c s := rfl
@[simp] theorem R.bind_bad {α β : Type} (k : α → Sto → R β) : (R.bad : R α).bind k = .bad := rfl

@[simp] def Ct.toF : Ct → F
  | .lst xs => .lst xs
  | .dct kvs => .dct kvs
  | .ins _ => .non
  | .cls _ => .non
/-- frozen -/
@[simp] def frz : Y → W
  | .w x => x
  | .fr (.lst xs) => .f (.lst xs)
  | .fr (.dct kvs) => .f (.dct kvs)
  | .fr (.ins _) => .u
  | .fr (.cls _) => .u
/-- what is to be read of a value now -/
@[simp] def pk (sl : List Sl) (s : Sto) : W → Option F
  | .f x => some x
  | .c k => match s.O[k]? with
    | some (.lst xs) => some (.lst xs)
    | some (.dct kvs) => some (.dct kvs)
    | _ => none
  | .o i => match sl[i]? with
    | some (.own (.lst xs)) => some (.lst xs)
    | some (.own (.dct kvs)) => some (.dct kvs)
    | _ => none
  | .x _ => none
  | .u => none

/-- an operation's answer: a value that is there (or a flat one), a new object, a new tuple -/
inductive Op where
  | val (x : F) | new (c : Ct) | ntup (xs : List F) | bad
@[simp] def Op.res (s : Sto) : Op → R Y
  | .val x => .ok (.w (.f x)) s
  | .new (.lst xs) => .ok (.fr (.lst xs)) s
  | .new (.dct kvs) => .ok (.fr (.dct kvs)) s
  | .new (.ins _) => .bad
  | .new (.cls _) => .bad
  | .ntup xs => .ok (.w (.f (.tup xs))) s
  | .bad => .bad

/-! ### expressions -/
@[simp] def mVar (i : Nat) : M := fun sl s => match sl[i]? with
  | some (.v w) => .ok (.w w) s
  | some (.own _) => .ok (.w (.o i)) s
  | _ => .bad
@[simp] def mC (x : F) : M := fun _ s => .ok (.w (.f x)) s
/-- a value, then more -/
def mW (m : M) (k : W → M) : M := fun sl s => (m sl s).bind fun y s1 => k (frz y) sl s1
@[simp] def op1 (f : F → Op) (w : W) : M := fun sl s => match pk sl s w with
  | some x => (f x).res s
  | none => .bad
@[simp] def op2 (f : F → F → Op) (w u : W) : M := fun sl s => match pk sl s w, pk sl s u with
  | some x, some y => (f x y).res s
  | _, _ => .bad
def mU (f : F → Op) (a : M) : M := fun sl s => mW a (op1 f) sl s
def mB (f : F → F → Op) (a b : M) : M := fun sl s => mW a (fun w => mW b (op2 f w)) sl s
/-- the arguments' values -/
abbrev MA := List Sl → Sto → R (List W)
@[simp] def aNil : MA := fun _ s => .ok [] s
def aCons (m : M) (r : MA) : MA := fun sl s => (m sl s).bind fun y s1 => (r sl s1).bind fun ws s2 => .ok (frz y :: ws) s2
@[simp] def pks (sl : List Sl) (s : Sto) : List W → Option (List F)
  | [] => some []
  | w :: ws => match pk sl s w, pks sl s ws with
    | some x, some xs => some (x :: xs)
    | _, _ => none
/-- all of them data -/
@[simp] def fsOf : List W → Option (List F)
  | [] => some []
  | .f x :: ws => match fsOf ws with
    | some xs => some (x :: xs)
    | none => none
  | _ :: _ => none
@[simp] def opN (f : List F → Op) (ws : List W) : M := fun sl s => match pks sl s ws with
  | some xs => (f xs).res s
  | none => .bad
def mN (f : List F → Op) (a : MA) : M := fun sl s => (a sl s).bind fun ws s1 => opN f ws sl s1
@[simp] def mLst (a : MA) : M := fun sl s => (a sl s).bind fun ws s1 => match fsOf ws with
  | some xs => if xs.length ≤ sizeLine then .ok (.fr (.lst xs)) s1 else .bad
  | none => .bad
@[simp] def mTup (a : MA) : M := fun sl s => (a sl s).bind fun ws s1 => match fsOf ws with
  | some xs => if xs.length ≤ sizeLine then .ok (.w (.f (.tup xs))) s1 else .bad
  | none => .bad
def mAnd (a b : M) : M := fun sl s => (a sl s).bind fun y s1 => match y with
  | .w (.f (.bl true)) => b sl s1
  | .w (.f (.bl false)) => .ok (.w (.f (.bl false))) s1
  | _ => .bad
def mOr (a b : M) : M := fun sl s => (a sl s).bind fun y s1 => match y with
  | .w (.f (.bl false)) => b sl s1
  | .w (.f (.bl true)) => .ok (.w (.f (.bl true))) s1
  | _ => .bad
@[simp] def mNot (a : M) : M := fun sl s => (a sl s).bind fun y s1 => match y with
  | .w (.f (.bl b)) => .ok (.w (.f (.bl (!b)))) s1
  | _ => .bad
def mIf (t a b : M) : M := fun sl s => (t sl s).bind fun y s1 => match y with
  | .w (.f (.bl true)) => a sl s1
  | .w (.f (.bl false)) => b sl s1
  | _ => .bad
/-- a < b < c -/
def mCh (f g : F → F → Op) (a b c : M) : M := fun sl s => mW a (fun w => mW b fun u => fun sl s => (op2 f w u sl s).bind fun y s1 => match y with
  | .w (.f (.bl true)) => mW c (op2 g u) sl s1
  | .w (.f (.bl false)) => .ok (.w (.f (.bl false))) s1
  | _ => .bad) sl s
@[simp] def isN : W → Bool
  | .f .non => true
  | _ => false
def mIsN (a : M) : M := fun sl s => mW a (fun w _ s => .ok (.w (.f (.bl (isN w)))) s) sl s
def mNotN (a : M) : M := fun sl s => mW a (fun w _ s => .ok (.w (.f (.bl (!isN w)))) s) sl s

/-! ### calls of defs -/
abbrev Psi := List W → Sto → R Y
@[simp] def argOk : W → Bool
  | .f _ => true
  | .c _ => true
  | _ => false
def mCall (psi : Psi) (a : MA) : M := fun sl s => (a sl s).bind fun ws s1 => if ws.all argOk then psi ws s1 else .bad

/-! ### statements -/
@[simp] def sSkip : MS := fun sl s => .nx sl s
def RS.andThen (r : RS) (k : MS) : RS := match r with
  | .nx sl s => k sl s
  | r => r
@[simp] theorem RS.andThen_nx (sl : List Sl) (s : Sto) (k : MS) : (RS.nx sl s).andThen k = k sl s := rfl
@[simp] theorem RS.andThen_rt (y : Y) (s : Sto) (k : MS) : (RS.rt y s).andThen k = .rt y s := rfl
@[simp] theorem RS.andThen_bk (sl : List Sl) (s : Sto) (k : MS) : (RS.bk sl s).andThen k = .bk sl s := rfl
@[simp] theorem RS.andThen_ct (sl : List Sl) (s : Sto) (k : MS) : (RS.ct sl s).andThen k = .ct sl s := rfl
@[simp] theorem RS.andThen_exc (c : Str) (sl : List Sl) (s : Sto) (k : MS) : (RS.exc c sl s).andThen k = .exc c sl s := rfl
@[simp] theorem RS.andThen_bad (k : MS) : RS.bad.andThen k = .bad := rfl
@[simp] def sSeq (m1 m2 : MS) : MS := fun sl s => (m1 sl s).andThen m2
/-- an expression, then what is done with its answer -/
def R.st {α : Type} (r : R α) (sl : List Sl) (k : α → Sto → RS) : RS := match r with
  | .ok a s => k a s
  | .exc c s => .exc c sl s
  | .bad => .bad
@[simp] theorem R.st_ok {α : Type} (a : α) (s : Sto) (sl : List Sl) (k : α → Sto → RS) : (R.ok a s).st sl k = k a s := rfl
@[simp] theorem R.st_exc {α : Type} (c : Str) (s : Sto) (sl : List Sl) (k : α → Sto → RS) : (R.exc c s : R α).st sl k = .exc c sl s := rfl
@[simp] theorem R.st_bad {α : Type} (sl : List Sl) (k : α → Sto → RS) : (R.bad : R α).st sl k = .bad := rfl
def sIf (t : M) (a b : MS) : MS := fun sl s => (t sl s).st sl fun y s1 => match y with
  | .w (.f (.bl true)) => a sl s1
  | .w (.f (.bl false)) => b sl s1
  | _ => .bad
@[simp] def slotOk : W → Bool
  | .o _ => false
  | _ => true
/-- x = e, a value -/
@[simp] def sSet (i : Nat) (m : M) : MS := fun sl s => (m sl s).st sl fun y s1 => if slotOk (frz y) then .nx (sl.set i (.v (frz y))) s1 else .bad
/-- x = e, a new object that x owns -/
@[simp] def sOwn (i : Nat) (m : M) : MS := fun sl s => (m sl s).st sl fun y s1 => match y with
  | .fr c => .nx (sl.set i (.own c)) s1
  | _ => .bad
/-- x = e, a new object in a cell -/
@[simp] def sCel (i : Nat) (m : M) : MS := fun sl s => (m sl s).st sl fun y s1 => match y with
  | .fr c => .nx (sl.set i (.v (.c s1.O.length))) { s1 with O := s1.O ++ [c] }
  | _ => .bad
/-- what x owns is data from now on -/
@[simp] def sFrz (i : Nat) : MS := fun sl s => match sl[i]? with
  | some (.own c) => .nx (sl.set i (.v (frz (.fr c)))) s
  | _ => .bad
@[simp] def sExp (m : M) : MS := fun sl s => (m sl s).st sl fun _ s1 => .nx sl s1
@[simp] def retY (sl : List Sl) : Y → Option Y
  | .w (.o i) => match sl[i]? with
    | some (.own c) => some (.fr c)
    | _ => none
  | y => some y
@[simp] def sRet (m : M) : MS := fun sl s => (m sl s).st sl fun y s1 => match retY sl y with
  | some y' => .rt y' s1
  | none => .bad
@[simp] def sRaise (c : Str) : MS := fun sl s => .exc c sl s
/-- x.append(e), x an own list -/
@[simp] def sApp (i : Nat) (m : M) : MS := fun sl s => (m sl s).st sl fun y s1 => match frz y, sl[i]? with
  | .f x, some (.own (.lst xs)) => if xs.length < sizeLine then .nx (sl.set i (.own (.lst (xs ++ [x])))) s1 else .bad
  | _, _ => .bad
/-- one turn of a for after the other -/
def loopF (i : Nat) (body : MS) : List F → List Sl → Sto → RS
  | [], sl, s => .nx sl s
  | x :: xs, sl, s => match body (sl.set i (.v (.f x))) s with
    | .nx sl1 s1 => loopF i body xs sl1 s1
    | .ct sl1 s1 => loopF i body xs sl1 s1
    | .bk sl1 s1 => .nx sl1 s1
    | r => r
end Fm
namespace Fm
open PySem L2
/-! ### slices -/
abbrev MO := Option M
def mPart : MO → (Option Int → M) → M
  | none, k => k none
  | some m, k => mW m fun w => fun sl s => match w with
    | .f (.int i) => k (some i) sl s
    | _ => .bad
def mSl (f : F → Option Int → Option Int → Op) (a : M) (lo hi : MO) : M := fun sl s => mW a (fun w => mPart lo fun i => mPart hi fun j => op1 (fun x => f x i j) w) sl s
end Fm
namespace Fm
open PySem L2
/-! ### what is walked -/
abbrev MI := List Sl → Sto → R (List F)
@[simp] def iL (m : M) : MI := fun sl s => (m sl s).bind fun y s1 => match frz y with
  | .f (.lst xs) => .ok xs s1
  | _ => .bad
@[simp] def iT (m : M) : MI := fun sl s => (m sl s).bind fun y s1 => match frz y with
  | .f (.tup xs) => .ok xs s1
  | _ => .bad
def signs (x : Str) : List F := x.cps.toList.map fun c => F.str ⟨#[c]⟩
@[simp] def iS (m : M) : MI := fun sl s => (m sl s).bind fun y s1 => match frz y with
  | .f (.str x) => .ok (signs x) s1
  | _ => .bad
/-- a, a + c, .. (n of them) -/
def rgF (a c : Int) (n : Nat) : List F := (List.range n).map fun (k : Nat) => F.int (a + (k : Int) * c)
def inB (i : Int) : Bool := decide (i.natAbs < 4611686018427387904)
@[simp] def iR1 (m : M) : MI := fun sl s => (m sl s).bind fun y s1 => match frz y with
  | .f (.int j) => if inB j then .ok (rgF 0 1 j.toNat) s1 else .bad
  | _ => .bad
@[simp] def iR2 (a b : M) : MI := fun sl s => (a sl s).bind fun y s1 => (b sl s1).bind fun z s2 => match frz y, frz z with
  | .f (.int i), .f (.int j) => if inB i && inB j then .ok (rgF i 1 (j - i).toNat) s2 else .bad
  | _, _ => .bad
/-- with a step -/
@[simp] def iR3 (a b c : M) : MI := fun sl s => (a sl s).bind fun y s1 => (b sl s1).bind fun z s2 => (c sl s2).bind fun u s3 => match frz y, frz z, frz u with
  | .f (.int i), .f (.int j), .f (.int c) => if c ≠ 0 ∧ c.natAbs < 1073741824 ∧ Builtin.Range.small i j c = true ∧ 0 ≤ Builtin.Range.rangeSize i j c then .ok (rgF i c (Builtin.Range.rangeSize i j c).toNat) s3 else .bad
  | _, _, _ => .bad
def sFor (i : Nat) (it : MI) (body : MS) : MS := fun sl s => (it sl s).st sl fun xs s1 => loopF i body xs sl s1
def sWhile (t : M) (body : MS) : Nat → MS
  | 0 => fun _ _ => .bad
  | n + 1 => fun sl s => (t sl s).st sl fun y s1 => match y with
    | .w (.f (.bl true)) => match body sl s1 with
      | .nx sl1 s2 => sWhile t body n sl1 s2
      | .ct sl1 s2 => sWhile t body n sl1 s2
      | .bk sl1 s2 => .nx sl1 s2
      | r => r
    | .w (.f (.bl false)) => .nx sl s1
    | _ => .bad
end Fm
namespace Fm
open PySem L2
/-! ### a def -/
def Sto.back (s s' : Sto) : Sto := ⟨s'.O.take s.O.length, s.lk⟩
@[simp] def slots (N : Nat) (ws : List W) : List Sl := ws.map Sl.v ++ List.replicate (N - ws.length) Sl.no
/-- no object left points to what is forgotten -/
def Ct.ptrs : Ct → List Nat
  | .ins fs => fs.map (·.2)
  | .cls ks => ks
  | _ => []
def insOk (s : Sto) : Prop := ∀ (k : Nat) (c : Ct), s.O[k]? = some c → ∀ p ∈ c.ptrs, p < s.O.length
def bOk (s s' : Sto) : Bool := (s'.O.take s.O.length).all fun c => c.ptrs.all fun p => decide (p < s.O.length)
/-- a def's run: what it made in cells is forgotten behind it -/
def runA (N : Nat) (body : MS) : Psi := fun ws s => match body (slots N ws) s with
  | .rt (.w (.f x)) s' => if bOk s s' then .ok (.w (.f x)) (s.back s') else .bad
  | .rt (.w (.c k)) s' => if bOk s s' then (if k < s.O.length then .ok (.w (.c k)) (s.back s') else match s'.O[k]? with
      | some (.lst xs) => .ok (.fr (.lst xs)) (s.back s')
      | some (.dct kvs) => .ok (.fr (.dct kvs)) (s.back s')
      | _ => .bad) else .bad
  | .rt (.fr c) s' => if bOk s s' && c.ptrs.all fun p => decide (p < s.O.length) then .ok (.fr c) (s.back s') else .bad
  | .nx _ s' => if bOk s s' then .ok (.w (.f .non)) (s.back s') else .bad
  | .exc c _ s' => if bOk s s' then .exc c (s.back s') else .bad
  | _ => .bad
/-- .. a def that hands out what it made in cells -/
def runB (N : Nat) (body : MS) : Psi := fun ws s => match body (slots N ws) s with
  | .rt (.w (.f x)) s' => .ok (.w (.f x)) s'
  | .rt (.w (.c k)) s' => .ok (.w (.c k)) s'
  | .rt (.fr c) s' => .ok (.fr c) s'
  | .nx _ s' => .ok (.w (.f .non)) s'
  | .exc c _ s' => .exc c s'
  | _ => .bad
/-- phi gives what psi says, where psi says anything -/
def Ref (psi phi : Psi) : Prop := ∀ ws s, insOk s → ws.all argOk = true → psi ws s ≠ .bad → phi ws s = psi ws s
theorem Ref.rfl {psi : Psi} : Ref psi psi := fun _ _ _ _ _ => by rfl
theorem bOk_self {s : Sto} (h : insOk s) : bOk s s = true := by
  unfold bOk
  rw [List.all_eq_true]
  intro c hc
  rw [List.take_length] at hc
  obtain ⟨k, hk⟩ := List.getElem?_of_mem hc
  exact List.all_eq_true.mpr fun p hp => decide_eq_true (h k c hk p hp)
theorem back_self (s : Sto) : s.back s = s := by
  cases s; simp [Sto.back]
/-- o.m(..): o in a cell -/
def mMeth (psi : Psi) (m : Str) (o : M) (a : MA) : M := fun sl s => (o sl s).bind fun y s1 => match frz y with
  | .c k => match s1.O[k]? with
    | some (.ins fs) => if fs.lookup m = none then (a sl s1).bind fun ws s2 => if ws.all argOk then psi (.c k :: ws) s2 else .bad else .bad
    | _ => .bad
  | _ => .bad
/-- C(..) -/
def mMake (psi : Psi) (a : MA) : M := fun sl s => (a sl s).bind fun ws s1 => if ws.all argOk then
    match psi (.c s1.O.length :: ws) { s1 with O := s1.O ++ [.ins []] } with
    | .ok (.w (.f .non)) s2 => .ok (.w (.c s1.O.length)) s2
    | .exc c s2 => if bOk s1 s2 then .exc c (s1.back s2) else .bad
    | _ => .bad
  else .bad
/-- o.f -/
@[simp] def mFld (f : Str) (o : M) : M := fun sl s => (o sl s).bind fun y s1 => match frz y with
  | .c k => match s1.O[k]? with
    | some (.ins fs) => match fs.lookup f with
      | some j => .ok (.w (.c j)) s1
      | none => .bad
    | _ => .bad
  | _ => .bad
end Fm

/-! FB: what data and states mean over the abstract heap. -/
namespace Fm
open PySem L2

/-! ### data in a stable heap -/
mutual
def Rep (K : PySem.W.Frag) (S : Hp) : F → V → Prop
  | .non, v => v = .non
  | .bl b, v => v = .bl b
  | .int i, v => v = .int i
  | .str x, v => v = .str x
  | .scr ns, v => ∃ a, v = .ref a ∧ SqL K S a (ns.map V.int)
  | .lst xs, v => ∃ a vs, v = .ref a ∧ S a = some (.lst vs) ∧ Reps K S xs vs
  | .tup xs, v => ∃ a vs, v = .ref a ∧ S a = some (.tup vs) ∧ Reps K S xs vs
  | .dct kvs, v => ∃ a vs, v = .ref a ∧ S a = some (.dK vs) ∧ RepK K S kvs vs
def Reps (K : PySem.W.Frag) (S : Hp) : List F → List V → Prop
  | [], vs => vs = []
  | x :: xs, vs => ∃ v r, vs = v :: r ∧ Rep K S x v ∧ Reps K S xs r
def RepK (K : PySem.W.Frag) (S : Hp) : List (Key × F) → List (Key × V) → Prop
  | [], vs => vs = []
  | (k, x) :: xs, vs => ∃ v r, vs = (k, v) :: r ∧ Rep K S x v ∧ RepK K S xs r
end
def Sub (S S' : Hp) : Prop := ∀ a u, S a = some u → S' a = some u
theorem Sub.rfl {S : Hp} : Sub S S := fun _ _ h => h
theorem Sub.trans {S S1 S2 : Hp} (h : Sub S S1) (k : Sub S1 S2) : Sub S S2 := fun a u e => k a u (h a u e)
theorem Sub.sq {K : PySem.W.Frag} {S S' : Hp} {a : Addr} {vs : List V} (h : Sub S S') (q : SqL K S a vs) : SqL K S' a vs := by
  rcases q with (q | ⟨o, q⟩) | q
  · exact .inl (.inl (h _ _ q))
  · exact .inl (.inr ⟨o, h _ _ q⟩)
  · exact .inr q
theorem Sub.upd {S : Hp} {p : Addr} {o : HO} (h : S p = none) : Sub S (upd S p o) := fun a u e => by
  rw [upd_ne (ne_of_none e h)]; exact e
mutual
theorem Rep.sub {K : PySem.W.Frag} {S S' : Hp} (h : Sub S S') : ∀ (x : F) (v : V), Rep K S x v → Rep K S' x v
  | .non, _, r => by simpa only [Rep] using r
  | .bl _, _, r => by simpa only [Rep] using r
  | .int _, _, r => by simpa only [Rep] using r
  | .str _, _, r => by simpa only [Rep] using r
  | .lst xs, _, r => by
    simp only [Rep] at r ⊢
    obtain ⟨a, vs, e, q, t⟩ := r
    exact ⟨a, vs, e, h _ _ q, Reps.sub h xs vs t⟩
  | .scr ns, _, r => by
    simp only [Rep] at r ⊢
    obtain ⟨a, e, q⟩ := r
    exact ⟨a, e, h.sq q⟩
  | .tup xs, _, r => by
    simp only [Rep] at r ⊢
    obtain ⟨a, vs, e, q, t⟩ := r
    exact ⟨a, vs, e, h _ _ q, Reps.sub h xs vs t⟩
  | .dct kvs, _, r => by
    simp only [Rep] at r ⊢
    obtain ⟨a, vs, e, q, t⟩ := r
    exact ⟨a, vs, e, h _ _ q, RepK.sub h kvs vs t⟩
theorem Reps.sub {K : PySem.W.Frag} {S S' : Hp} (h : Sub S S') : ∀ (xs : List F) (vs : List V), Reps K S xs vs → Reps K S' xs vs
  | [], _, r => by simpa only [Reps] using r
  | x :: xs, _, r => by
    simp only [Reps] at r ⊢
    obtain ⟨v, t, e, q, w⟩ := r
    exact ⟨v, t, e, Rep.sub h x v q, Reps.sub h xs t w⟩
theorem RepK.sub {K : PySem.W.Frag} {S S' : Hp} (h : Sub S S') : ∀ (xs : List (Key × F)) (vs : List (Key × V)), RepK K S xs vs → RepK K S' xs vs
  | [], _, r => by simpa only [RepK] using r
  | (k, x) :: xs, _, r => by
    simp only [RepK] at r ⊢
    obtain ⟨v, t, e, q, w⟩ := r
    exact ⟨v, t, e, Rep.sub h x v q, RepK.sub h xs t w⟩
end
theorem Reps.nil {K : PySem.W.Frag} {S : Hp} : Reps K S [] [] := by simp only [Reps]
theorem Reps.cons {K : PySem.W.Frag} {S : Hp} {x : F} {xs : List F} {v : V} {vs : List V} (h : Rep K S x v) (k : Reps K S xs vs) : Reps K S (x :: xs) (v :: vs) := by
  simp only [Reps]; exact ⟨v, vs, rfl, h, k⟩
theorem Reps.length {K : PySem.W.Frag} {S : Hp} : ∀ {xs : List F} {vs : List V}, Reps K S xs vs → xs.length = vs.length
  | [], _, h => by simp only [Reps] at h; subst h; rfl
  | x :: xs, _, h => by
    simp only [Reps] at h
    obtain ⟨v, r, rfl, _, q⟩ := h
    simp [Reps.length q]
theorem Reps.get {K : PySem.W.Frag} {S : Hp} : ∀ {xs : List F} {vs : List V} {i : Nat} {x : F}, Reps K S xs vs → xs[i]? = some x → ∃ v, vs[i]? = some v ∧ Rep K S x v
  | [], _, _, _, _, e => by simp at e
  | x :: xs, _, 0, y, h, e => by
    simp only [Reps] at h
    obtain ⟨v, r, rfl, q, _⟩ := h
    simp at e; subst e
    exact ⟨v, rfl, q⟩
  | x :: xs, _, i + 1, y, h, e => by
    simp only [Reps] at h
    obtain ⟨v, r, rfl, _, q⟩ := h
    obtain ⟨u, h1, h2⟩ := Reps.get (i := i) q (by simpa using e)
    exact ⟨u, by simpa using h1, h2⟩
theorem Reps.get' {K : PySem.W.Frag} {S : Hp} : ∀ {xs : List F} {vs : List V} {i : Nat} {v : V}, Reps K S xs vs → vs[i]? = some v → ∃ x, xs[i]? = some x ∧ Rep K S x v
  | [], _, _, _, h, e => by simp only [Reps] at h; subst h; simp at e
  | x :: xs, _, 0, y, h, e => by
    simp only [Reps] at h
    obtain ⟨v, r, rfl, q, _⟩ := h
    simp at e; subst e
    exact ⟨x, rfl, q⟩
  | x :: xs, _, i + 1, y, h, e => by
    simp only [Reps] at h
    obtain ⟨v, r, rfl, _, q⟩ := h
    obtain ⟨u, h1, h2⟩ := Reps.get' (i := i) q (by simpa using e)
    exact ⟨u, by simpa using h1, h2⟩
theorem Reps.append {K : PySem.W.Frag} {S : Hp} : ∀ {xs ys : List F} {vs ws : List V}, Reps K S xs vs → Reps K S ys ws → Reps K S (xs ++ ys) (vs ++ ws)
  | [], _, _, _, h, k => by simp only [Reps] at h; subst h; exact k
  | x :: xs, _, _, _, h, k => by
    simp only [Reps] at h
    obtain ⟨v, r, rfl, q, t⟩ := h
    exact .cons q (Reps.append t k)
theorem Reps.one {K : PySem.W.Frag} {S : Hp} {x : F} {v : V} (h : Rep K S x v) : Reps K S [x] [v] := .cons h .nil
theorem Reps.drop {K : PySem.W.Frag} {S : Hp} : ∀ (n : Nat) {xs : List F} {vs : List V}, Reps K S xs vs → Reps K S (xs.drop n) (vs.drop n)
  | 0, _, _, h => h
  | n + 1, [], _, h => by simp only [Reps] at h; subst h; exact .nil
  | n + 1, x :: xs, _, h => by
    simp only [Reps] at h
    obtain ⟨v, r, rfl, _, t⟩ := h
    exact Reps.drop n t
theorem Reps.take {K : PySem.W.Frag} {S : Hp} : ∀ (n : Nat) {xs : List F} {vs : List V}, Reps K S xs vs → Reps K S (xs.take n) (vs.take n)
  | 0, _, _, _ => .nil
  | n + 1, [], _, h => by simp only [Reps] at h; subst h; exact .nil
  | n + 1, x :: xs, _, h => by
    simp only [Reps] at h
    obtain ⟨v, r, rfl, q, t⟩ := h
    exact .cons q (Reps.take n t)
theorem Reps.set {K : PySem.W.Frag} {S : Hp} {x : F} {v : V} (h : Rep K S x v) : ∀ (n : Nat) {xs : List F} {vs : List V}, Reps K S xs vs → Reps K S (xs.set n x) (vs.set n v)
  | _, [], _, k => by simp only [Reps] at k; subst k; exact .nil
  | 0, y :: ys, _, k => by
    simp only [Reps] at k
    obtain ⟨v, r, rfl, q, t⟩ := k
    exact .cons h t
  | n + 1, y :: ys, _, k => by
    simp only [Reps] at k
    obtain ⟨v, r, rfl, q, t⟩ := k
    exact .cons q (Reps.set h n t)
theorem RepK.nil {K : PySem.W.Frag} {S : Hp} : RepK K S [] [] := by simp only [RepK]
theorem RepK.cons {K : PySem.W.Frag} {S : Hp} {k : Key} {x : F} {xs : List (Key × F)} {v : V} {vs : List (Key × V)} (h : Rep K S x v) (t : RepK K S xs vs) : RepK K S ((k, x) :: xs) ((k, v) :: vs) := by
  simp only [RepK]; exact ⟨v, vs, rfl, h, t⟩
theorem RepK.keys {K : PySem.W.Frag} {S : Hp} : ∀ {xs : List (Key × F)} {vs : List (Key × V)}, RepK K S xs vs → xs.map (·.1) = vs.map (·.1)
  | [], _, h => by simp only [RepK] at h; subst h; rfl
  | (k, x) :: xs, _, h => by
    simp only [RepK] at h
    obtain ⟨v, r, rfl, _, q⟩ := h
    simp [RepK.keys q]
theorem RepK.length {K : PySem.W.Frag} {S : Hp} {xs : List (Key × F)} {vs : List (Key × V)} (h : RepK K S xs vs) : xs.length = vs.length := by
  have := congrArg List.length h.keys
  simpa using this

/-! ### dicts as lists of pairs -/
section
variable {α : Type}
def vK (kvs : List (Key × α)) (k : Key) : Option α := (kvs.find? fun kv => decide (kv.1 = k)).map (·.2)
def pK (kvs : List (Key × α)) (k : Key) (v : α) : List (Key × α) :=
  if (kvs.any fun kv => decide (kv.1 = k)) = true then kvs.map (fun kv => if kv.1 = k then (kv.1, v) else kv) else kvs ++ [(k, v)]
def dK (kvs : List (Key × α)) (k : Key) : List (Key × α) := kvs.filter fun kv => decide (kv.1 ≠ k)
def mK (acc : List (Key × α)) : List (Key × α) → List (Key × α)
  | [] => acc
  | (k, v) :: r => mK (pK acc k v) r
end
theorem RepK.val {K : PySem.W.Frag} {S : Hp} (k : Key) : ∀ {xs : List (Key × F)} {vs : List (Key × V)}, RepK K S xs vs → (∃ x v, vK xs k = some x ∧ valV vs k = some v ∧ Rep K S x v) ∨ (vK xs k = none ∧ valV vs k = none)
  | [], _, h => by simp only [RepK] at h; subst h; exact .inr ⟨rfl, rfl⟩
  | (l, x) :: xs, _, h => by
    simp only [RepK] at h
    obtain ⟨v, r, rfl, q, t⟩ := h
    by_cases e : l = k
    · exact .inl ⟨x, v, by simp [vK, e], by simp [valV, e], q⟩
    · rcases RepK.val k t with ⟨y, w, h1, h2, h3⟩ | ⟨h1, h2⟩
      · exact .inl ⟨y, w, by simpa [vK, e] using h1, by simpa [valV, e] using h2, h3⟩
      · exact .inr ⟨by simpa [vK, e] using h1, by simpa [valV, e] using h2⟩
theorem RepK.any {K : PySem.W.Frag} {S : Hp} (k : Key) : ∀ {xs : List (Key × F)} {vs : List (Key × V)}, RepK K S xs vs → (xs.any fun kv => decide (kv.1 = k)) = (vs.any fun kv => decide (kv.1 = k))
  | [], _, h => by simp only [RepK] at h; subst h; rfl
  | (l, x) :: xs, _, h => by
    simp only [RepK] at h
    obtain ⟨v, r, rfl, q, t⟩ := h
    simp [RepK.any k t]
theorem RepK.app {K : PySem.W.Frag} {S : Hp} : ∀ {xs ys : List (Key × F)} {vs ws : List (Key × V)}, RepK K S xs vs → RepK K S ys ws → RepK K S (xs ++ ys) (vs ++ ws)
  | [], _, _, _, h, k => by simp only [RepK] at h; subst h; exact k
  | (l, x) :: xs, _, _, _, h, k => by
    simp only [RepK] at h
    obtain ⟨v, r, rfl, q, t⟩ := h
    exact .cons q (RepK.app t k)
theorem RepK.repl {K : PySem.W.Frag} {S : Hp} {y : F} {w : V} (k : Key) (hy : Rep K S y w) : ∀ {xs : List (Key × F)} {vs : List (Key × V)}, RepK K S xs vs →
    RepK K S (xs.map fun kv => if kv.1 = k then (kv.1, y) else kv) (vs.map fun kv => if kv.1 = k then (kv.1, w) else kv)
  | [], _, h => by simp only [RepK] at h; subst h; exact .nil
  | (l, x) :: xs, _, h => by
    simp only [RepK] at h
    obtain ⟨v, r, rfl, q, t⟩ := h
    simp only [List.map_cons]
    by_cases e : l = k
    · simp only [e, if_true]; exact .cons hy (RepK.repl k hy t)
    · simp only [e, if_false]; exact .cons q (RepK.repl k hy t)
theorem RepK.put {K : PySem.W.Frag} {S : Hp} {y : F} {w : V} (k : Key) (hy : Rep K S y w) {xs : List (Key × F)} {vs : List (Key × V)} (h : RepK K S xs vs) : RepK K S (pK xs k y) (putK vs k w) := by
  unfold pK putK
  rw [h.any k]
  split
  · exact h.repl k hy
  · exact h.app (.cons hy .nil)
theorem RepK.drp {K : PySem.W.Frag} {S : Hp} (k : Key) : ∀ {xs : List (Key × F)} {vs : List (Key × V)}, RepK K S xs vs → RepK K S (dK xs k) (dropK vs k)
  | [], _, h => by simp only [RepK] at h; subst h; exact .nil
  | (l, x) :: xs, _, h => by
    simp only [RepK] at h
    obtain ⟨v, r, rfl, q, t⟩ := h
    have ih := RepK.drp k t
    unfold dK dropK at ih ⊢
    by_cases e : l = k
    · simpa [e] using ih
    · simpa [e] using RepK.cons (k := l) q ih
theorem RepK.merge {K : PySem.W.Frag} {S : Hp} : ∀ {ys : List (Key × F)} {ws : List (Key × V)} {xs : List (Key × F)} {vs : List (Key × V)}, RepK K S xs vs → RepK K S ys ws → RepK K S (mK xs ys) (mergeK vs ws)
  | [], _, _, _, h, k => by simp only [RepK] at k; subst k; simpa [mK, mergeK] using h
  | (l, y) :: ys, _, _, _, h, k => by
    simp only [RepK] at k
    obtain ⟨v, r, rfl, q, t⟩ := k
    have := RepK.merge (h.put l q) t
    simpa [mK, mergeK] using this

/-- what shows of data at once -/
def top : F → Option V
  | .non => some .non
  | .bl b => some (.bl b)
  | .int i => some (.int i)
  | .str x => some (.str x)
  | _ => none
def topV : V → Option V
  | .ref _ => none
  | v => some v
def topK (kvs : List (Key × F)) : List (Key × Option V) := kvs.map fun p => (p.1, top p.2)
theorem Rep.top {K : PySem.W.Frag} {S : Hp} {x : F} {v : V} (h : Rep K S x v) : top x = topV v := by
  cases x <;> simp only [Rep] at h <;> first | (subst h; rfl) | (obtain ⟨a, vs, rfl, _⟩ := h; rfl) | (obtain ⟨a, rfl, _⟩ := h; rfl)
theorem RepK.top {K : PySem.W.Frag} {S : Hp} : ∀ {xs : List (Key × F)} {vs : List (Key × V)}, RepK K S xs vs → topK xs = vs.map fun p => (p.1, topV p.2)
  | [], _, h => by simp only [RepK] at h; subst h; rfl
  | (l, x) :: xs, _, h => by
    simp only [RepK] at h
    obtain ⟨v, r, rfl, q, t⟩ := h
    have := RepK.top t
    simp only [topK, List.map_cons] at this ⊢
    rw [this, q.top]

/-! ### what is to be read now: the top by the heap, the rest stable -/
def Sees (H : Hp) (a : Addr) : HO → Prop
  | .lst xs => H a = some (.lst xs)
  | .frz o u => H a = some (.frz o u)
  | .tup xs => H a = some (.tup xs)
  | .dK kvs => Rd H a (.dK kvs)
  | _ => False
def RepP (K : PySem.W.Frag) (S H : Hp) : F → V → Prop
  | .non, v => v = .non
  | .bl b, v => v = .bl b
  | .int i, v => v = .int i
  | .str x, v => v = .str x
  | .scr ns, v => ∃ a, v = .ref a ∧ SqL K H a (ns.map V.int)
  | .lst xs, v => ∃ a vs, v = .ref a ∧ H a = some (.lst vs) ∧ Reps K S xs vs
  | .tup xs, v => ∃ a vs, v = .ref a ∧ H a = some (.tup vs) ∧ Reps K S xs vs
  | .dct kvs, v => ∃ a vs, v = .ref a ∧ Rd H a (.dK vs) ∧ RepK K S kvs vs
def Lk (S H : Hp) : Prop := ∀ a u, S a = some u → Sees H a u
theorem Lk.sq {K : PySem.W.Frag} {S H : Hp} {a : Addr} {vs : List V} (l : Lk S H) (q : SqL K S a vs) : SqL K H a vs := by
  rcases q with (q | ⟨o, q⟩) | q
  · exact .inl (.inl (l _ _ q))
  · exact .inl (.inr ⟨o, l _ _ q⟩)
  · exact .inr q
theorem Lk.some {S H : Hp} {a : Addr} {u : HO} (l : Lk S H) (q : S a = some u) : H a ≠ none := by
  have z := l _ _ q
  cases u <;> first | exact z.elim | (rcases z with z | ⟨o, z⟩ <;> (rw [z]; simp)) | (have z : H a = Option.some _ := z; rw [z]; simp)
theorem Lk.none {S H : Hp} {a : Addr} (l : Lk S H) (q : H a = none) : S a = none := by
  cases e : S a with
  | none => rfl
  | some u => exact absurd q (l.some e)
theorem Rep.p {K : PySem.W.Frag} {S H : Hp} (l : Lk S H) : ∀ {x : F} {v : V}, Rep K S x v → RepP K S H x v
  | .non, _, h => by simp only [Rep] at h; exact h
  | .bl _, _, h => by simp only [Rep] at h; exact h
  | .int _, _, h => by simp only [Rep] at h; exact h
  | .str _, _, h => by simp only [Rep] at h; exact h
  | .lst xs, _, h => by simp only [Rep] at h; obtain ⟨a, vs, e, q, t⟩ := h; exact ⟨a, vs, e, l _ _ q, t⟩
  | .scr ns, _, h => by simp only [Rep] at h; obtain ⟨a, e, q⟩ := h; exact ⟨a, e, l.sq q⟩
  | .tup xs, _, h => by simp only [Rep] at h; obtain ⟨a, vs, e, q, t⟩ := h; exact ⟨a, vs, e, l _ _ q, t⟩
  | .dct xs, _, h => by simp only [Rep] at h; obtain ⟨a, vs, e, q, t⟩ := h; exact ⟨a, vs, e, l _ _ q, t⟩

/-! ### states -/
structure Gh where
  S : Hp
  ro : Nat → Addr
  rc : Nat → Addr
  La : List (Addr × Obj × HO)
/-- what is fixed through a def's run: the classes, what is wished of errors, the entry -/
structure Gc where
  C : Addr
  cls : Str → Addr
  W : WX
  H0 : Hp
  S0 : Hp
  rc0 : Nat → Addr
  n0 : Nat
  xs : Option (Nat × Addr)
def Gc.F (G : Gc) (a : Addr) (u : HO) : Prop := G.H0 a = some u ∧ G.S0 a = none ∧ ∀ k, k < G.n0 → G.rc0 k ≠ a

def Gc.fr (G : Gc) (i : Nat) : Prop := ∀ j a, G.xs = some (j, a) → j ≠ i
theorem Gc.fr_of {G : Gc} {i : Nat} (h : G.xs = none) : G.fr i := fun j a e => by rw [h] at e; cases e
def RepW (K : PySem.W.Frag) (g : Gh) (n : Nat) : W → V → Prop
  | .f x, v => Rep K g.S x v
  | .c k, v => k < n ∧ v = .ref (g.rc k)
  | .o i, v => v = .ref (g.ro i)
  | .x _, _ => False
  | .u, v => ∃ a, v = .ref a
def CelAt (K : PySem.W.Frag) (C : Addr) (g : Gh) (n : Nat) (H : Hp) (a : Addr) : Ct → Prop
  | .lst xs => ∃ vs, Reps K g.S xs vs ∧ H a = some (.lst vs)
  | .dct kvs => ∃ vs, RepK K g.S kvs vs ∧ (H a = some (.dK vs) ∨ ∃ od, (a, od, HO.dK vs) ∈ g.La)
  | .ins fs => (∀ p ∈ fs, p.2 < n) ∧ ∃ dx, H a = some (.ins C dx (fs.map fun p => (p.1, V.ref (g.rc p.2))))
  | .cls ks => (∀ p ∈ ks, p < n) ∧ H a = some (.lst (ks.map fun k => V.ref (g.rc k)))
def LkW (K : PySem.W.Frag) (g : Gh) (n : Nat) (w : W) (x : Addr × Obj × HO) : Prop := match w with
  | .f (.dct kvs) => g.S x.1 = some x.2.2 ∧ ∃ vs, x.2.2 = .dK vs ∧ RepK K g.S kvs vs
  | .c k => k < n ∧ g.rc k = x.1
  | _ => False
theorem paired_mem {α β : Type} {P : α → β → Prop} : ∀ {l : List α} {r : List β}, Paired P l r → ∀ y ∈ r, ∃ x ∈ l, P x y
  | _, _, .nil, _, h => by cases h
  | _, _, .cons p t, y, h => by
    rcases List.mem_cons.mp h with rfl | h
    · exact ⟨_, List.mem_cons_self, p⟩
    · obtain ⟨x, hx, q⟩ := paired_mem t y h
      exact ⟨x, List.mem_cons_of_mem _ hx, q⟩
theorem paired_imp {α β : Type} {P Q : α → β → Prop} : ∀ {l : List α} {r : List β}, Paired P l r → (∀ x y, P x y → Q x y) → Paired Q l r
  | _, _, .nil, _ => .nil
  | _, _, .cons p t, h => .cons (h _ _ p) (paired_imp t h)
structure RlH (K : PySem.W.Frag) (C : Addr) (g : Gh) (s : Sto) (H : Hp) : Prop where
  see : Lk g.S H
  exa : ∀ a kvs, g.S a = some (.dK kvs) → (∀ x ∈ g.La, x.1 ≠ a) → H a = some (.dK kvs)
  cel : ∀ (k : Nat) (c : Ct), s.O[k]? = some c → g.S (g.rc k) = none ∧ CelAt K C g s.O.length H (g.rc k) c
  cin : ∀ j k, j < s.O.length → k < s.O.length → g.rc j = g.rc k → j = k
  lck : ∀ x ∈ g.La, H x.1 = some (.frz x.2.1 x.2.2)
  lkw : Paired (LkW K g s.O.length) s.lk g.La
  lnd : (g.La.map (·.1)).Nodup
structure Rl (K : PySem.W.Frag) (G : Gc) (g : Gh) (sl : List Sl) (s : Sto) (σ : St) (H : Hp) : Prop extends RlH K G.C g s H where
  len : sl.length = σ.length
  sok : ∀ (i : Nat) (w : W), sl[i]? = some (Sl.v w) → slotOk w = true
  exs : ∀ (i : Nat) (a : Addr), G.xs = some (i, a) → σ[i]? = some (some (.ref a))
  val : ∀ (i : Nat) (w : W), sl[i]? = some (Sl.v w) → ∃ v, σ[i]? = some (some v) ∧ RepW K g s.O.length w v
  own : ∀ (i : Nat) (c : Ct), sl[i]? = some (Sl.own c) → g.S (g.ro i) = none ∧ (∀ k, k < s.O.length → g.rc k ≠ g.ro i) ∧ σ[i]? = some (some (.ref (g.ro i))) ∧ CelAt K G.C g s.O.length H (g.ro i) c
  oni : ∀ (i : Nat) (fs : List (Str × Nat)), sl[i]? ≠ some (Sl.own (.ins fs))
  oin : ∀ (i j : Nat) (c d : Ct), sl[i]? = some (Sl.own c) → sl[j]? = some (Sl.own d) → g.ro i = g.ro j → i = j
  frm : ∀ a u, G.F a u → H a = some u ∧ g.S a = none ∧ (∀ k, k < s.O.length → g.rc k ≠ a) ∧ ∀ (i : Nat) (c : Ct), sl[i]? = some (Sl.own c) → g.ro i ≠ a
  newS : ∀ a u, g.S a = some u → G.S0 a = some u ∨ G.H0 a = none
  newC : ∀ k, G.n0 ≤ k → k < s.O.length → G.H0 (g.rc k) = none
  oldC : ∀ k, k < G.n0 → g.rc k = G.rc0 k
  n0le : G.n0 ≤ s.O.length
  newO : ∀ (i : Nat) (c : Ct), sl[i]? = some (Sl.own c) → G.H0 (g.ro i) = none
  dom : ∀ a, G.H0 a ≠ none → H a ≠ none
  subS : Sub G.S0 g.S

/-- g' grew out of g, where n cells were -/
structure Le (g g' : Gh) (n : Nat) : Prop where
  sub : Sub g.S g'.S
  rc : ∀ k, k < n → g'.rc k = g.rc k
  la : g'.La = g.La
theorem Le.rfl {g : Gh} {n : Nat} : Le g g n := ⟨Sub.rfl, fun _ _ => by rfl, by rfl⟩
theorem Le.trans {g g1 g2 : Gh} {n m : Nat} (a : Le g g1 n) (b : Le g1 g2 m) (h : n ≤ m) : Le g g2 n :=
  ⟨a.sub.trans b.sub, fun k hk => (b.rc k (Nat.lt_of_lt_of_le hk h)).trans (a.rc k hk), b.la.trans a.la⟩
/-- .. own slots' places too -/
structure LeO (g g' : Gh) (n : Nat) : Prop extends Le g g' n where
  ro : ∀ i, g'.ro i = g.ro i
theorem LeO.rfl {g : Gh} {n : Nat} : LeO g g n := ⟨Le.rfl, fun _ => by rfl⟩
theorem LeO.trans {g g1 g2 : Gh} {n m : Nat} (a : LeO g g1 n) (b : LeO g1 g2 m) (h : n ≤ m) : LeO g g2 n :=
  ⟨a.toLe.trans b.toLe h, fun i => (b.ro i).trans (a.ro i)⟩
theorem RepW.le {K : PySem.W.Frag} {g g' : Gh} {n m : Nat} (l : LeO g g' n) (h : n ≤ m) : ∀ {w : W} {v : V}, RepW K g n w v → RepW K g' m w v
  | .f x, v, r => Rep.sub l.sub x v r
  | .c k, v, r => by
    obtain ⟨h1, h2⟩ := r
    exact ⟨Nat.lt_of_lt_of_le h1 h, by rw [l.rc k h1]; exact h2⟩
  | .o i, v, r => by
    have e : v = .ref (g.ro i) := r
    show v = .ref (g'.ro i)
    rw [l.ro i]; exact e
  | .x _, _, r => r
  | .u, _, r => r

/-- an expression's answer -/
def FrAt (K : PySem.W.Frag) (G : Gc) (g : Gh) (sl : List Sl) (s : Sto) (H : Hp) (p : Addr) (c : Ct) : Prop :=
  g.S p = none ∧ (∀ k, k < s.O.length → g.rc k ≠ p) ∧ (∀ (i : Nat) (d : Ct), sl[i]? = some (Sl.own d) → g.ro i ≠ p) ∧ G.H0 p = none ∧ (∀ x ∈ g.La, x.1 ≠ p) ∧ CelAt K G.C g s.O.length H p c ∧ ∀ fs, c ≠ .ins fs
def RepY (K : PySem.W.Frag) (G : Gc) (g : Gh) (sl : List Sl) (s : Sto) (H : Hp) : Y → V → Prop
  | .w x, v => RepW K g s.O.length x v
  | .fr c, v => ∃ p, v = .ref p ∧ FrAt K G g sl s H p c
end Fm

/-! FC: the relation's moves; expressions. -/
namespace Fm
open PySem L2

section
variable {K : PySem.W.Frag} {G : Gc} {g g' : Gh} {sl : List Sl} {s s' : Sto} {σ : St} {H H' : Hp} {n m : Nat} {C a p : Addr} {c : Ct}
theorem CelAt.le (l : Le g g' n) (h : n ≤ m) (x : CelAt K C g n H a c) : CelAt K C g' m H a c := by
  cases c with
  | lst xs => obtain ⟨vs, r, e⟩ := x; exact ⟨vs, Reps.sub l.sub _ _ r, e⟩
  | dct kvs => obtain ⟨vs, r, e⟩ := x; exact ⟨vs, RepK.sub l.sub _ _ r, by rw [l.la]; exact e⟩
  | ins fs =>
    obtain ⟨h1, dx, e⟩ := x
    refine ⟨fun q hq => Nat.lt_of_lt_of_le (h1 q hq) h, dx, ?_⟩
    rw [e]
    have : fs.map (fun p => (p.1, V.ref (g.rc p.2))) = fs.map (fun p => (p.1, V.ref (g'.rc p.2))) := List.map_congr_left fun q hq => by rw [l.rc _ (h1 q hq)]
    rw [this]
  | cls ks =>
    obtain ⟨h1, e⟩ := x
    refine ⟨fun q hq => Nat.lt_of_lt_of_le (h1 q hq) h, ?_⟩
    rw [e]
    have : ks.map (fun p => V.ref (g.rc p)) = ks.map (fun p => V.ref (g'.rc p)) := List.map_congr_left fun q hq => by rw [l.rc _ (h1 q hq)]
    rw [this]
theorem CelAt.heap (k : ∀ u, H a = some u → H' a = some u) (x : CelAt K C g n H a c) : CelAt K C g n H' a c := by
  cases c with
  | lst xs => obtain ⟨vs, r, e⟩ := x; exact ⟨vs, r, k _ e⟩
  | dct kvs => obtain ⟨vs, r, e⟩ := x; exact ⟨vs, r, e.imp (k _) id⟩
  | ins fs => obtain ⟨h1, dx, e⟩ := x; exact ⟨h1, dx, k _ e⟩
  | cls ks => obtain ⟨h1, e⟩ := x; exact ⟨h1, k _ e⟩
theorem CelAt.some (l : ∀ x ∈ g.La, H x.1 = some (.frz x.2.1 x.2.2)) (x : CelAt K C g n H a c) : H a ≠ none := by
  cases c with
  | lst xs => obtain ⟨vs, r, e⟩ := x; rw [e]; simp
  | dct kvs =>
    obtain ⟨vs, r, e | ⟨od, e⟩⟩ := x
    · rw [e]; simp
    · have q := l _ e
      rw [q]; simp
  | ins fs => obtain ⟨h1, dx, e⟩ := x; rw [e]; simp
  | cls ks => obtain ⟨h1, e⟩ := x; rw [e]; simp

theorem CelAt.ptrs (x : CelAt K C g n H a c) : ∀ p ∈ c.ptrs, p < n := by
  cases c with
  | lst xs => exact fun p hp => by cases hp
  | dct kvs => exact fun p hp => by cases hp
  | ins fs =>
    intro p hp
    obtain ⟨q, hq, rfl⟩ := List.mem_map.mp hp
    exact x.1 q hq
  | cls ks => exact x.1
theorem Rl.S_none (R : Rl K G g sl s σ H) (hp : H p = none) : g.S p = none := R.see.none hp
theorem Rl.H0_none (R : Rl K G g sl s σ H) (hp : H p = none) : G.H0 p = none := by
  cases e : G.H0 p with
  | none => rfl
  | some u => exact absurd hp (R.dom p (by rw [e]; simp))
theorem Rl.rc_ne (R : Rl K G g sl s σ H) (hp : H p = none) : ∀ k, k < s.O.length → g.rc k ≠ p := fun k hk e => by
  obtain ⟨c, hc⟩ : ∃ c, s.O[k]? = some c := ⟨_, List.getElem?_eq_getElem hk⟩
  exact (R.cel k c hc).2.some R.lck (by rw [e]; exact hp)
theorem Rl.ro_ne (R : Rl K G g sl s σ H) (hp : H p = none) : ∀ (i : Nat) (d : Ct), sl[i]? = some (Sl.own d) → g.ro i ≠ p := fun i d hd e =>
  (R.own i d hd).2.2.2.some R.lck (by rw [e]; exact hp)
theorem Rl.la_ne (R : Rl K G g sl s σ H) (hp : H p = none) : ∀ x ∈ g.La, x.1 ≠ p := fun x hx e => by
  have := R.lck x hx
  rw [e, hp] at this; cases this
/-- the new object is told to nobody -/
theorem RlH.new {o : HO} (R : RlH K C g s H) (hp : H p = none) : RlH K C g s (upd H p o) := by
  have keep : ∀ a u, H a = some u → upd H p o a = some u := fun a u e => by rw [upd_ne (ne_of_none e hp)]; exact e
  refine ⟨fun a u e => ?_, fun a kvs e hl => keep _ _ (R.exa a kvs e hl), fun k c e => ⟨(R.cel k c e).1, (R.cel k c e).2.heap (keep _)⟩, R.cin, fun x hx => keep _ _ (R.lck x hx), R.lkw, R.lnd⟩
  have z := R.see a u e
  cases u <;> first | exact z.elim | (rcases z with z | ⟨o', z⟩; exact .inl (keep _ _ z); exact .inr ⟨o', keep _ _ z⟩) | exact keep _ _ z
theorem Rl.new {o : HO} (R : Rl K G g sl s σ H) (hp : H p = none) : Rl K G g sl s σ (upd H p o) := by
  have keep : ∀ a u, H a = some u → upd H p o a = some u := fun a u e => by rw [upd_ne (ne_of_none e hp)]; exact e
  refine { toRlH := R.toRlH.new hp, len := R.len, sok := R.sok, exs := R.exs, val := R.val, own := fun i c e => ?_, oni := R.oni, oin := R.oin, frm := fun a u f => ?_, newS := R.newS, newC := R.newC, oldC := R.oldC, n0le := R.n0le, newO := R.newO, dom := fun a h => ?_, subS := R.subS }
  · obtain ⟨h1, h2, h3, h4⟩ := R.own i c e
    exact ⟨h1, h2, h3, h4.heap (keep _)⟩
  · obtain ⟨h1, h2⟩ := R.frm a u f
    exact ⟨keep _ _ h1, h2⟩
  · cases e : H a with
    | none => exact absurd e (R.dom a h)
    | some u => rw [keep _ _ e]; simp
theorem Rl.frAt {o : HO} (R : Rl K G g sl s σ H) (hp : H p = none) (hc : CelAt K G.C g s.O.length (upd H p o) p c) (hi : ∀ fs, c ≠ .ins fs) : FrAt K G g sl s (upd H p o) p c :=
  ⟨R.S_none hp, R.rc_ne hp, R.ro_ne hp, R.H0_none hp, R.la_ne hp, hc, hi⟩

/-- an object is data from now on -/
theorem Rl.stable {u : HO} (R : Rl K G g sl s σ H) (h1 : g.S p = none) (h2 : ∀ k, k < s.O.length → g.rc k ≠ p) (h3 : ∀ (i : Nat) (d : Ct), sl[i]? = some (Sl.own d) → g.ro i ≠ p) (h4 : G.H0 p = none) (hu : H p = some u)
    (hs : Sees H p u) : Rl K G { g with S := upd g.S p u } sl s σ H := by
  have sub : Sub g.S (upd g.S p u) := Sub.upd h1
  have le : LeO g { g with S := upd g.S p u } s.O.length := ⟨⟨sub, fun _ _ => rfl, rfl⟩, fun _ => rfl⟩
  refine { see := fun a w e => ?_, exa := fun a kvs e hl => ?_, cel := fun k c e => ?_, cin := R.cin, lck := R.lck, lkw := paired_imp R.lkw fun w x q => ?_, lnd := R.lnd, len := R.len, sok := R.sok, exs := R.exs, val := fun i w e => ?_, own := fun i c e => ?_, oni := R.oni, oin := R.oin, frm := fun a w f => ?_, newS := fun a w e => ?_, newC := R.newC, oldC := R.oldC, n0le := R.n0le, newO := R.newO, dom := R.dom, subS := R.subS.trans sub }
  · by_cases q : a = p
    · subst q
      have e : upd g.S a u a = some w := e
      rw [upd_same] at e; cases e; exact hs
    · have e : upd g.S p u a = some w := e
      rw [upd_ne q] at e; exact R.see a w e
  · by_cases q : a = p
    · subst q
      have e : upd g.S a u a = some (.dK kvs) := e
      rw [upd_same] at e; cases e; exact hu
    · have e : upd g.S p u a = some (.dK kvs) := e
      rw [upd_ne q] at e; exact R.exa a kvs e hl
  · obtain ⟨q1, q2⟩ := R.cel k c e
    refine ⟨?_, q2.le le.toLe (Nat.le_refl _)⟩
    show upd g.S p u (g.rc k) = none
    rw [upd_ne (h2 k (List.getElem?_eq_some_iff.mp e).1)]; exact q1
  · cases w with
    | f y =>
      cases y with
      | dct kvs => obtain ⟨q1, vs, q2, q3⟩ := q; exact ⟨sub _ _ q1, vs, q2, RepK.sub sub _ _ q3⟩
      | _ => exact q
    | _ => exact q
  · obtain ⟨v, q1, q2⟩ := R.val i w e
    exact ⟨v, q1, q2.le le (Nat.le_refl _)⟩
  · obtain ⟨q1, q2, q3, q4⟩ := R.own i c e
    refine ⟨?_, q2, q3, q4.le le.toLe (Nat.le_refl _)⟩
    show upd g.S p u (g.ro i) = none
    rw [upd_ne (h3 i c e)]; exact q1
  · obtain ⟨q1, q2, q3, q4⟩ := R.frm a w f
    refine ⟨q1, ?_, q3, q4⟩
    show upd g.S p u a = none
    rw [upd_ne (fun z => by subst z; have z := f.1; rw [h4] at z; cases z)]; exact q2
  · by_cases q : a = p
    · subst q; exact .inr h4
    · have e : upd g.S p u a = some w := e
      rw [upd_ne q] at e; exact R.newS a w e
/-- an answer frozen -/
theorem Rl.freeze {y : Y} {v : V} (R : Rl K G g sl s σ H) (h : RepY K G g sl s H y v) : ∃ g', LeO g g' s.O.length ∧ Rl K G g' sl s σ H ∧ RepW K g' s.O.length (frz y) v := by
  cases y with
  | w x => exact ⟨g, .rfl, R, h⟩
  | fr c =>
    obtain ⟨p, rfl, h1, h2, h3, h4, h5, h6, h7⟩ := h
    cases c with
    | lst xs =>
      obtain ⟨vs, r, e⟩ := h6
      have sub : Sub g.S (upd g.S p (.lst vs)) := Sub.upd h1
      refine ⟨{ g with S := upd g.S p (.lst vs) }, ⟨⟨sub, fun _ _ => rfl, rfl⟩, fun _ => rfl⟩, R.stable h1 h2 h3 h4 e e, ?_⟩
      show Rep K (upd g.S p (.lst vs)) (.lst xs) (.ref p)
      simp only [Rep]
      exact ⟨p, vs, rfl, upd_same, Reps.sub sub _ _ r⟩
    | dct kvs =>
      obtain ⟨vs, r, e | ⟨od, e⟩⟩ := h6
      · have sub : Sub g.S (upd g.S p (.dK vs)) := Sub.upd h1
        refine ⟨{ g with S := upd g.S p (.dK vs) }, ⟨⟨sub, fun _ _ => rfl, rfl⟩, fun _ => rfl⟩, R.stable h1 h2 h3 h4 e (.inl e), ?_⟩
        show Rep K (upd g.S p (.dK vs)) (.dct kvs) (.ref p)
        simp only [Rep]
        exact ⟨p, vs, rfl, upd_same, RepK.sub sub _ _ r⟩
      · exact absurd rfl (h5 _ e)
    | ins fs => exact absurd rfl (h7 fs)
    | cls ks => exact ⟨g, .rfl, R, p, rfl⟩

/-- what may be read of a value -/
theorem Rl.peek {w : W} {v : V} {x : F} (R : Rl K G g sl s σ H) (h : RepW K g s.O.length w v) (e : pk sl s w = some x) : RepP K g.S H x v := by
  cases w with
  | f y =>
    have e' : y = x := by simpa using e
    subst e'
    exact Rep.p R.see h
  | c k =>
    obtain ⟨hk, rfl⟩ := h
    simp only [pk] at e
    split at e
    · rename_i xs hx
      cases e
      obtain ⟨vs, r, q⟩ := (R.cel k _ hx).2
      exact ⟨_, vs, rfl, q, r⟩
    · rename_i xs hx
      cases e
      obtain ⟨vs, r, q | ⟨od, q⟩⟩ := (R.cel k _ hx).2
      · exact ⟨_, vs, rfl, .inl q, r⟩
      · exact ⟨_, vs, rfl, .inr ⟨od, R.lck _ q⟩, r⟩
    · cases e
  | o i =>
    have h : v = .ref (g.ro i) := h
    subst h
    simp only [pk] at e
    split at e
    · rename_i xs hx
      cases e
      obtain ⟨_, _, _, vs, r, q⟩ := R.own i _ hx
      exact ⟨_, vs, rfl, q, r⟩
    · rename_i xs hx
      cases e
      obtain ⟨_, _, _, vs, r, q | ⟨od, q⟩⟩ := R.own i _ hx
      · exact ⟨_, vs, rfl, .inl q, r⟩
      · exact ⟨_, vs, rfl, .inr ⟨od, R.lck _ q⟩, r⟩
    · cases e
  | x _ => cases e
  | u => cases e
end

/-! ### the readings -/
/-- what the interpreter's answer lets follow -/
def OkE (K : PySem.W.Frag) (G : Gc) (g : Gh) (sl : List Sl) (s : Sto) (σ : St) (Q : VK) : R Y → Prop
  | .ok y s' => ∀ v g' H', LeO g g' s.O.length → s.O.length ≤ s'.O.length → Rl K G g' sl s' σ H' → RepY K G g' sl s' H' y v → Q v H'
  | .exc c s' => ∀ g' H', LeO g g' s.O.length → s.O.length ≤ s'.O.length → Rl K G g' sl s' σ H' → G.W (.ref (G.cls c)) none σ H'
  | .bad => False
def tD (K : PySem.W.Frag) (G : Gc) (m : M) : TE := fun σ H Q => ∃ g sl s, Rl K G g sl s σ H ∧ OkE K G g sl s σ Q (m sl s)
def OkA (K : PySem.W.Frag) (G : Gc) (g : Gh) (sl : List Sl) (s : Sto) (σ : St) (Q : List V → Hp → Prop) : R (List W) → Prop
  | .ok ws s' => ∀ vs g' H', LeO g g' s.O.length → s.O.length ≤ s'.O.length → Rl K G g' sl s' σ H' → Paired (RepW K g' s'.O.length) ws vs → Q vs H'
  | .exc c s' => ∀ g' H', LeO g g' s.O.length → s.O.length ≤ s'.O.length → Rl K G g' sl s' σ H' → G.W (.ref (G.cls c)) none σ H'
  | .bad => False
def tDA (K : PySem.W.Frag) (G : Gc) (m : MA) : TA := fun σ H Q => ∃ g sl s, Rl K G g sl s σ H ∧ OkA K G g sl s σ Q (m sl s)
def OkT (K : PySem.W.Frag) (G : Gc) (g : Gh) (sl : List Sl) (s : Sto) (σ : St) (Q : Bool → Hp → Prop) : R Y → Prop
  | .ok (.w (.f (.bl b))) s' => ∀ g' H', LeO g g' s.O.length → s.O.length ≤ s'.O.length → Rl K G g' sl s' σ H' → Q b H'
  | .exc c s' => ∀ g' H', LeO g g' s.O.length → s.O.length ≤ s'.O.length → Rl K G g' sl s' σ H' → G.W (.ref (G.cls c)) none σ H'
  | _ => False
def tDT (K : PySem.W.Frag) (G : Gc) (m : M) : TT := fun σ H Q => ∃ g sl s, Rl K G g sl s σ H ∧ OkT K G g sl s σ Q (m sl s)
abbrev DE (X : Cx) (G : Gc) (e : Expr) (m : M) : Prop := PE X e (tD X.K G m)
abbrev DA (X : Cx) (G : Gc) (es : List Expr) (m : MA) : Prop := PA X es (tDA X.K G m)
abbrev DT (X : Cx) (G : Gc) (e : Expr) (m : M) : Prop := PT X e (tDT X.K G m)
theorem _root_.L2.PE.wk {X : Cx} {e : Expr} {t t' : TE} (h : PE X e t) (k : ∀ σ H Q, t' σ H Q → t σ H Q) : PE X e t' := ⟨fun pins s σ H Q I q => h.run pins s σ H Q I (k σ H Q q)⟩
theorem _root_.L2.PA.wk {X : Cx} {e : List Expr} {t t' : TA} (h : PA X e t) (k : ∀ σ H Q, t' σ H Q → t σ H Q) : PA X e t' := ⟨fun pos pins s σ H Q I q => h.run pos pins s σ H Q I (k σ H Q q)⟩
theorem _root_.L2.PT.wk {X : Cx} {e : Expr} {t t' : TT} (h : PT X e t) (k : ∀ σ H Q, t' σ H Q → t σ H Q) : PT X e t' := ⟨fun pins s σ H Q I q => h.run pins s σ H Q I (k σ H Q q)⟩
theorem _root_.L2.PW.wk {X : Cx} {e : Expr} {t t' : TT} (h : PW X e t) (k : ∀ σ H Q, t' σ H Q → t σ H Q) : PW X e t' := ⟨fun wh pins s σ H Q I q => h.run wh pins s σ H Q I (k σ H Q q)⟩

section
variable {K : PySem.W.Frag} {G : Gc} {g g1 : Gh} {sl : List Sl} {s s1 : Sto} {σ : St} {H : Hp} {Q : VK}
/-- the answer was reached from an earlier state -/
theorem OkE.back {r : R Y} (h : OkE K G g sl s σ Q r) (l : LeO g g1 s.O.length) (hn : s.O.length ≤ s1.O.length) : OkE K G g1 sl s1 σ Q r := by
  cases r with
  | ok y s' => exact fun v g' H' a b c d => h v g' H' (l.trans a hn) (Nat.le_trans hn b) c d
  | exc c s' => exact fun g' H' a b c => h g' H' (l.trans a hn) (Nat.le_trans hn b) c
  | bad => exact h
theorem OkA.back {Q : List V → Hp → Prop} {r : R (List W)} (h : OkA K G g sl s σ Q r) (l : LeO g g1 s.O.length) (hn : s.O.length ≤ s1.O.length) : OkA K G g1 sl s1 σ Q r := by
  cases r with
  | ok y s' => exact fun v g' H' a b c d => h v g' H' (l.trans a hn) (Nat.le_trans hn b) c d
  | exc c s' => exact fun g' H' a b c => h g' H' (l.trans a hn) (Nat.le_trans hn b) c
  | bad => exact h
theorem OkT.back {Q : Bool → Hp → Prop} {r : R Y} (h : OkT K G g sl s σ Q r) (l : LeO g g1 s.O.length) (hn : s.O.length ≤ s1.O.length) : OkT K G g1 sl s1 σ Q r := by
  cases r with
  | ok y s' =>
    unfold OkT at h ⊢
    split at h
    · rename_i e; cases e; exact fun g' H' a b c => h g' H' (l.trans a hn) (Nat.le_trans hn b) c
    · rename_i e; cases e
    · exact h.elim
  | exc c s' => exact fun g' H' a b c => h g' H' (l.trans a hn) (Nat.le_trans hn b) c
  | bad => exact h
/-- THE STEP of an expression: its first part, then the rest -/
theorem tD.first {m : M} {k : W → M} (R : Rl K G g sl s σ H) (h : OkE K G g sl s σ Q (mW m k sl s)) {P : V → Hp → Prop}
    (hk : ∀ v w g' s' H', LeO g g' s.O.length → s.O.length ≤ s'.O.length → Rl K G g' sl s' σ H' → RepW K g' s'.O.length w v → OkE K G g' sl s' σ Q (k w sl s') → P v H') : tD K G m σ H P := by
  refine ⟨g, sl, s, R, ?_⟩
  simp only [mW] at h
  cases e : m sl s with
  | bad => rw [e] at h; exact h
  | exc c s' => rw [e] at h; exact h
  | ok y s' =>
    rw [e] at h
    intro v g' H' l hn R' r
    obtain ⟨g2, l2, R2, r2⟩ := R'.freeze r
    exact hk v (frz y) g2 s' H' (l.trans l2 hn) hn R2 r2 (OkE.back h (l.trans l2 hn) hn)
end

/-! ### operations by values -/
def Post (K : PySem.W.Frag) (S H : Hp) (Q : VK) : Op → Prop
  | .val x => ∀ v, Rep K S x v → Q v H
  | .new (.lst xs) => ∀ p vs, H p = none → Reps K S xs vs → Q (.ref p) (upd H p (.lst vs))
  | .new (.dct kvs) => ∀ p vs, H p = none → RepK K S kvs vs → Q (.ref p) (upd H p (.dK vs))
  | .new (.ins _) => False
  | .new (.cls _) => False
  | .ntup xs => ∀ p vs, H p = none → Reps K S xs vs → Q (.ref p) (upd H p (.tup vs))
  | .bad => False
theorem post_of {K : PySem.W.Frag} {G : Gc} {g : Gh} {sl : List Sl} {s : Sto} {σ : St} {H : Hp} {Q : VK} {op : Op} (R : Rl K G g sl s σ H) (h : OkE K G g sl s σ Q (op.res s)) : Post K g.S H Q op := by
  cases op with
  | val x => exact fun v r => h v g H .rfl (Nat.le_refl _) R r
  | bad => exact h
  | ntup xs =>
    intro p vs hp r
    have hs := R.S_none hp
    have sub : Sub g.S (upd g.S p (.tup vs)) := Sub.upd hs
    have e : upd H p (.tup vs) p = some (.tup vs) := upd_same
    refine h (.ref p) { g with S := upd g.S p (.tup vs) } _ ⟨⟨sub, fun _ _ => rfl, rfl⟩, fun _ => rfl⟩ (Nat.le_refl _) ((R.new hp).stable hs (R.rc_ne hp) (R.ro_ne hp) (R.H0_none hp) e e) ?_
    show Rep K (upd g.S p (.tup vs)) (.tup xs) (.ref p)
    simp only [Rep]
    exact ⟨p, vs, rfl, upd_same, Reps.sub sub _ _ r⟩
  | new c =>
    cases c with
    | lst xs =>
      intro p vs hp r
      exact h (.ref p) g _ .rfl (Nat.le_refl _) (R.new hp) ⟨p, rfl, R.frAt hp ⟨vs, r, upd_same⟩ fun _ z => nomatch z⟩
    | dct kvs =>
      intro p vs hp r
      exact h (.ref p) g _ .rfl (Nat.le_refl _) (R.new hp) ⟨p, rfl, R.frAt hp ⟨vs, r, .inl upd_same⟩ fun _ z => nomatch z⟩
    | ins fs =>
      exact h
    | cls ks =>
      exact h
/-- the readings of operations, by data -/
def rD1 (K : PySem.W.Frag) (f : F → Op) : V → Hp → VK → Prop := fun x H Q => ∃ S a, Lk S H ∧ RepP K S H a x ∧ Post K S H Q (f a)
def rD2 (K : PySem.W.Frag) (f : F → F → Op) : R2 := fun x y H Q => ∃ S a b, Lk S H ∧ RepP K S H a x ∧ RepP K S H b y ∧ Post K S H Q (f a b)
inductive RepPs (K : PySem.W.Frag) (S H : Hp) : List F → List V → Prop
  | nil : RepPs K S H [] []
  | cons {x : F} {xs : List F} {v : V} {vs : List V} (h : RepP K S H x v) (t : RepPs K S H xs vs) : RepPs K S H (x :: xs) (v :: vs)
def rDn (K : PySem.W.Frag) (f : List F → Op) : List V → Hp → VK → Prop := fun vs H Q => ∃ S xs, Lk S H ∧ RepPs K S H xs vs ∧ Post K S H Q (f xs)
def rDm (K : PySem.W.Frag) (f : List F → Op) : V → List V → Hp → VK → Prop := fun v vs H Q => rDn K f (v :: vs) H Q
end Fm

/-! FD: expressions by construct. -/
namespace Fm
open PySem L2

section
variable {K : PySem.W.Frag} {G : Gc} {g : Gh} {sl : List Sl} {s : Sto} {σ : St} {H : Hp} {Q : VK}
theorem op1_post {f : F → Op} {w : W} {v : V} (R : Rl K G g sl s σ H) (r : RepW K g s.O.length w v) (h : OkE K G g sl s σ Q (op1 f w sl s)) : rD1 K f v H Q := by
  simp only [op1] at h
  cases e : pk sl s w with
  | none => rw [e] at h; exact h.elim
  | some x => rw [e] at h; exact ⟨g.S, x, R.see, R.peek r e, post_of R h⟩
theorem op2_post {f : F → F → Op} {w w2 : W} {v v2 : V} (R : Rl K G g sl s σ H) (r : RepW K g s.O.length w v) (r2 : RepW K g s.O.length w2 v2) (h : OkE K G g sl s σ Q (op2 f w w2 sl s)) : rD2 K f v v2 H Q := by
  simp only [op2] at h
  cases e : pk sl s w with
  | none => rw [e] at h; exact h.elim
  | some x =>
    cases e2 : pk sl s w2 with
    | none => rw [e, e2] at h; exact h.elim
    | some y => rw [e, e2] at h; exact ⟨g.S, x, y, R.see, R.peek r e, R.peek r2 e2, post_of R h⟩
theorem pks_rep (R : Rl K G g sl s σ H) : ∀ {ws : List W} {vs : List V} {xs : List F}, Paired (RepW K g s.O.length) ws vs → pks sl s ws = some xs → RepPs K g.S H xs vs
  | [], _, xs, .nil, e => by simp at e; subst e; exact .nil
  | w :: ws, _, xs, .cons r t, e => by
    simp only [pks] at e
    split at e
    · rename_i x ys e1 e2
      cases e
      exact .cons (R.peek r e1) (pks_rep R t e2)
    · cases e
theorem opN_post {f : List F → Op} {ws : List W} {vs : List V} (R : Rl K G g sl s σ H) (r : Paired (RepW K g s.O.length) ws vs) (h : OkE K G g sl s σ Q (opN f ws sl s)) : rDn K f vs H Q := by
  simp only [opN] at h
  cases e : pks sl s ws with
  | none => rw [e] at h; exact h.elim
  | some x => rw [e] at h; exact ⟨g.S, x, R.see, pks_rep R r e, post_of R h⟩
theorem tDA.go {m : MA} {k : List W → M} (R : Rl K G g sl s σ H) (h : OkE K G g sl s σ Q ((m sl s).bind fun ws s1 => k ws sl s1)) {P : List V → Hp → Prop}
    (hk : ∀ vs ws g' s' H', LeO g g' s.O.length → s.O.length ≤ s'.O.length → Rl K G g' sl s' σ H' → Paired (RepW K g' s'.O.length) ws vs → OkE K G g' sl s' σ Q (k ws sl s') → P vs H') : tDA K G m σ H P := by
  refine ⟨g, sl, s, R, ?_⟩
  cases e : m sl s with
  | bad => rw [e] at h; exact h
  | exc c s' => rw [e] at h; exact h
  | ok ws s' =>
    rw [e] at h
    intro vs g' H' l hn R' r
    exact hk vs ws g' s' H' l hn R' r (OkE.back h l hn)
/-- a test first -/
theorem tDT.go {m : M} {k1 k2 : M} (R : Rl K G g sl s σ H) (h : OkE K G g sl s σ Q ((m sl s).bind fun y s1 => match y with
      | .w (.f (.bl true)) => k1 sl s1
      | .w (.f (.bl false)) => k2 sl s1
      | _ => .bad)) {P : Bool → Hp → Prop}
    (h1 : ∀ g' s' H', LeO g g' s.O.length → s.O.length ≤ s'.O.length → Rl K G g' sl s' σ H' → OkE K G g' sl s' σ Q (k1 sl s') → P true H')
    (h2 : ∀ g' s' H', LeO g g' s.O.length → s.O.length ≤ s'.O.length → Rl K G g' sl s' σ H' → OkE K G g' sl s' σ Q (k2 sl s') → P false H') : tDT K G m σ H P := by
  refine ⟨g, sl, s, R, ?_⟩
  cases e : m sl s with
  | bad => rw [e] at h; exact h
  | exc c s' => rw [e] at h; exact h
  | ok y s' =>
    rw [e] at h
    simp only [Fm.R.bind_ok] at h
    split at h
    · intro g' H' l hn R'; exact h1 g' s' H' l hn R' (OkE.back h l hn)
    · intro g' H' l hn R'; exact h2 g' s' H' l hn R' (OkE.back h l hn)
    · exact h.elim
end

section
variable {X : Cx} {G : Gc} {a b c : Expr} {es : List Expr} {ma mb mc : M} {pos : Pos}
theorem de_var (i : Nat) {x : Str} (hN : X.N[i]? = some x := by rfl) (hv : Vis X.env.scope x := by first | exact Or.inl rfl | exact Or.inr (Or.inl rfl) | exact Or.inr (Or.inr rfl)) (hd : (x == ("__debug__" : Str)) = false := by decide)
    (hcd : (x == ("__classdict__" : Str)) = false := by decide) : DE X G (.Name x pos) (mVar i) :=
  (pe_var hN hv hd hcd).wk fun σ H Q ⟨g, sl, s, R, h⟩ => by
    simp only [mVar] at h
    split at h
    · rename_i w e
      obtain ⟨v, e1, r⟩ := R.val i w e
      exact ⟨v, e1, h v g H .rfl (Nat.le_refl _) R r⟩
    · rename_i d e
      obtain ⟨_, _, e1, _⟩ := R.own i d e
      exact ⟨_, e1, h _ g H .rfl (Nat.le_refl _) R rfl⟩
    · exact h.elim
theorem de_c {x : F} {v : V} {e : Expr} (he : PE X e (tC v)) (hx : ∀ K S, Rep K S x v) : DE X G e (mC x) :=
  he.wk fun σ H Q ⟨g, sl, s, R, h⟩ => h v g H .rfl (Nat.le_refl _) R (hx _ _)
theorem de_int {i : Int} {j : Nat} : DE X G (.Constant (.int i) j pos) (mC (.int i)) := de_c pe_int fun _ _ => by simp only [Rep]
theorem de_str {x : Str} {j : Nat} : DE X G (.Constant (.str x) j pos) (mC (.str x)) := de_c pe_str fun _ _ => by simp only [Rep]
theorem de_bl {x : Bool} {j : Nat} : DE X G (.Constant (.bool x) j pos) (mC (.bl x)) := de_c pe_bl fun _ _ => by simp only [Rep]
theorem de_non {j : Nat} : DE X G (.Constant .none j pos) (mC .non) := de_c pe_non fun _ _ => by simp only [Rep]
/-- a module's constant -/
theorem de_gint {x : Str} {i : Int} {t : Tok} (hg : Gl X x) (hm : X.mg x = some (.int i t)) (hd : (x == ("__debug__" : Str)) = false := by decide) : DE X G (.Name x pos) (mC (.int i)) :=
  de_c (pe_glob (v := .int i) hg hm ⟨_, rfl⟩ hd) fun _ _ => by simp only [Rep]
theorem de_gstr {x y : Str} {t : Tok} (hg : Gl X x) (hm : X.mg x = some (.str y t)) (hd : (x == ("__debug__" : Str)) = false := by decide) : DE X G (.Name x pos) (mC (.str y)) :=
  de_c (pe_glob (v := .str y) hg hm ⟨_, rfl⟩ hd) fun _ _ => by simp only [Rep]
theorem de_un {op : UnaryOp} {f : F → Op} (ho : UnR X (unaryOp op) (rD1 X.K f)) (ha : DE X G a ma) : DE X G (.UnaryOp op a pos) (mU f ma) :=
  (pe_un ho ha).wk fun σ H Q ⟨g, sl, s, R, h⟩ => tD.first R h fun v w g1 s1 H1 l1 n1 R1 r1 h1 => op1_post R1 r1 h1
theorem de_bin {op : Operator} {f : F → F → Op} (ho : OpR X (binaryOp op) (rD2 X.K f)) (ha : DE X G a ma) (hb : DE X G b mb) : DE X G (.BinOp a op b pos) (mB f ma mb) :=
  (pe_op ho ha hb).wk fun σ H Q ⟨g, sl, s, R, h⟩ => tD.first R h fun v w g1 s1 H1 l1 n1 R1 r1 h1 => tD.first R1 h1 fun u w2 g2 s2 H2 l2 n2 R2 r2 h2 => op2_post R2 (r1.le l2 n2) r2 h2
theorem de_cmp {op : CmpOp} {f : F → F → Op} (ho : OpR X (compareOp op) (rD2 X.K f)) (hm : behindInMarks op b = false) (ha : DE X G a ma) (hb : DE X G b mb) : DE X G (.Compare a [op] [b] pos) (mB f ma mb) :=
  (pe_cmpR ho ha hb hm).wk fun σ H Q ⟨g, sl, s, R, h⟩ => tD.first R h fun v w g1 s1 H1 l1 n1 R1 r1 h1 => tD.first R1 h1 fun u w2 g2 s2 H2 l2 n2 R2 r2 h2 => op2_post R2 (r1.le l2 n2) r2 h2
theorem de_ix {f : F → F → Op} (ho : IxR X (rD2 X.K f)) (hs : PlainIx b) (ha : DE X G a ma) (hb : DE X G b mb) : DE X G (.Subscript a b pos) (mB f ma mb) :=
  (pe_ix ho ha hb hs).wk fun σ H Q ⟨g, sl, s, R, h⟩ => tD.first R h fun v w g1 s1 H1 l1 n1 R1 r1 h1 => tD.first R1 h1 fun u w2 g2 s2 H2 l2 n2 R2 r2 h2 => op2_post R2 (r1.le l2 n2) r2 h2
theorem da_nil : DA X G [] aNil := pa_nil.wk fun σ H Q ⟨g, sl, s, R, h⟩ => h [] g H .rfl (Nat.le_refl _) R .nil
theorem da_cons {mr : MA} (ha : DE X G a ma) (hr : DA X G es mr) (hs : starEach (a :: es) X.env = (false, eval a X.env) :: starEach es X.env := by rfl) : DA X G (a :: es) (aCons ma mr) :=
  (pa_cons ha hr hs).wk fun σ H Q ⟨g, sl, s, R, h⟩ => by
    refine ⟨g, sl, s, R, ?_⟩
    simp only [aCons] at h
    cases e : ma sl s with
    | bad => rw [e] at h; exact h
    | exc c s' => rw [e] at h; exact h
    | ok y s1 =>
      rw [e] at h
      simp only [Fm.R.bind_ok] at h
      intro v g1 H1 l1 n1 R1 r1
      obtain ⟨g2, l2, R2, r2⟩ := R1.freeze r1
      have l12 := l1.trans l2 n1
      refine ⟨g2, sl, s1, R2, ?_⟩
      cases e2 : mr sl s1 with
      | bad => rw [e2] at h; exact h
      | exc c s' => rw [e2] at h; exact fun g' H' a b c => h g' H' (l12.trans a n1) (Nat.le_trans n1 b) c
      | ok ws s2 =>
        rw [e2] at h
        intro vs g3 H3 l3 n3 R3 r3
        exact h (v :: vs) g3 H3 (l12.trans l3 n1) (Nat.le_trans n1 n3) R3 (.cons (r2.le l3 n3) r3)
theorem de_callB {ma : MA} {e : Expr} {x : Str} {id : String} {f : List F → Op} {p : Pos} (hc : CallR X (.builtin id) (rDn X.K f)) (hg : Gl X x) (hm : X.mg x = none) (hv : bootBuiltins x = some (.builtin id)) (ha : DA X G (e :: es) ma) (hn : x ≠ "__name__" := by decide) (hdb : (x == ("__debug__" : Str)) = false := by decide)
    (he : starEach (e :: es) X.env = (false, eval e X.env) :: starEach es X.env := by rfl) (hpl : (backTo pos (starEach es X.env)).any (·.1) = false := by rfl) : DE X G (.Call (.Name x p) (e :: es) [] pos) (mN f ma) :=
  (pe_callB hc hg hm hv ha hn hdb he hpl).wk fun σ H Q ⟨g, sl, s, R, h⟩ => tDA.go R h fun vs ws g1 s1 H1 l1 n1 R1 r1 h1 => opN_post R1 r1 h1
theorem de_callTy {ma : MA} {e : Expr} {x : Str} {T : String} {f : List F → Op} {p : Pos} (hc : CallR X (.type T) (rDn X.K f)) (hg : Gl X x) (hm : X.mg x = none) (hv : bootBuiltins x = some (.type T)) (ha : DA X G (e :: es) ma) (hn : x ≠ "__name__" := by decide) (hdb : (x == ("__debug__" : Str)) = false := by decide)
    (he : starEach (e :: es) X.env = (false, eval e X.env) :: starEach es X.env := by rfl) (hpl : (backTo pos (starEach es X.env)).any (·.1) = false := by rfl) : DE X G (.Call (.Name x p) (e :: es) [] pos) (mN f ma) :=
  (pe_callTy hc hg hm hv ha hn hdb he hpl).wk fun σ H Q ⟨g, sl, s, R, h⟩ => tDA.go R h fun vs ws g1 s1 H1 l1 n1 R1 r1 h1 => opN_post R1 r1 h1
/-! ### displays -/
theorem fsOf_rep {K : PySem.W.Frag} {g : Gh} {n : Nat} : ∀ {ws : List W} {vs : List V} {xs : List F}, Paired (RepW K g n) ws vs → fsOf ws = some xs → Reps K g.S xs vs
  | [], _, xs, .nil, e => by simp at e; subst e; exact .nil
  | .f x :: ws, _, xs, .cons r t, e => by
    simp only [fsOf] at e
    split at e
    · rename_i ys e2
      cases e
      exact .cons r (fsOf_rep t e2)
    · cases e
  | .c _ :: ws, _, xs, .cons r t, e => by cases e
  | .o _ :: ws, _, xs, .cons r t, e => by cases e
  | .x _ :: ws, _, xs, .cons r t, e => by cases e
  | .u :: ws, _, xs, .cons r t, e => by cases e
theorem de_lst {ma : MA} (ha : DA X G es ma) : DE X G (.List es pos) (mLst ma) :=
  (pe_lst ha).wk fun σ H Q ⟨g, sl, s, R, h⟩ => tDA.go (k := fun ws sl s1 => match fsOf ws with
      | some xs => if xs.length ≤ sizeLine then .ok (.fr (.lst xs)) s1 else .bad
      | none => .bad) R h fun vs ws g1 s1 H1 l1 n1 R1 r1 h1 => by
    split at h1
    · rename_i xs e
      have r := fsOf_rep r1 e
      split at h1
      · rename_i hl
        exact ⟨by rw [← r.length]; exact hl, fun p hp => post_of (op := .new (.lst xs)) R1 h1 p vs hp r⟩
      · exact h1.elim
    · exact h1.elim
theorem de_tup {ma : MA} {k : Nat} (ha : DA X G es ma) : DE X G (.Tuple es k pos) (mTup ma) :=
  (pe_tup ha).wk fun σ H Q ⟨g, sl, s, R, h⟩ => tDA.go (k := fun ws sl s1 => match fsOf ws with
      | some xs => if xs.length ≤ sizeLine then .ok (.w (.f (.tup xs))) s1 else .bad
      | none => .bad) R h fun vs ws g1 s1 H1 l1 n1 R1 r1 h1 => by
    split at h1
    · rename_i xs e
      have r := fsOf_rep r1 e
      split at h1
      · rename_i hl
        exact ⟨by rw [← r.length]; exact hl, fun p hp => post_of (op := .ntup xs) R1 h1 p vs hp r⟩
      · exact h1.elim
    · exact h1.elim
/-! ### truth -/
theorem dt_val (ha : DE X G a ma) (he : ∀ whole, isTrue a X.env whole = (do let v ← whole; standAt a.pos; holding [v] (truthy v)) := by intro _; rfl) : DT X G a ma :=
  (pt_val ha he).wk fun σ H Q ⟨g, sl, s, R, h⟩ => by
    refine ⟨g, sl, s, R, ?_⟩
    cases e : ma sl s with
    | bad => rw [e] at h; exact h
    | exc c s' => rw [e] at h; exact h
    | ok y s' =>
      rw [e] at h
      unfold OkT at h
      split at h
      · rename_i b s2 q
        cases q
        intro v g' H' l hn R' r
        exact ⟨b, by simpa only [RepY, RepW, Rep] using r, h g' H' l hn R'⟩
      · rename_i q; cases q
      · exact h.elim
theorem dt_cmp {op : CmpOp} {f : F → F → Op} (ho : OpR X (compareOp op) (rD2 X.K f)) (hm : behindInMarks op b = false) (ha : DE X G a ma) (hb : DE X G b mb) : DT X G (.Compare a [op] [b] pos) (mB f ma mb) :=
  (pt_cmpR ho ha hb hm).wk fun σ H Q ⟨g, sl, s, R, h⟩ => by
    have h' : OkE X.K G g sl s σ (fun x H' => ∃ k, x = .bl k ∧ Q k H') (mB f ma mb sl s) := by
      cases e : mB f ma mb sl s with
      | bad => rw [e] at h; exact h
      | exc c s' => rw [e] at h; exact h
      | ok y s' =>
        rw [e] at h
        unfold OkT at h
        split at h
        · rename_i b s2 q
          cases q
          intro v g' H' l hn R' r
          exact ⟨b, by simpa only [RepY, RepW, Rep] using r, h g' H' l hn R'⟩
        · rename_i q; cases q
        · exact h.elim
    exact tD.first R h' fun v w g1 s1 H1 l1 n1 R1 r1 h1 => tD.first R1 h1 fun u w2 g2 s2 H2 l2 n2 R2 r2 h2 => op2_post R2 (r1.le l2 n2) r2 h2

/-! ### and, or, not, if-else, chains -/
theorem bl_of {K : PySem.W.Frag} {G : Gc} {g : Gh} {sl : List Sl} {s : Sto} {H : Hp} {b : Bool} {v : V} (r : RepY K G g sl s H (.w (.f (.bl b))) v) : v = .bl b := by simpa only [RepY, RepW, Rep] using r
/-- a bool first, as a value -/
theorem tD.bool {K : PySem.W.Frag} {G : Gc} {g : Gh} {sl : List Sl} {s : Sto} {σ : St} {H : Hp} {Q : VK} {m : M} {k1 k2 : M} (R : Rl K G g sl s σ H) (h : OkE K G g sl s σ Q ((m sl s).bind fun y s1 => match y with
      | .w (.f (.bl true)) => k1 sl s1
      | .w (.f (.bl false)) => k2 sl s1
      | _ => .bad)) {P : VK}
    (h1 : ∀ g' s' H', LeO g g' s.O.length → s.O.length ≤ s'.O.length → Rl K G g' sl s' σ H' → OkE K G g' sl s' σ Q (k1 sl s') → P (.bl true) H')
    (h2 : ∀ g' s' H', LeO g g' s.O.length → s.O.length ≤ s'.O.length → Rl K G g' sl s' σ H' → OkE K G g' sl s' σ Q (k2 sl s') → P (.bl false) H') : tD K G m σ H P := by
  refine ⟨g, sl, s, R, ?_⟩
  cases e : m sl s with
  | bad => rw [e] at h; exact h
  | exc c s' => rw [e] at h; exact h
  | ok y s' =>
    rw [e] at h
    simp only [Fm.R.bind_ok] at h
    split at h
    · intro v g' H' l hn R' r; rw [bl_of r]; exact h1 g' s' H' l hn R' (OkE.back h l hn)
    · intro v g' H' l hn R' r; rw [bl_of r]; exact h2 g' s' H' l hn R' (OkE.back h l hn)
    · exact h.elim
theorem ok_bl {K : PySem.W.Frag} {G : Gc} {g : Gh} {sl : List Sl} {s : Sto} {σ : St} {H : Hp} {Q : VK} {b : Bool} (R : Rl K G g sl s σ H) (h : OkE K G g sl s σ Q (.ok (.w (.f (.bl b))) s)) : Q (.bl b) H :=
  h (.bl b) g H .rfl (Nat.le_refl _) R (by simp only [RepY, RepW, Rep])
theorem de_one {op} (ha : DE X G a ma) : DE X G (.BoolOp op [a] pos) ma := pe_one ha
theorem de_and {rest : List Expr} (ha : DE X G a ma) (hb : DE X G (.BoolOp .And (b :: rest) pos) mb) : DE X G (.BoolOp .And (a :: b :: rest) pos) (mAnd ma mb) :=
  (pe_and ha hb).wk fun σ H Q ⟨g, sl, s, R, h⟩ => tD.bool (k1 := mb) (k2 := fun _ s => .ok (.w (.f (.bl false))) s) R h (fun g1 s1 H1 l1 n1 R1 h1 => ⟨true, rfl, iteT ⟨g1, sl, s1, R1, h1⟩⟩) fun g1 s1 H1 l1 n1 R1 h1 => ⟨false, rfl, iteF (ok_bl R1 h1)⟩
theorem de_or {rest : List Expr} (ha : DE X G a ma) (hb : DE X G (.BoolOp .Or (b :: rest) pos) mb) : DE X G (.BoolOp .Or (a :: b :: rest) pos) (mOr ma mb) :=
  (pe_or ha hb).wk fun σ H Q ⟨g, sl, s, R, h⟩ => tD.bool (k1 := fun _ s => .ok (.w (.f (.bl true))) s) (k2 := mb) R (by
    have e : (mOr ma mb) sl s = ((ma sl s).bind fun y s1 => match y with
      | .w (.f (.bl true)) => (fun _ s => .ok (.w (.f (.bl true))) s : M) sl s1
      | .w (.f (.bl false)) => mb sl s1
      | _ => .bad) := by
        simp only [mOr]
        congr 1
        funext y s1
        split <;> simp_all
    rw [← e]; exact h) (fun g1 s1 H1 l1 n1 R1 h1 => ⟨true, rfl, iteT (ok_bl R1 h1)⟩) fun g1 s1 H1 l1 n1 R1 h1 => ⟨false, rfl, iteF ⟨g1, sl, s1, R1, h1⟩⟩
theorem de_not (ha : DE X G a ma) : DE X G (.UnaryOp .Not a pos) (mNot ma) :=
  (pe_not ha).wk fun σ H Q ⟨g, sl, s, R, h⟩ => tD.bool (k1 := fun _ s => .ok (.w (.f (.bl false))) s) (k2 := fun _ s => .ok (.w (.f (.bl true))) s) R (by
    have e : (mNot ma) sl s = ((ma sl s).bind fun y s1 => match y with
      | .w (.f (.bl true)) => (fun _ s => .ok (.w (.f (.bl false))) s : M) sl s1
      | .w (.f (.bl false)) => (fun _ s => .ok (.w (.f (.bl true))) s : M) sl s1
      | _ => .bad) := by
        simp only [mNot]
        congr 1
        funext y s1
        split
        · rename_i b; cases b <;> rfl
        · split <;> simp_all
    rw [← e]; exact h) (fun g1 s1 H1 l1 n1 R1 h1 => ⟨true, rfl, ok_bl R1 h1⟩) fun g1 s1 H1 l1 n1 R1 h1 => ⟨false, rfl, ok_bl R1 h1⟩
theorem de_if {c : Expr} {mc : M} (hc : DT X G c mc) (ha : DE X G a ma) (hb : DE X G b mb) : DE X G (.IfExp c a b pos) (mIf mc ma mb) :=
  (pe_ifExp hc ha hb).wk fun σ H Q ⟨g, sl, s, R, h⟩ => tDT.go R h (fun g1 s1 H1 l1 n1 R1 h1 => iteT ⟨g1, sl, s1, R1, h1⟩) fun g1 s1 H1 l1 n1 R1 h1 => iteF ⟨g1, sl, s1, R1, h1⟩
/-- a test's wish as a value's -/
theorem OkT.e {K : PySem.W.Frag} {G : Gc} {g : Gh} {sl : List Sl} {s : Sto} {σ : St} {Q : Bool → Hp → Prop} {r : R Y} (h : OkT K G g sl s σ Q r) : OkE K G g sl s σ (fun x H' => ∃ k, x = .bl k ∧ Q k H') r := by
  cases r with
  | bad => exact h
  | exc c s' => exact h
  | ok y s' =>
    unfold OkT at h
    split at h
    · rename_i b s2 q
      cases q
      intro v g' H' l hn R' r
      exact ⟨b, by simpa only [RepY, RepW, Rep] using r, h g' H' l hn R'⟩
    · rename_i q; cases q
    · exact h.elim
theorem OkE.t {K : PySem.W.Frag} {G : Gc} {g : Gh} {sl : List Sl} {s : Sto} {σ : St} {Q : Bool → Hp → Prop} {r : R Y} (h : OkE K G g sl s σ (fun x H' => ∃ k, x = .bl k ∧ Q k H') r) (hb : ∀ y s', r = .ok y s' → ∃ b, y = .w (.f (.bl b))) : OkT K G g sl s σ Q r := by
  cases r with
  | bad => exact h
  | exc c s' => exact h
  | ok y s' =>
    obtain ⟨b, rfl⟩ := hb y s' rfl
    intro g' H' l hn R'
    obtain ⟨k, e, q⟩ := h (.bl b) g' H' l hn R' (by simp only [RepY, RepW, Rep])
    cases e; exact q
/-- a bool first, as a test -/
theorem tDT.bool {K : PySem.W.Frag} {G : Gc} {g : Gh} {sl : List Sl} {s : Sto} {σ : St} {H : Hp} {Q : Bool → Hp → Prop} {m : M} {k1 k2 : M} (R : Rl K G g sl s σ H) (h : OkT K G g sl s σ Q ((m sl s).bind fun y s1 => match y with
      | .w (.f (.bl true)) => k1 sl s1
      | .w (.f (.bl false)) => k2 sl s1
      | _ => .bad)) {P : Bool → Hp → Prop}
    (h1 : ∀ g' s' H', LeO g g' s.O.length → s.O.length ≤ s'.O.length → Rl K G g' sl s' σ H' → OkT K G g' sl s' σ Q (k1 sl s') → P true H')
    (h2 : ∀ g' s' H', LeO g g' s.O.length → s.O.length ≤ s'.O.length → Rl K G g' sl s' σ H' → OkT K G g' sl s' σ Q (k2 sl s') → P false H') : tDT K G m σ H P := by
  refine ⟨g, sl, s, R, ?_⟩
  cases e : m sl s with
  | bad => rw [e] at h; exact h
  | exc c s' => rw [e] at h; exact h
  | ok y s' =>
    rw [e] at h
    simp only [Fm.R.bind_ok] at h
    split at h
    · intro g' H' l hn R'; exact h1 g' s' H' l hn R' (OkT.back h l hn)
    · intro g' H' l hn R'; exact h2 g' s' H' l hn R' (OkT.back h l hn)
    · exact h.elim
theorem okT_bl {K : PySem.W.Frag} {G : Gc} {g : Gh} {sl : List Sl} {s : Sto} {σ : St} {H : Hp} {Q : Bool → Hp → Prop} {b : Bool} (R : Rl K G g sl s σ H) (h : OkT K G g sl s σ Q (.ok (.w (.f (.bl b))) s)) : Q b H :=
  h g H .rfl (Nat.le_refl _) R
abbrev DW (X : Cx) (G : Gc) (e : Expr) (m : M) : Prop := PW X e (tDT X.K G m)
theorem dw_and1 (ha : DT X G a ma) : DW X G (.BoolOp .And [a] pos) ma := pw_and1 ha
theorem dw_or1 (ha : DT X G a ma) : DW X G (.BoolOp .Or [a] pos) ma := pw_or1 ha
theorem mOr_eq (ma mb : M) (sl : List Sl) (s : Sto) : (mOr ma mb) sl s = ((ma sl s).bind fun y s1 => match y with
      | .w (.f (.bl true)) => (fun _ s => .ok (.w (.f (.bl true))) s : M) sl s1
      | .w (.f (.bl false)) => mb sl s1
      | _ => .bad) := by
  simp only [mOr]
  congr 1
  funext y s1
  split <;> simp_all
theorem mNot_eq (ma : M) (sl : List Sl) (s : Sto) : (mNot ma) sl s = ((ma sl s).bind fun y s1 => match y with
      | .w (.f (.bl true)) => (fun _ s => .ok (.w (.f (.bl false))) s : M) sl s1
      | .w (.f (.bl false)) => (fun _ s => .ok (.w (.f (.bl true))) s : M) sl s1
      | _ => .bad) := by
  simp only [mNot]
  congr 1
  funext y s1
  split
  · rename_i b; cases b <;> rfl
  · split <;> simp_all
theorem dw_and {rest : List Expr} (ha : DT X G a ma) (hb : DW X G (.BoolOp .And (b :: rest) pos) mb) : DW X G (.BoolOp .And (a :: b :: rest) pos) (mAnd ma mb) :=
  (pw_and ha hb).wk fun σ H Q ⟨g, sl, s, R, h⟩ => tDT.bool (k1 := mb) (k2 := fun _ s => .ok (.w (.f (.bl false))) s) R h (fun g1 s1 H1 l1 n1 R1 h1 => iteT ⟨g1, sl, s1, R1, h1⟩) fun g1 s1 H1 l1 n1 R1 h1 => iteF (okT_bl R1 h1)
theorem dw_or {rest : List Expr} (ha : DT X G a ma) (hb : DW X G (.BoolOp .Or (b :: rest) pos) mb) : DW X G (.BoolOp .Or (a :: b :: rest) pos) (mOr ma mb) :=
  (pw_or ha hb).wk fun σ H Q ⟨g, sl, s, R, h⟩ => tDT.bool (k1 := fun _ s => .ok (.w (.f (.bl true))) s) (k2 := mb) R (by rw [← mOr_eq]; exact h) (fun g1 s1 H1 l1 n1 R1 h1 => iteT (okT_bl R1 h1)) fun g1 s1 H1 l1 n1 R1 h1 => iteF ⟨g1, sl, s1, R1, h1⟩
theorem dt_w {e : Expr} {m : M} (h : DW X G e m) : DT X G e m := PW.pt h
theorem dt_not (ha : DT X G a ma) : DT X G (.UnaryOp .Not a pos) (mNot ma) :=
  (pt_not ha).wk fun σ H Q ⟨g, sl, s, R, h⟩ => tDT.bool (k1 := fun _ s => .ok (.w (.f (.bl false))) s) (k2 := fun _ s => .ok (.w (.f (.bl true))) s) R (by rw [← mNot_eq]; exact h) (fun g1 s1 H1 l1 n1 R1 h1 => okT_bl R1 h1) fun g1 s1 H1 l1 n1 R1 h1 => okT_bl R1 h1
/-! ### is None -/
theorem isN_rep {K : PySem.W.Frag} {g : Gh} {n : Nat} {w : W} {v : V} (r : RepW K g n w v) : decide (v = .non) = isN w := by
  cases w with
  | f x => cases x <;> simp only [RepW, Rep] at r <;> first | (subst r; rfl) | (obtain ⟨a, vs, rfl, _⟩ := r; rfl) | (obtain ⟨a, rfl, _⟩ := r; rfl)
  | c k => obtain ⟨_, rfl⟩ := r; rfl
  | o i => have r : v = .ref (g.ro i) := r; subst r; rfl
  | x c => exact r.elim
  | u => obtain ⟨a, rfl⟩ := r; rfl
theorem de_isN {j : Nat} {p2 : Pos} (ha : DE X G a ma) : DE X G (.Compare a [.Is] [.Constant .none j p2] pos) (mIsN ma) :=
  (pe_cmp (pc_isN ha)).wk fun σ H Q ⟨g, sl, s, R, h⟩ => tD.first R h fun v w g1 s1 H1 l1 n1 R1 r1 h1 => by rw [isN_rep r1]; exact ok_bl R1 h1
theorem de_notN {j : Nat} {p2 : Pos} (ha : DE X G a ma) : DE X G (.Compare a [.IsNot] [.Constant .none j p2] pos) (mNotN ma) :=
  (pe_cmp (pc_notN ha)).wk fun σ H Q ⟨g, sl, s, R, h⟩ => tD.first R h fun v w g1 s1 H1 l1 n1 R1 r1 h1 => by rw [isN_rep r1]; exact ok_bl R1 h1
theorem dt_isN {j : Nat} {p2 : Pos} (ha : DE X G a ma) : DT X G (.Compare a [.Is] [.Constant .none j p2] pos) (mIsN ma) :=
  (pt_cmp (pc_isN ha)).wk fun σ H Q ⟨g, sl, s, R, h⟩ => tD.first R h.e fun v w g1 s1 H1 l1 n1 R1 r1 h1 => by rw [isN_rep r1]; exact ok_bl R1 h1
theorem dt_notN {j : Nat} {p2 : Pos} (ha : DE X G a ma) : DT X G (.Compare a [.IsNot] [.Constant .none j p2] pos) (mNotN ma) :=
  (pt_cmp (pc_notN ha)).wk fun σ H Q ⟨g, sl, s, R, h⟩ => tD.first R h.e fun v w g1 s1 H1 l1 n1 R1 r1 h1 => by rw [isN_rep r1]; exact ok_bl R1 h1
/-! ### a < b < c -/
theorem chain_go {K : PySem.W.Frag} {f f' : F → F → Op} {g : Gh} {sl : List Sl} {s : Sto} {σ : St} {H : Hp} {Q : VK} {w u : W} {v v2 : V} (R : Rl K G g sl s σ H) (r1 : RepW K g s.O.length w v) (r2 : RepW K g s.O.length u v2)
    (h : OkE K G g sl s σ Q ((op2 f w u sl s).bind fun y s1 => match y with
      | .w (.f (.bl true)) => mW mc (op2 f' u) sl s1
      | .w (.f (.bl false)) => .ok (.w (.f (.bl false))) s1
      | _ => .bad)) : rD2 K f v v2 H fun z H3 => ∃ k, z = .bl k ∧ (if k = true then tD K G mc σ H3 fun w' H4 => rD2 K f' v2 w' H4 Q else Q (.bl false) H3) := by
  refine op2_post R r1 r2 ?_
  cases e : op2 f w u sl s with
  | bad => rw [e] at h; exact h
  | exc c s' => simp only [op2] at e; split at e <;> (try cases e) <;> (rename_i x y _ _; cases q : f x y <;> (rw [q] at e; simp only [Op.res] at e; try cases e) <;> (rename_i c; cases c <;> cases e))
  | ok y s' =>
    rw [e] at h
    simp only [Fm.R.bind_ok] at h
    split at h
    · intro z g' H' l hn R' rz
      rw [bl_of rz]
      refine ⟨true, rfl, iteT ?_⟩
      exact tD.first R' (OkE.back h l hn) fun v3 w3 g2 s2 H2 l2 n2 R2 r3 h3 => op2_post R2 (r2.le (l.trans l2 hn) (Nat.le_trans hn n2)) r3 h3
    · intro z g' H' l hn R' rz
      rw [bl_of rz]
      exact ⟨false, rfl, iteF (ok_bl R' (OkE.back h l hn))⟩
    · exact h.elim
theorem de_chain {op op' : CmpOp} {f f' : F → F → Op} (ho : OpR X (compareOp op) (rD2 X.K f)) (ho' : OpR X (compareOp op') (rD2 X.K f')) (ha : DE X G a ma) (hb : DE X G b mb) (hc : DE X G c mc)
    (hm : lastMarks [op, op'] [b, c] = false := by with_unfolding_all rfl) : DE X G (.Compare a [op, op'] [b, c] pos) (mCh f f' ma mb mc) :=
  (pe_chain ho ho' ha hb hc hm).wk fun σ H Q ⟨g, sl, s, R, h⟩ => tD.first R h fun v w g1 s1 H1 l1 n1 R1 r1 h1 => tD.first R1 h1 fun u w2 g2 s2 H2 l2 n2 R2 r2 h2 => chain_go R2 (r1.le l2 n2) r2 h2
theorem dt_chain {op op' : CmpOp} {f f' : F → F → Op} (ho : OpR X (compareOp op) (rD2 X.K f)) (ho' : OpR X (compareOp op') (rD2 X.K f')) (ha : DE X G a ma) (hb : DE X G b mb) (hc : DE X G c mc)
    (hm : lastMarks [op, op'] [b, c] = false := by with_unfolding_all rfl) : DT X G (.Compare a [op, op'] [b, c] pos) (mCh f f' ma mb mc) :=
  (pt_chain ho ho' ha hb hc hm).wk fun σ H Q ⟨g, sl, s, R, h⟩ => tD.first R h.e fun v w g1 s1 H1 l1 n1 R1 r1 h1 => tD.first R1 h1 fun u w2 g2 s2 H2 l2 n2 R2 r2 h2 => chain_go R2 (r1.le l2 n2) r2 h2
/-! ### slices -/
abbrev DO (X : Cx) (G : Gc) (e : Option Expr) (m : MO) : Prop := (e = none ∧ m = none) ∨ ∃ a ma, e = some a ∧ m = some ma ∧ DE X G a ma
def tDO (K : PySem.W.Frag) (G : Gc) : MO → TO
  | none => tNoPart
  | some m => tPart (tD K G m)
theorem do_none : PO X none (tDO X.K G none) := po_none
theorem do_some (ha : DE X G a ma) : PO X (some a) (tDO X.K G (some ma)) := po_some ha
theorem part_go {K : PySem.W.Frag} {G : Gc} {g : Gh} {sl : List Sl} {s : Sto} {σ : St} {H : Hp} {Q : VK} {m : MO} {k : Option Int → M} (R : Rl K G g sl s σ H) (h : OkE K G g sl s σ Q (mPart m k sl s)) {P : Option Int → Hp → Prop}
    (hk : ∀ i g' s' H', LeO g g' s.O.length → s.O.length ≤ s'.O.length → Rl K G g' sl s' σ H' → OkE K G g' sl s' σ Q (k i sl s') → P i H') : tDO K G m σ H P := by
  cases m with
  | none => exact hk none g s H .rfl (Nat.le_refl _) R h
  | some m =>
    refine tD.first (k := fun w sl s => match w with
      | .f (.int i) => k (some i) sl s
      | _ => .bad) R h fun v w g1 s1 H1 l1 n1 R1 r1 h1 => ?_
    split at h1
    · rename_i i
      exact ⟨i, by simpa only [RepW, Rep] using r1, hk (some i) g1 s1 H1 l1 n1 R1 h1⟩
    · exact h1.elim
theorem de_slice {p2 : Pos} {lo hi : Option Expr} {ml mh : MO} {r : V → Option Int → Option Int → Hp → VK → Prop} {f : F → Option Int → Option Int → Op} (hr : SlR X r) (hf : ∀ S a x i j H Q, Lk S H → RepP X.K S H a x → Post X.K S H Q (f a i j) → r x i j H Q)
    (ha : DE X G a ma) (hl : PO X lo (tDO X.K G ml)) (hh : PO X hi (tDO X.K G mh)) : DE X G (.Subscript a (.Slice lo hi none p2) pos) (mSl f ma ml mh) :=
  (pe_slice hr ha hl hh).wk fun σ H Q ⟨g, sl, s, R, h⟩ => tD.first R h fun v w g1 s1 H1 l1 n1 R1 r1 h1 => part_go R1 h1 fun i g2 s2 H2 l2 n2 R2 h2 => part_go R2 h2 fun j g3 s3 H3 l3 n3 R3 h3 => by
    obtain ⟨S, x, q1, q2, q3⟩ := op1_post R3 (r1.le (l2.trans l3 n2) (Nat.le_trans n2 n3)) h3
    exact hf S x v i j H3 Q q1 q2 q3
end
end Fm

/-! FE: statements. -/
namespace Fm
open PySem L2

section
variable {K : PySem.W.Frag} {G : Gc} {g g' : Gh} {sl : List Sl} {s s' : Sto} {σ : St} {H H' : Hp} {n m : Nat} {C a p : Addr} {c : Ct} {i : Nat}
theorem slv {sl : List Sl} {i j : Nat} {x y : Sl} (h : (sl.set i x)[j]? = some y) : (j = i ∧ i < sl.length ∧ y = x) ∨ (j ≠ i ∧ sl[j]? = some y) := by
  by_cases e : j = i
  · subst e
    by_cases hl : j < sl.length
    · rw [List.getElem?_set_self hl] at h; cases h; exact .inl ⟨rfl, hl, rfl⟩
    · rw [List.getElem?_eq_none (by simpa using hl)] at h; cases h
  · rw [List.getElem?_set_ne (fun z => e z.symm)] at h
    exact .inr ⟨e, h⟩
/-- a slot holds a value -/
theorem Rl.setV {w : W} {v : V} (R : Rl K G g sl s σ H) (r : RepW K g s.O.length w v) (hw : slotOk w = true) (hx : G.fr i) : Rl K G g (sl.set i (Sl.v w)) s (σ.set i (some v)) H := by
  refine { toRlH := R.toRlH, len := by simpa using R.len, sok := fun j w' e => ?_, exs := fun j b e => ?_, val := fun j w' e => ?_, own := fun j c e => ?_, oni := fun j fs e => (slv e).elim (fun z => nomatch z.2.2) fun z => R.oni j fs z.2, oin := fun j k c d e e' => ?_, frm := fun a u f => ?_, newS := R.newS, newC := R.newC, oldC := R.oldC, n0le := R.n0le, newO := fun j c e => ?_, dom := R.dom, subS := R.subS }
  · rcases slv e with ⟨_, _, q⟩ | ⟨_, q⟩
    · cases q; exact hw
    · exact R.sok j w' q
  · rw [List.getElem?_set_ne (fun z => hx j b e z.symm)]; exact R.exs j b e
  · rcases slv e with ⟨q, hl, z⟩ | ⟨q, z⟩
    · cases z
      subst q
      exact ⟨v, by rw [List.getElem?_set_self (by rw [← R.len]; exact hl)], r⟩
    · obtain ⟨v', e1, r1⟩ := R.val j w' z
      exact ⟨v', by rw [List.getElem?_set_ne (fun z => q z.symm)]; exact e1, r1⟩
  · rcases slv e with ⟨_, _, q⟩ | ⟨q, z⟩
    · cases q
    · obtain ⟨h1, h2, h3, h4⟩ := R.own j c z
      exact ⟨h1, h2, by rw [List.getElem?_set_ne (fun z => q z.symm)]; exact h3, h4⟩
  · rcases slv e with ⟨_, _, q⟩ | ⟨q, z⟩
    · cases q
    · rcases slv e' with ⟨_, _, q'⟩ | ⟨q', z'⟩
      · cases q'
      · exact R.oin j k c d z z'
  · obtain ⟨h1, h2, h3, h4⟩ := R.frm a u f
    refine ⟨h1, h2, h3, fun j c e => ?_⟩
    rcases slv e with ⟨_, _, q⟩ | ⟨q, z⟩
    · cases q
    · exact h4 j c z
  · rcases slv e with ⟨_, _, q⟩ | ⟨q, z⟩
    · cases q
    · exact R.newO j c z
/-- a slot is forgotten -/
theorem Rl.setNo {v : Option V} (R : Rl K G g sl s σ H) (hx : G.fr i) : Rl K G g (sl.set i Sl.no) s (σ.set i v) H := by
  refine { toRlH := R.toRlH, len := by simpa using R.len, sok := fun j w' e => ?_, exs := fun j b e => ?_, val := fun j w' e => ?_, own := fun j c e => ?_, oni := fun j fs e => (slv e).elim (fun z => nomatch z.2.2) fun z => R.oni j fs z.2, oin := fun j k c d e e' => ?_, frm := fun a u f => ?_, newS := R.newS, newC := R.newC, oldC := R.oldC, n0le := R.n0le, newO := fun j c e => ?_, dom := R.dom, subS := R.subS }
  · rcases slv e with ⟨_, _, q⟩ | ⟨_, q⟩
    · cases q
    · exact R.sok j w' q
  · rw [List.getElem?_set_ne (fun z => hx j b e z.symm)]; exact R.exs j b e
  · rcases slv e with ⟨q, hl, z⟩ | ⟨q, z⟩
    · cases z
    · obtain ⟨v', e1, r1⟩ := R.val j w' z
      exact ⟨v', by rw [List.getElem?_set_ne (fun z => q z.symm)]; exact e1, r1⟩
  · rcases slv e with ⟨_, _, q⟩ | ⟨q, z⟩
    · cases q
    · obtain ⟨h1, h2, h3, h4⟩ := R.own j c z
      exact ⟨h1, h2, by rw [List.getElem?_set_ne (fun z => q z.symm)]; exact h3, h4⟩
  · rcases slv e with ⟨_, _, q⟩ | ⟨q, z⟩
    · cases q
    · rcases slv e' with ⟨_, _, q'⟩ | ⟨q', z'⟩
      · cases q'
      · exact R.oin j k c d z z'
  · obtain ⟨h1, h2, h3, h4⟩ := R.frm a u f
    refine ⟨h1, h2, h3, fun j c e => ?_⟩
    rcases slv e with ⟨_, _, q⟩ | ⟨q, z⟩
    · cases q
    · exact h4 j c z
  · rcases slv e with ⟨_, _, q⟩ | ⟨q, z⟩
    · cases q
    · exact R.newO j c z
/-- what slot i owns, given up: its object is free to be handed out -/
theorem Rl.giveUp (R : Rl K G g sl s σ H) (e : sl[i]? = some (Sl.own c)) (hi : ∀ fs, c ≠ .ins fs) : FrAt K G g (sl.set i Sl.no) s H (g.ro i) c := by
  obtain ⟨h1, h2, h3, h4⟩ := R.own i c e
  refine ⟨h1, h2, fun j d q => ?_, R.newO i c e, fun x hx q => ?_, h4, hi⟩
  · rcases slv q with ⟨_, _, z⟩ | ⟨z, q⟩
    · cases z
    · exact fun k => z (R.oin j i d c q e k)
  · obtain ⟨w, hw, z⟩ := paired_mem R.lkw x hx
    cases w with
    | f y =>
      cases y with
      | dct kvs =>
        obtain ⟨z1, _⟩ := z
        rw [q, h1] at z1; cases z1
      | _ => exact z
    | c k => exact h2 k z.1 (z.2.trans q)
    | _ => exact z
/-- a slot owns a new object -/
theorem Rl.setO (R : Rl K G g sl s σ H) (f : FrAt K G g sl s H p c) (hx : G.fr i) : Rl K G { g with ro := fun j => if j = i then p else g.ro j } (sl.set i (Sl.own c)) s (σ.set i (some (.ref p))) H := by
  obtain ⟨f1, f2, f3, f4, f5, f6, f7⟩ := f
  have cw : ∀ {n : Nat} {a : Addr} {d : Ct}, CelAt K G.C g n H a d → CelAt K G.C { g with ro := fun j => if j = i then p else g.ro j } n H a d := fun {n a d} h => by
    cases d <;> exact h
  have rw' : ∀ {n : Nat} {w : W} {v : V}, slotOk w = true → RepW K g n w v → RepW K { g with ro := fun j => if j = i then p else g.ro j } n w v := fun {n w v} q h => by
    cases w with
    | o k => cases q
    | _ => exact h
  have nf : ∀ a u, G.F a u → a ≠ p := fun a u f z => by have q := f.1; rw [z, f4] at q; cases q
  refine { see := R.see, exa := R.exa, cel := fun k d e => ⟨(R.cel k d e).1, cw (R.cel k d e).2⟩, cin := R.cin, lck := R.lck, lkw := paired_imp R.lkw fun w x z => ?_, lnd := R.lnd, len := by simpa using R.len, sok := fun j w' e => ?_, exs := fun j b e => ?_, val := fun j w' e => ?_, own := fun j d e => ?_, oni := fun j fs e => (slv e).elim (fun z => f7 fs (Sl.own.inj z.2.2).symm) fun z => R.oni j fs z.2, oin := fun j k d d' e e' => ?_, frm := fun a u f => ?_, newS := R.newS, newC := R.newC, oldC := R.oldC, n0le := R.n0le, newO := fun j d e => ?_, dom := R.dom, subS := R.subS }
  · cases w with
    | f y => cases y <;> exact z
    | _ => exact z
  · rcases slv e with ⟨_, _, q⟩ | ⟨_, q⟩
    · cases q
    · exact R.sok j w' q
  · rw [List.getElem?_set_ne (fun z => hx j b e z.symm)]; exact R.exs j b e
  · rcases slv e with ⟨q, hl, z⟩ | ⟨q, z⟩
    · cases z
    · obtain ⟨v', e1, r1⟩ := R.val j w' z
      exact ⟨v', by rw [List.getElem?_set_ne (fun z => q z.symm)]; exact e1, rw' (R.sok j w' z) r1⟩
  · rcases slv e with ⟨q, hl, z⟩ | ⟨q, z⟩
    · cases z
      subst q
      show g.S (if j = j then p else g.ro j) = none ∧ (∀ k, k < s.O.length → g.rc k ≠ (if j = j then p else g.ro j)) ∧ (σ.set j (some (.ref p)))[j]? = some (some (.ref (if j = j then p else g.ro j))) ∧ CelAt K G.C _ s.O.length H (if j = j then p else g.ro j) _
      rw [if_pos rfl]
      exact ⟨f1, f2, by rw [List.getElem?_set_self (by rw [← R.len]; exact hl)], cw f6⟩
    · show g.S (if j = i then p else g.ro j) = none ∧ (∀ k, k < s.O.length → g.rc k ≠ (if j = i then p else g.ro j)) ∧ (σ.set i (some (.ref p)))[j]? = some (some (.ref (if j = i then p else g.ro j))) ∧ CelAt K G.C _ s.O.length H (if j = i then p else g.ro j) d
      rw [if_neg q]
      obtain ⟨h1, h2, h3, h4⟩ := R.own j d z
      exact ⟨h1, h2, by rw [List.getElem?_set_ne (fun z => q z.symm)]; exact h3, cw h4⟩
  · show (if j = i then p else g.ro j) = (if k = i then p else g.ro k) → j = k
    rcases slv e with ⟨q, _, _⟩ | ⟨q, z⟩
    · rcases slv e' with ⟨q', _, _⟩ | ⟨q', z'⟩
      · intro _; rw [q, q']
      · rw [if_pos q, if_neg q']; intro h; exact absurd h.symm (f3 k d' z')
    · rcases slv e' with ⟨q', _, _⟩ | ⟨q', z'⟩
      · rw [if_neg q, if_pos q']; intro h; exact absurd h (f3 j d z)
      · rw [if_neg q, if_neg q']; exact R.oin j k d d' z z'
  · obtain ⟨h1, h2, h3, h4⟩ := R.frm a u f
    refine ⟨h1, h2, h3, fun j d e => ?_⟩
    show (if j = i then p else g.ro j) ≠ a
    rcases slv e with ⟨q, _, _⟩ | ⟨q, z⟩
    · rw [if_pos q]; exact (nf a u f).symm
    · rw [if_neg q]; exact h4 j d z
  · show G.H0 (if j = i then p else g.ro j) = none
    rcases slv e with ⟨q, _, _⟩ | ⟨q, z⟩
    · rw [if_pos q]; exact f4
    · rw [if_neg q]; exact R.newO j d z
/-- a new object in a cell -/
theorem Rl.push0 (R : Rl K G g sl s σ H) (f1 : g.S p = none) (f2 : ∀ k, k < s.O.length → g.rc k ≠ p) (f3 : ∀ (i : Nat) (d : Ct), sl[i]? = some (Sl.own d) → g.ro i ≠ p) (f4 : G.H0 p = none) (f5 : ∀ x ∈ g.La, x.1 ≠ p) (f6 : CelAt K G.C g s.O.length H p c) : Rl K G { g with rc := fun k => if k = s.O.length then p else g.rc k } sl { s with O := s.O ++ [c] } σ H ∧
    LeO g { g with rc := fun k => if k = s.O.length then p else g.rc k } s.O.length := by
  have le : LeO g { g with rc := fun k => if k = s.O.length then p else g.rc k } s.O.length := ⟨⟨Sub.rfl, fun k hk => if_neg (Nat.ne_of_lt hk), rfl⟩, fun _ => rfl⟩
  have hn : s.O.length ≤ (s.O ++ [c]).length := by simp
  have nf : ∀ a u, G.F a u → a ≠ p := fun a u f z => by have q := f.1; rw [z, f4] at q; cases q
  have kc : ∀ k, k < (s.O ++ [c]).length → (k < s.O.length ∧ (if k = s.O.length then p else g.rc k) = g.rc k) ∨ (k = s.O.length ∧ (if k = s.O.length then p else g.rc k) = p) := fun k hk => by
    by_cases e : k = s.O.length
    · exact .inr ⟨e, if_pos e⟩
    · have : k < s.O.length := by simp at hk; omega
      exact .inl ⟨this, if_neg e⟩
  refine ⟨{ see := R.see, exa := R.exa, cel := fun k d e => ?_, cin := fun j k hj hk e => ?_, lck := R.lck, lkw := paired_imp R.lkw fun w x z => ?_, lnd := R.lnd, len := R.len, sok := R.sok, exs := R.exs, val := fun j w' e => ?_, own := fun j d e => ?_, oni := R.oni, oin := R.oin, frm := fun a u f => ?_, newS := R.newS, newC := fun k h1 h2 => ?_, oldC := fun k hk => ?_, n0le := Nat.le_trans R.n0le hn, newO := R.newO, dom := R.dom, subS := R.subS }, le⟩
  · have hk := (List.getElem?_eq_some_iff.mp e).1
    rcases kc k hk with ⟨h1, h2⟩ | ⟨h1, h2⟩
    · show g.S (if k = s.O.length then p else g.rc k) = none ∧ CelAt K G.C _ (s.O ++ [c]).length H (if k = s.O.length then p else g.rc k) d
      rw [h2]
      have e : (s.O ++ [c])[k]? = some d := e
      rw [List.getElem?_append_left h1] at e
      exact ⟨(R.cel k d e).1, (R.cel k d e).2.le le.toLe hn⟩
    · show g.S (if k = s.O.length then p else g.rc k) = none ∧ CelAt K G.C _ (s.O ++ [c]).length H (if k = s.O.length then p else g.rc k) d
      rw [h2]
      have e : (s.O ++ [c])[k]? = some d := e
      rw [h1, List.getElem?_append_right (Nat.le_refl _)] at e
      simp at e
      subst e
      exact ⟨f1, f6.le le.toLe hn⟩
  · have e : (if j = s.O.length then p else g.rc j) = (if k = s.O.length then p else g.rc k) := e
    rcases kc j hj with ⟨h1, h2⟩ | ⟨h1, h2⟩ <;> rcases kc k hk with ⟨h3, h4⟩ | ⟨h3, h4⟩
    · rw [h2, h4] at e; exact R.cin j k h1 h3 e
    · rw [h2, h4] at e; exact absurd e (f2 j h1)
    · rw [h2, h4] at e; exact absurd e.symm (f2 k h3)
    · rw [h1, h3]
  · cases w with
    | f y => cases y <;> exact z
    | c k => exact ⟨Nat.lt_of_lt_of_le z.1 hn, by show (if k = s.O.length then p else g.rc k) = _; rw [if_neg (Nat.ne_of_lt z.1)]; exact z.2⟩
    | _ => exact z
  · obtain ⟨v', e1, r1⟩ := R.val j w' e
    exact ⟨v', e1, r1.le le hn⟩
  · obtain ⟨h1, h2, h3, h4⟩ := R.own j d e
    refine ⟨h1, fun k hk => ?_, h3, h4.le le.toLe hn⟩
    show (if k = s.O.length then p else g.rc k) ≠ g.ro j
    rcases kc k hk with ⟨q1, q2⟩ | ⟨q1, q2⟩
    · rw [q2]; exact h2 k q1
    · rw [q2]; exact (f3 j d e).symm
  · obtain ⟨h1, h2, h3, h4⟩ := R.frm a u f
    refine ⟨h1, h2, fun k hk => ?_, h4⟩
    show (if k = s.O.length then p else g.rc k) ≠ a
    rcases kc k hk with ⟨q1, q2⟩ | ⟨q1, q2⟩
    · rw [q2]; exact h3 k q1
    · rw [q2]; exact (nf a u f).symm
  · show G.H0 (if k = s.O.length then p else g.rc k) = none
    rcases kc k h2 with ⟨q1, q2⟩ | ⟨q1, q2⟩
    · rw [q2]; exact R.newC k h1 q1
    · rw [q2]; exact f4
  · show (if k = s.O.length then p else g.rc k) = _
    rw [if_neg (Nat.ne_of_lt (Nat.lt_of_lt_of_le hk R.n0le))]; exact R.oldC k hk
theorem Rl.push (R : Rl K G g sl s σ H) (f : FrAt K G g sl s H p c) : Rl K G { g with rc := fun k => if k = s.O.length then p else g.rc k } sl { s with O := s.O ++ [c] } σ H ∧
    LeO g { g with rc := fun k => if k = s.O.length then p else g.rc k } s.O.length := R.push0 f.1 f.2.1 f.2.2.1 f.2.2.2.1 f.2.2.2.2.1 f.2.2.2.2.2.1
end

/-! ### what a statement lets follow -/
def OkS (K : PySem.W.Frag) (G : Gc) (g : Gh) (s : Sto) (D : Ends) : RS → Prop
  | .nx sl' s' => ∀ g' σ' H', Le g g' s.O.length → s.O.length ≤ s'.O.length → Rl K G g' sl' s' σ' H' → D.nx σ' H'
  | .rt y s' => ∀ v g' sl' σ' H', Le g g' s.O.length → s.O.length ≤ s'.O.length → Rl K G g' sl' s' σ' H' → RepY K G g' sl' s' H' y v → D.rt v H'
  | .bk sl' s' => ∀ g' σ' H', Le g g' s.O.length → s.O.length ≤ s'.O.length → Rl K G g' sl' s' σ' H' → D.bk σ' H'
  | .ct sl' s' => ∀ g' σ' H', Le g g' s.O.length → s.O.length ≤ s'.O.length → Rl K G g' sl' s' σ' H' → D.ct σ' H'
  | .exc c sl' s' => ∀ g' σ' H', Le g g' s.O.length → s.O.length ≤ s'.O.length → Rl K G g' sl' s' σ' H' → G.W (.ref (G.cls c)) none σ' H'
  | .bad => False
def tDS (K : PySem.W.Frag) (G : Gc) (m : MS) : TS := fun D σ H => ∃ g sl s, Rl K G g sl s σ H ∧ OkS K G g s D (m sl s)
abbrev DS (X : Cx) (G : Gc) (st : Stmt) (m : MS) : Prop := PS X st (tDS X.K G m)
abbrev DSs (X : Cx) (G : Gc) (st : List Stmt) (m : MS) : Prop := PSs X st (tDS X.K G m)
theorem _root_.L2.PS.wk {X : Cx} {e : Stmt} {t t' : TS} (h : PS X e t) (k : ∀ D σ H, t' D σ H → t D σ H) : PS X e t' := ⟨fun pins s σ H D I q => h.run pins s σ H D I (k D σ H q)⟩
theorem _root_.L2.PSs.wk {X : Cx} {e : List Stmt} {t t' : TS} (h : PSs X e t) (k : ∀ D σ H, t' D σ H → t D σ H) : PSs X e t' := ⟨fun pins s σ H D I q => h.run pins s σ H D I (k D σ H q)⟩
section
variable {K : PySem.W.Frag} {G : Gc} {g g1 : Gh} {sl : List Sl} {s s1 : Sto} {σ : St} {H : Hp} {D : Ends}
theorem OkS.back {r : RS} (h : OkS K G g s D r) (l : Le g g1 s.O.length) (hn : s.O.length ≤ s1.O.length) : OkS K G g1 s1 D r := by
  cases r with
  | nx sl s' => exact fun g' σ' H' a b c => h g' σ' H' (l.trans a hn) (Nat.le_trans hn b) c
  | rt y s' => exact fun v g' sl' σ' H' a b c d => h v g' sl' σ' H' (l.trans a hn) (Nat.le_trans hn b) c d
  | bk sl s' => exact fun g' σ' H' a b c => h g' σ' H' (l.trans a hn) (Nat.le_trans hn b) c
  | ct sl s' => exact fun g' σ' H' a b c => h g' σ' H' (l.trans a hn) (Nat.le_trans hn b) c
  | exc c sl s' => exact fun g' σ' H' a b c => h g' σ' H' (l.trans a hn) (Nat.le_trans hn b) c
  | bad => exact h
/-- an expression in a statement -/
theorem tD.st {m : M} {k : Y → Sto → RS} (R : Rl K G g sl s σ H) (h : OkS K G g s D ((m sl s).st sl k)) {P : VK}
    (hk : ∀ v y g' s' H', LeO g g' s.O.length → s.O.length ≤ s'.O.length → Rl K G g' sl s' σ H' → RepY K G g' sl s' H' y v → OkS K G g' s' D (k y s') → P v H') : tD K G m σ H P := by
  refine ⟨g, sl, s, R, ?_⟩
  cases e : m sl s with
  | bad => rw [e] at h; exact h
  | exc c s' => rw [e] at h; exact fun g' H' a b c => h g' σ H' a.toLe b c
  | ok y s' =>
    rw [e] at h
    intro v g' H' l hn R' r
    exact hk v y g' s' H' l hn R' r (OkS.back h l.toLe hn)
end
section
variable {X : Cx} {G : Gc} {st : Stmt} {rest : List Stmt} {m m1 m2 : MS} {e : Expr} {me : M} {pos : Pos}
theorem dss_nil : DSs X G [] sSkip := pss_nil.wk fun D σ H ⟨g, sl, s, R, h⟩ => h g σ H .rfl (Nat.le_refl _) R
theorem dss_cons (h1 : DS X G st m1) (h2 : DSs X G rest m2) : DSs X G (st :: rest) (sSeq m1 m2) :=
  (pss_cons h1 h2).wk fun D σ H ⟨g, sl, s, R, h⟩ => by
    refine ⟨g, sl, s, R, ?_⟩
    simp only [sSeq] at h
    cases e : m1 sl s with
    | nx sl1 s1 =>
      rw [e] at h
      intro g1 σ1 H1 l n R1
      exact ⟨g1, sl1, s1, R1, OkS.back h l n⟩
    | rt y s' => rw [e] at h; exact h
    | bk sl s' => rw [e] at h; exact h
    | ct sl s' => rw [e] at h; exact h
    | exc c sl s' => rw [e] at h; exact h
    | bad => rw [e] at h; exact h
theorem dss_one (h1 : DS X G st m1) : DSs X G [st] m1 := pss_one h1
theorem ds_pass : DS X G (.Pass pos) sSkip := ps_pass.wk fun D σ H ⟨g, sl, s, R, h⟩ => h g σ H .rfl (Nat.le_refl _) R
theorem ds_doc {x : Str} {j : Nat} {p2 : Pos} : DS X G (.Expr (.Constant (.str x) j p2) pos) sSkip := ps_doc.wk fun D σ H ⟨g, sl, s, R, h⟩ => h g σ H .rfl (Nat.le_refl _) R
theorem ds_if {c : Expr} {a b : List Stmt} {mc : M} (hc : DT X G c mc) (ha : DSs X G a m1) (hb : DSs X G b m2) : DS X G (.If c a b pos) (sIf mc m1 m2) :=
  (ps_if hc ha hb).wk fun D σ H ⟨g, sl, s, R, h⟩ => by
    refine ⟨g, sl, s, R, ?_⟩
    simp only [sIf] at h
    cases e : mc sl s with
    | bad => rw [e] at h; exact h
    | exc c s' => rw [e] at h; exact fun g' H' a b c => h g' σ H' a.toLe b c
    | ok y s' =>
      rw [e] at h
      simp only [Fm.R.st_ok] at h
      split at h
      · intro g' H' l hn R'; exact iteT ⟨g', sl, s', R', OkS.back h l.toLe hn⟩
      · intro g' H' l hn R'; exact iteF ⟨g', sl, s', R', OkS.back h l.toLe hn⟩
      · exact h.elim
theorem ds_set (i : Nat) {x : Str} {p2 : Pos} (hN : X.N.Nodup) (hi : X.N[i]? = some x) (hx : Loc X.env.scope x) (hxs : G.fr i) (he : DE X G e me) (hf : X.fn x = true ∨ X.env.scope.names.lookup x = some .local := by first | exact .inl rfl | exact .inr rfl) (hs : swapsWith e (some (.Name x p2)) pos.line X.env = pure false := by rfl) : DS X G (.Assign [.Name x p2] e pos) (sSet i me) :=
  (ps_asg he (pg_name hN hi hx hf) hs).wk fun D σ H ⟨g, sl, s, R, h⟩ => tD.st R h fun v y g1 s1 H1 l1 n1 R1 r1 h1 => by
    obtain ⟨g2, l2, R2, r2⟩ := R1.freeze r1
    split at h1
    · rename_i hw
      exact h1 g2 _ H1 l2.toLe (Nat.le_refl _) (R2.setV r2 hw hxs)
    · exact h1.elim
theorem ds_own (i : Nat) {x : Str} {p2 : Pos} (hN : X.N.Nodup) (hi : X.N[i]? = some x) (hx : Loc X.env.scope x) (hxs : G.fr i) (he : DE X G e me) (hf : X.fn x = true ∨ X.env.scope.names.lookup x = some .local := by first | exact .inl rfl | exact .inr rfl) (hs : swapsWith e (some (.Name x p2)) pos.line X.env = pure false := by rfl) : DS X G (.Assign [.Name x p2] e pos) (sOwn i me) :=
  (ps_asg he (pg_name hN hi hx hf) hs).wk fun D σ H ⟨g, sl, s, R, h⟩ => tD.st R h fun v y g1 s1 H1 l1 n1 R1 r1 h1 => by
    split at h1
    · obtain ⟨p, rfl, f⟩ := r1
      exact h1 { g1 with ro := fun j => if j = i then p else g1.ro j } _ H1 ⟨Sub.rfl, fun _ _ => rfl, rfl⟩ (Nat.le_refl _) (R1.setO f hxs)
    · exact h1.elim
theorem ds_cel (i : Nat) {x : Str} {p2 : Pos} (hN : X.N.Nodup) (hi : X.N[i]? = some x) (hx : Loc X.env.scope x) (hxs : G.fr i) (he : DE X G e me) (hf : X.fn x = true ∨ X.env.scope.names.lookup x = some .local := by first | exact .inl rfl | exact .inr rfl) (hs : swapsWith e (some (.Name x p2)) pos.line X.env = pure false := by rfl) : DS X G (.Assign [.Name x p2] e pos) (sCel i me) :=
  (ps_asg he (pg_name hN hi hx hf) hs).wk fun D σ H ⟨g, sl, s, R, h⟩ => tD.st R h fun v y g1 s1 H1 l1 n1 R1 r1 h1 => by
    split at h1
    · obtain ⟨p, rfl, f⟩ := r1
      obtain ⟨R2, l2⟩ := R1.push f
      refine h1 _ _ H1 l2.toLe (by simp) (R2.setV (w := .c s1.O.length) ⟨by simp, ?_⟩ rfl hxs)
      show V.ref p = .ref (if s1.O.length = s1.O.length then p else g1.rc s1.O.length)
      rw [if_pos rfl]
    · exact h1.elim
theorem ds_exp (he : DE X G e me) (hs : swapsWith e none pos.line X.env = pure false := by rfl) : DS X G (.Expr e pos) (sExp me) :=
  (ps_expr he hs).wk fun D σ H ⟨g, sl, s, R, h⟩ => tD.st R h fun v y g1 s1 H1 l1 n1 R1 r1 h1 => h1 g1 σ H1 .rfl (Nat.le_refl _) R1
theorem ds_ret (hxs : G.xs = none) (he : DE X G e me) : DS X G (.Return (some e) pos) (sRet me) :=
  (ps_ret he).wk fun D σ H ⟨g, sl, s, R, h⟩ => tD.st R h fun v y g1 s1 H1 l1 n1 R1 r1 h1 => by
    split at h1
    · rename_i y' e'
      unfold retY at e'
      split at e'
      · rename_i i
        split at e'
        · rename_i c ec
          cases e'
          have r1 : v = .ref (g1.ro i) := r1
          subst r1
          have hc : ∀ fs, c ≠ .ins fs := fun fs z => by subst z; exact absurd ec (R1.oni i fs)
          exact h1 _ g1 (sl.set i Sl.no) (σ.set i none) H1 .rfl (Nat.le_refl _) (R1.setNo (Gc.fr_of hxs)) ⟨_, rfl, R1.giveUp ec hc⟩
        · cases e'
      · cases e'
        exact h1 v g1 sl σ H1 .rfl (Nat.le_refl _) R1 r1
    · exact h1.elim
/-- .. within an except suite -/
@[simp] def sRetX (m : M) : MS := fun sl s => (m sl s).st sl fun y s1 => match y with
  | .w (.o _) => .bad
  | y => .rt y s1
theorem ds_retX (he : DE X G e me) : DS X G (.Return (some e) pos) (sRetX me) :=
  (ps_ret he).wk fun D σ H ⟨g, sl, s, R, h⟩ => tD.st R h fun v y g1 s1 H1 l1 n1 R1 r1 h1 => by
    split at h1
    · exact h1.elim
    · exact h1 v g1 sl σ H1 .rfl (Nat.le_refl _) R1 r1
end
end Fm

/-! FF: what is walked; for; while. -/
namespace Fm
open PySem L2
/-- the later state still sees what g saw -/
def Ex (g g2 : Gh) (H : Hp) : Prop := Sub g.S g2.S ∧ Lk g2.S H ∧ g2.La = g.La ∧ ∀ x ∈ g.La, H x.1 = some (.frz x.2.1 x.2.2)
structure ItOk (K : PySem.W.Frag) (g : Gh) (items : List F) (J : It) : Prop where
  go : ∀ i g2 H, i < items.length → Ex g g2 H → J.go i H
  yld : ∀ i g2 H x H', i < items.length → Ex g g2 H → J.yld i H x H' → H' = H ∧ ∃ y, items[i]? = some y ∧ Rep K g.S y x
  stop : ∀ g2 H, Ex g g2 H → J.stop items.length H
def OkI (K : PySem.W.Frag) (G : Gc) (g : Gh) (sl : List Sl) (s : Sto) (σ : St) (Q : It → Hp → Prop) : R (List F) → Prop
  | .ok xs s' => ∀ J g' H', LeO g g' s.O.length → s.O.length ≤ s'.O.length → Rl K G g' sl s' σ H' → ItOk K g' xs J → Q J H'
  | .exc c s' => ∀ g' H', LeO g g' s.O.length → s.O.length ≤ s'.O.length → Rl K G g' sl s' σ H' → G.W (.ref (G.cls c)) none σ H'
  | .bad => False
def tDI (K : PySem.W.Frag) (G : Gc) (m : MI) : TI := fun σ H Q => ∃ g sl s, Rl K G g sl s σ H ∧ OkI K G g sl s σ Q (m sl s)
abbrev DI (X : Cx) (G : Gc) (tg e : Expr) (m : MI) : Prop := PI X tg e (tDI X.K G m)
theorem _root_.L2.PI.wk {X : Cx} {tg e : Expr} {t t' : TI} (h : PI X tg e t) (k : ∀ σ H Q, t' σ H Q → t σ H Q) : PI X tg e t' := ⟨fun pins s σ H Q I q => h.run pins s σ H Q I (k σ H Q q)⟩
theorem Rl.ex {K : PySem.W.Frag} {G : Gc} {g g' : Gh} {n : Nat} {sl : List Sl} {s : Sto} {σ : St} {H : Hp} (R : Rl K G g' sl s σ H) (l : Le g g' n) : Ex g g' H :=
  ⟨l.sub, R.see, l.la, fun x hx => R.lck x (by rw [l.la]; exact hx)⟩
section
variable {K : PySem.W.Frag} {G : Gc} {g g1 : Gh} {sl : List Sl} {s s1 : Sto} {σ : St} {H : Hp} {Q : It → Hp → Prop}
theorem OkI.back {r : R (List F)} (h : OkI K G g sl s σ Q r) (l : LeO g g1 s.O.length) (hn : s.O.length ≤ s1.O.length) : OkI K G g1 sl s1 σ Q r := by
  cases r with
  | ok y s' => exact fun v g' H' a b c d => h v g' H' (l.trans a hn) (Nat.le_trans hn b) c d
  | exc c s' => exact fun g' H' a b c => h g' H' (l.trans a hn) (Nat.le_trans hn b) c
  | bad => exact h
theorem tD.it {m : M} {k : Y → Sto → R (List F)} (R : Rl K G g sl s σ H) (h : OkI K G g sl s σ Q ((m sl s).bind k)) {P : VK}
    (hk : ∀ v y g' s' H', LeO g g' s.O.length → s.O.length ≤ s'.O.length → Rl K G g' sl s' σ H' → RepY K G g' sl s' H' y v → OkI K G g' sl s' σ Q (k y s') → P v H') : tD K G m σ H P := by
  refine ⟨g, sl, s, R, ?_⟩
  cases e : m sl s with
  | bad => rw [e] at h; exact h
  | exc c s' => rw [e] at h; exact h
  | ok y s' =>
    rw [e] at h
    intro v g' H' l hn R' r
    exact hk v y g' s' H' l hn R' r (OkI.back h l hn)
end
theorem rgF_length (a c : Int) (n : Nat) : (rgF a c n).length = n := by simp [rgF]
theorem rgF_get (a c : Int) (n i : Nat) (h : i < n) : (rgF a c n)[i]? = some (F.int (a + (i : Int) * c)) := by simp [rgF, h]
section
variable {X : Cx} {G : Gc} {tg e a b : Expr} {me ma mb : M} {pos p : Pos}
theorem di_list (he : DE X G e me) : DI X G tg e (iL me) :=
  (pi_list he).wk fun σ H Q ⟨g, sl, s, R, h⟩ => tD.it R h fun v y g1 s1 H1 l1 n1 R1 r1 h1 => by
    obtain ⟨g2, l2, R2, r2⟩ := R1.freeze r1
    split at h1
    · rename_i xs e
      rw [e] at r2
      simp only [RepW, Rep] at r2
      obtain ⟨d, vs, rfl, hs, hr⟩ := r2
      have sq : ∀ g3 H3, Ex g2 g3 H3 → SqL X.K H3 d vs := fun g3 H3 ex => .inl (.inl (ex.2.1 _ _ (ex.1 _ _ hs)))
      refine ⟨d, rfl, ⟨vs, .inl (.inl (R2.see _ _ hs))⟩, h1 _ g2 H1 l2 (Nat.le_refl _) R2 ⟨fun i g3 H3 hi ex => ?_, fun i g3 H3 x H' hi ex y => ?_, fun g3 H3 ex => ?_⟩⟩
      · obtain ⟨z, hz⟩ : ∃ z, vs[i]? = some z := ⟨_, List.getElem?_eq_getElem (by rw [← hr.length]; exact hi)⟩
        exact ⟨vs, z, sq _ _ ex, hz⟩
      · obtain ⟨y1, y2⟩ := y
        have e2 := y2 vs (sq _ _ ex)
        exact ⟨y1, hr.get' e2⟩
      · exact ⟨vs, sq _ _ ex, Nat.le_of_eq hr.length.symm⟩
    · exact h1.elim
theorem di_tup (he : DE X G e me) : DI X G tg e (iT me) :=
  (pi_tup he).wk fun σ H Q ⟨g, sl, s, R, h⟩ => tD.it R h fun v y g1 s1 H1 l1 n1 R1 r1 h1 => by
    obtain ⟨g2, l2, R2, r2⟩ := R1.freeze r1
    split at h1
    · rename_i xs e
      rw [e] at r2
      simp only [RepW, Rep] at r2
      obtain ⟨d, vs, rfl, hs, hr⟩ := r2
      have sq : ∀ g3 H3, Ex g2 g3 H3 → SqT X.K H3 d vs := fun g3 H3 ex => .of (ex.2.1 _ _ (ex.1 _ _ hs))
      refine ⟨d, rfl, ⟨vs, .of (R2.see _ _ hs)⟩, h1 _ g2 H1 l2 (Nat.le_refl _) R2 ⟨fun i g3 H3 hi ex => ?_, fun i g3 H3 x H' hi ex y => ?_, fun g3 H3 ex => ?_⟩⟩
      · obtain ⟨z, hz⟩ : ∃ z, vs[i]? = some z := ⟨_, List.getElem?_eq_getElem (by rw [← hr.length]; exact hi)⟩
        exact ⟨vs, z, sq _ _ ex, hz⟩
      · obtain ⟨y1, y2⟩ := y
        exact ⟨y1, hr.get' (y2 vs (sq _ _ ex))⟩
      · exact ⟨vs, sq _ _ ex, Nat.le_of_eq hr.length.symm⟩
    · exact h1.elim
theorem di_str (he : DE X G e me) : DI X G tg e (iS me) :=
  (pi_str he).wk fun σ H Q ⟨g, sl, s, R, h⟩ => tD.it R h fun v y g1 s1 H1 l1 n1 R1 r1 h1 => by
    obtain ⟨g2, l2, R2, r2⟩ := R1.freeze r1
    split at h1
    · rename_i x e
      rw [e] at r2
      simp only [RepW, Rep] at r2
      subst r2
      have hl : (signs x).length = x.cps.size := by simp [signs]
      refine ⟨x, rfl, h1 _ g2 H1 l2 (Nat.le_refl _) R2 ⟨fun i g3 H3 hi ex => ?_, fun i g3 H3 z H' hi ex y => ?_, fun g3 H3 ex => ?_⟩⟩
      · exact (by rw [← hl]; exact hi : i < x.cps.size)
      · obtain ⟨y1, c, hc, rfl⟩ := y
        refine ⟨y1, F.str ⟨#[c]⟩, ?_, by simp only [Rep]⟩
        simp [signs, hc]
      · exact (Nat.le_of_eq hl.symm : x.cps.size ≤ (signs x).length)
    · exact h1.elim
theorem itr_ok {K : PySem.W.Frag} {g : Gh} (a : Int) (n : Nat) : ItOk K g (rgF a 1 n) (Itr a n) := by
  refine ⟨fun i g3 H3 hi ex => ?_, fun i g3 H3 z H' hi ex y => ?_, fun g3 H3 ex => ?_⟩
  · rw [rgF_length] at hi; exact hi
  · rw [rgF_length] at hi
    obtain ⟨y1, rfl⟩ := y
    exact ⟨y1, _, rgF_get a 1 n i hi, by simp only [Rep, Int.mul_one]⟩
  · exact (Nat.le_of_eq (rgF_length a 1 n).symm : n ≤ _)
theorem itc_ok {K : PySem.W.Frag} {g : Gh} (a c : Int) (n : Nat) : ItOk K g (rgF a c n) (Itc a c n) := by
  refine ⟨fun i g3 H3 hi ex => ?_, fun i g3 H3 z H' hi ex y => ?_, fun g3 H3 ex => ?_⟩
  · rw [rgF_length] at hi; exact hi
  · rw [rgF_length] at hi
    obtain ⟨y1, rfl⟩ := y
    exact ⟨y1, _, rgF_get a c n i hi, by simp only [Rep]⟩
  · exact (Nat.le_of_eq (rgF_length a c n).symm : n ≤ _)
theorem inB_of {i : Int} (h : inB i = true) : -(2 ^ 62) ≤ i ∧ i < 2 ^ 62 := by
  have e : (2 : Int) ^ 62 = 4611686018427387904 := by decide
  have h : i.natAbs < 4611686018427387904 := of_decide_eq_true h
  rw [e]
  omega
theorem int_of {K : PySem.W.Frag} {g : Gh} {n : Nat} {i : Int} {v : V} (r : RepW K g n (.f (.int i)) v) : v = .int i := by simpa only [RepW, Rep] using r
theorem di_range1 (hg : Gl X "range") (hm : X.mg "range" = none) (ha : DE X G a ma) (hs : starEach [a] X.env = [(false, eval a X.env)] := by rfl) : DI X G tg (.Call (.Name "range" p) [a] [] pos) (iR1 ma) :=
  (pi_range1 hg hm (pa_cons ha pa_nil (by rw [hs]; rfl)) hs).wk fun σ H Q ⟨g, sl, s, R, h⟩ => tD.it R h fun v y g1 s1 H1 l1 n1 R1 r1 h1 => by
    obtain ⟨g2, l2, R2, r2⟩ := R1.freeze r1
    split at h1
    · rename_i j e
      rw [e] at r2
      rw [int_of r2]
      split at h1
      · rename_i hb
        exact ⟨j, rfl, (inB_of hb).1, (inB_of hb).2, h1 _ g2 H1 l2 (Nat.le_refl _) R2 (itr_ok 0 _)⟩
      · exact h1.elim
    · exact h1.elim
theorem it2 {K : PySem.W.Frag} {g : Gh} {sl : List Sl} {s : Sto} {σ : St} {H : Hp} {Q : It → Hp → Prop} {k : W → W → Sto → R (List F)} (R : Rl K G g sl s σ H) (h : OkI K G g sl s σ Q ((ma sl s).bind fun y s1 => (mb sl s1).bind fun z s2 => k (frz y) (frz z) s2)) {P : V → V → Hp → Prop}
    (hk : ∀ v u w w2 g' s' H', Rl K G g' sl s' σ H' → RepW K g' s'.O.length w v → RepW K g' s'.O.length w2 u → OkI K G g' sl s' σ Q (k w w2 s') → P v u H') : tD K G ma σ H fun v H1 => tD K G mb σ H1 fun u H2 => P v u H2 :=
  tD.it R h fun v y g1 s1 H1 l1 n1 R1 r1 h1 => by
    obtain ⟨g2, l2, R2, r2⟩ := R1.freeze r1
    refine tD.it R2 (OkI.back h1 l2 (Nat.le_refl _)) fun u z g3 s3 H3 l3 n3 R3 r3 h3 => ?_
    obtain ⟨g4, l4, R4, r4⟩ := R3.freeze r3
    exact hk v u _ _ g4 s3 H3 R4 (r2.le (l3.trans l4 n3) n3) r4 (OkI.back h3 l4 (Nat.le_refl _))
theorem di_range2 (hg : Gl X "range") (hm : X.mg "range" = none) (ha : DE X G a ma) (hb : DE X G b mb) (hs : starEach [a, b] X.env = [(false, eval a X.env), (false, eval b X.env)] := by rfl) (hs2 : starEach [b] X.env = [(false, eval b X.env)] := by rfl) :
    DI X G tg (.Call (.Name "range" p) [a, b] [] pos) (iR2 ma mb) :=
  (pi_range2 hg hm (pa_cons ha (pa_cons hb pa_nil (by rw [hs2]; rfl)) (by rw [hs, hs2])) hs hs2).wk fun σ H Q ⟨g, sl, s, R, h⟩ =>
    it2 (k := fun w w2 s2 => match w, w2 with
      | .f (.int i), .f (.int j) => if inB i && inB j then .ok (rgF i 1 (j - i).toNat) s2 else .bad
      | _, _ => .bad) R h fun v u w w2 g1 s1 H1 R1 r1 r2 h1 => by
    split at h1
    · rename_i i j
      rw [int_of r1, int_of r2]
      split at h1
      · rename_i hb
        simp only [Bool.and_eq_true] at hb
        exact ⟨i, j, rfl, ⟨(inB_of hb.1).1, (inB_of hb.1).2, (inB_of hb.2).1, (inB_of hb.2).2⟩, h1 _ g1 H1 .rfl (Nat.le_refl _) R1 (itr_ok i _)⟩
      · exact h1.elim
    · exact h1.elim
theorem it3 {K : PySem.W.Frag} {g : Gh} {sl : List Sl} {s : Sto} {σ : St} {H : Hp} {Q : It → Hp → Prop} {mc : M} {k : W → W → W → Sto → R (List F)} (R : Rl K G g sl s σ H) (h : OkI K G g sl s σ Q ((ma sl s).bind fun y s1 => (mb sl s1).bind fun z s2 => (mc sl s2).bind fun u s3 => k (frz y) (frz z) (frz u) s3)) {P : V → V → V → Hp → Prop}
    (hk : ∀ v u x w w2 w3 g' s' H', Rl K G g' sl s' σ H' → RepW K g' s'.O.length w v → RepW K g' s'.O.length w2 u → RepW K g' s'.O.length w3 x → OkI K G g' sl s' σ Q (k w w2 w3 s') → P v u x H') : tD K G ma σ H fun v H1 => tD K G mb σ H1 fun u H2 => tD K G mc σ H2 fun x H3 => P v u x H3 :=
  tD.it R h fun v y g1 s1 H1 l1 n1 R1 r1 h1 => by
    obtain ⟨g2, l2, R2, r2⟩ := R1.freeze r1
    refine tD.it R2 (OkI.back h1 l2 (Nat.le_refl _)) fun u z g3 s3 H3 l3 n3 R3 r3 h3 => ?_
    obtain ⟨g4, l4, R4, r4⟩ := R3.freeze r3
    refine tD.it R4 (OkI.back h3 l4 (Nat.le_refl _)) fun x t g5 s5 H5 l5 n5 R5 r5 h5 => ?_
    obtain ⟨g6, l6, R6, r6⟩ := R5.freeze r5
    exact hk v u x _ _ _ g6 s5 H5 R6 (r2.le (l3.trans (l4.trans (l5.trans l6 n5) (Nat.le_refl _)) n3) (Nat.le_trans n3 n5)) (r4.le (l5.trans l6 n5) n5) r6 (OkI.back h5 l6 (Nat.le_refl _))
theorem di_range3 {c : Expr} {mc : M} (hg : Gl X "range") (hm : X.mg "range" = none) (ha : DE X G a ma) (hb : DE X G b mb) (hc : DE X G c mc)
    (hs : starEach [a, b, c] X.env = (false, eval a X.env) :: starEach [b, c] X.env := by rfl) (hs2 : starEach [b, c] X.env = (false, eval b X.env) :: starEach [c] X.env := by rfl) (hs3 : starEach [c] X.env = (false, eval c X.env) :: starEach [] X.env := by rfl) (hpl : (backTo pos (starEach [b, c] X.env)).any (·.1) = false := by rfl) :
    DI X G tg (.Call (.Name "range" p) [a, b, c] [] pos) (iR3 ma mb mc) :=
  (pi_range3 hg hm (pa_cons ha (pa_cons hb (pa_cons hc pa_nil hs3) hs2) hs) hs hpl).wk fun σ H Q ⟨g, sl, s, R, h⟩ =>
    it3 (k := fun w w2 w3 s3 => match w, w2, w3 with
      | .f (.int i), .f (.int j), .f (.int c) => if c ≠ 0 ∧ c.natAbs < 1073741824 ∧ Builtin.Range.small i j c = true ∧ 0 ≤ Builtin.Range.rangeSize i j c then .ok (rgF i c (Builtin.Range.rangeSize i j c).toNat) s3 else .bad
      | _, _, _ => .bad) R h fun v u x w w2 w3 g1 s1 H1 R1 r1 r2 r3 h1 => by
    split at h1
    · rename_i i j c
      rw [int_of r1, int_of r2, int_of r3]
      split at h1
      · rename_i hb
        obtain ⟨q1, q2, q3, q4⟩ := hb
        exact ⟨i, j, c, _, rfl, ⟨q1, q2, q3, (Int.toNat_of_nonneg q4).symm⟩, h1 _ g1 H1 .rfl (Nat.le_refl _) R1 (itc_ok i c _)⟩
      · exact h1.elim
    · exact h1.elim
end
/-! ### for -/
/-- where a turn of a loop may end -/
theorem turn_ok {K : PySem.W.Frag} {G : Gc} {g : Gh} {s : Sto} {D : Ends} {i : Nat} {body : MS} {x : F} {xs : List F} {P : St → Hp → Prop} {sl : List Sl} (h : OkS K G g s D (loopF i body (x :: xs) sl s))
    (hp : ∀ g' sl' s' σ' H', Le g g' s.O.length → s.O.length ≤ s'.O.length → Rl K G g' sl' s' σ' H' → OkS K G g' s' D (loopF i body xs sl' s') → P σ' H') :
    OkS K G g s { D with nx := P, ct := P, bk := D.nx } (body (sl.set i (Sl.v (.f x))) s) := by
  simp only [loopF] at h
  cases e : body (sl.set i (Sl.v (.f x))) s with
  | nx sl1 s1 => rw [e] at h; exact fun g' σ' H' a b c => hp g' sl1 s1 σ' H' a b c (OkS.back h a b)
  | ct sl1 s1 => rw [e] at h; exact fun g' σ' H' a b c => hp g' sl1 s1 σ' H' a b c (OkS.back h a b)
  | bk sl1 s1 => rw [e] at h; exact h
  | rt y s1 => rw [e] at h; exact h
  | exc c sl1 s1 => rw [e] at h; exact h
  | bad => rw [e] at h; exact h
theorem drop_get {α : Type} {xs : List α} {i : Nat} {x : α} (h : xs[i]? = some x) : xs.drop i = x :: xs.drop (i + 1) := by
  obtain ⟨h1, h2⟩ := List.getElem?_eq_some_iff.mp h
  rw [List.drop_eq_getElem_cons h1, h2]
/-- the loop over any source -/
theorem for_any {K : PySem.W.Frag} {G : Gc} {g : Gh} {sl : List Sl} {s : Sto} {σ : St} {H : Hp} {D : Ends} {i : Nat} {body : MS} {items : List F} {J : It} (hx : G.fr i) (R : Rl K G g sl s σ H) (ok : ItOk K g items J) (h : OkS K G g s D (loopF i body items sl s)) :
    ∃ W : Nat → Nat → St → Hp → Prop, (∃ m, W 0 m σ H) ∧ ∀ n m σ H, W n m σ H → (J.stop n H ∧ D.nx σ H) ∨ (J.go n H ∧ ∃ N : St → Hp → Prop, (∀ σ' H', N σ' H' → ∃ m', m' < m ∧ W (n + 1) m' σ' H') ∧
      ∀ x H', J.yld n H x H' → gName i x σ H' fun σ2 H2 => tDS K G body { D with nx := N, ct := N, bk := D.nx } σ2 H2) := by
  refine ⟨fun n m σ H => m = items.length - n ∧ n ≤ items.length ∧ ∃ g' sl' s', Le g g' s.O.length ∧ s.O.length ≤ s'.O.length ∧ Rl K G g' sl' s' σ H ∧ OkS K G g' s' D (loopF i body (items.drop n) sl' s'), ⟨items.length, by simp, Nat.zero_le _, g, sl, s, .rfl, Nat.le_refl _, R, by simpa using h⟩, ?_⟩
  rintro n m σ H ⟨rfl, hn, g1, sl1, s1, l1, n1, R1, h1⟩
  have ex := R1.ex l1
  by_cases hlt : n < items.length
  · refine .inr ⟨ok.go n g1 H hlt ex, fun σ' H' => n + 1 ≤ items.length ∧ ∃ g' sl' s', Le g g' s.O.length ∧ s.O.length ≤ s'.O.length ∧ Rl K G g' sl' s' σ' H' ∧ OkS K G g' s' D (loopF i body (items.drop (n + 1)) sl' s'), fun σ' H' z => ⟨items.length - (n + 1), by omega, rfl, z.1, z.2⟩, fun x H' y => ?_⟩
    obtain ⟨rfl, y, hy, ry⟩ := ok.yld n g1 H x H' hlt ex y
    rw [drop_get hy] at h1
    refine ⟨g1, sl1.set i (Sl.v (.f y)), s1, R1.setV (w := .f y) (Rep.sub l1.sub _ _ ry) rfl hx, turn_ok h1 fun g' sl' s' σ' H' a b c d => ⟨hlt, g', sl', s', l1.trans a n1, Nat.le_trans n1 b, c, d⟩⟩
  · have e : n = items.length := by omega
    subst e
    rw [List.drop_length] at h1
    exact .inl ⟨ok.stop g1 H ex, h1 g1 σ H .rfl (Nat.le_refl _) R1⟩
section
variable {X : Cx} {G : Gc} {tg e a b : Expr} {pos p : Pos} {it : MI} {mb : MS} {body : List Stmt}
theorem ds_for (i : Nat) {x : Str} (hN : X.N.Nodup) (hi : X.N[i]? = some x) (hx : Loc X.env.scope x) (hxs : G.fr i) (hp : PassesOwn (model X.prog X.w) X.A X.env X.xe) (hc : X.calm = true) (hit : DI X G (.Name x p) e it) (hb : DSs X G body mb)
    (hf : X.fn x = true ∨ X.env.scope.names.lookup x = some .local := by first | exact .inl rfl | exact .inr rfl) (hs : ∀ x, foldedSetIterable e X.env x = pure x := by intro _; rfl) : DS X G (.For (.Name x p) e body [] pos) (sFor i it mb) :=
  (ps_for hp hc hit (pg_name hN hi hx hf) hb hs).wk fun D σ H ⟨g, sl, s, R, h⟩ => by
    refine ⟨g, sl, s, R, ?_⟩
    simp only [sFor] at h
    cases e : it sl s with
    | bad => rw [e] at h; exact h
    | exc c s' => rw [e] at h; exact fun g' H' a b c => h g' σ H' a.toLe b c
    | ok items s' =>
      rw [e] at h
      intro J g' H' l hn R' ok
      exact for_any hxs R' ok (OkS.back h l.toLe hn)
/-! ### while -/
theorem ds_while (n : Nat) {c : Expr} {mt : M} (hp : PassesOwn (model X.prog X.w) X.A X.env X.xe) (hc : DT X G c mt) (hb : DSs X G body mb) : DS X G (.While c body [] pos) (sWhile mt mb n) :=
  (ps_while hp hc hb).wk fun D σ H ⟨g, sl, s, R, h⟩ => by
    refine ⟨fun m σ H => ∃ g' sl' s', Le g g' s.O.length ∧ s.O.length ≤ s'.O.length ∧ Rl X.K G g' sl' s' σ H ∧ OkS X.K G g' s' D (sWhile mt mb m sl' s'), ⟨n, g, sl, s, .rfl, Nat.le_refl _, R, h⟩, ?_⟩
    rintro m σ H ⟨g1, sl1, s1, l1, n1, R1, h1⟩
    cases m with
    | zero => exact h1.elim
    | succ m =>
      refine ⟨g1, sl1, s1, R1, ?_⟩
      simp only [sWhile] at h1
      cases e : mt sl1 s1 with
      | bad => rw [e] at h1; exact h1
      | exc c s' => rw [e] at h1; exact fun g' H' a b c => h1 g' σ H' a.toLe b c
      | ok y s2 =>
        rw [e] at h1
        simp only [Fm.R.st_ok] at h1
        split at h1
        · intro g2 H2 l2 n2 R2
          refine iteT ⟨fun σ' H' => ∃ g' sl' s', Le g g' s.O.length ∧ s.O.length ≤ s'.O.length ∧ Rl X.K G g' sl' s' σ' H' ∧ OkS X.K G g' s' D (sWhile mt mb m sl' s'), fun σ' H' z => ⟨m, Nat.lt_succ_self _, z⟩, g2, sl1, s2, R2, ?_⟩
          have h2 := OkS.back (s1 := s2) h1 l2.toLe n2
          have l12 := l1.trans l2.toLe n1
          have n12 := Nat.le_trans n1 n2
          cases e2 : mb sl1 s2 with
          | nx sl3 s3 => rw [e2] at h2; exact fun g' σ' H' a b c => ⟨g', sl3, s3, l12.trans a n12, Nat.le_trans n12 b, c, OkS.back h2 a b⟩
          | ct sl3 s3 => rw [e2] at h2; exact fun g' σ' H' a b c => ⟨g', sl3, s3, l12.trans a n12, Nat.le_trans n12 b, c, OkS.back h2 a b⟩
          | bk sl3 s3 => rw [e2] at h2; exact h2
          | rt y s3 => rw [e2] at h2; exact h2
          | exc c sl3 s3 => rw [e2] at h2; exact h2
          | bad => rw [e2] at h2; exact h2
        · intro g2 H2 l2 n2 R2
          exact iteF (h1 g2 σ H2 l2.toLe n2 R2)
        · exact h1.elim
/-- what slot i owns is data from here on -/
theorem dss_frz (i : Nat) {m : MS} {sts : List Stmt} (hxs : G.fr i) (h : DSs X G sts m) : DSs X G sts (sSeq (sFrz i) m) :=
  h.wk fun D σ H ⟨g, sl, s, R, h⟩ => by
    simp only [sSeq, sFrz] at h
    cases e : sl[i]? with
    | none => rw [e] at h; exact h.elim
    | some x =>
      rw [e] at h
      cases x with
      | no => exact h.elim
      | v w => exact h.elim
      | own c =>
        simp only [RS.andThen_nx] at h
        have hc : ∀ fs, c ≠ .ins fs := fun fs z => by subst z; exact R.oni i fs e
        have f := R.giveUp e hc
        have q3 := (R.own i c e).2.2.1
        obtain ⟨g2, l2, R2, r2⟩ := (R.setNo (i := i) (v := some (.ref (g.ro i))) hxs).freeze (y := .fr c) (v := .ref (g.ro i)) ⟨_, rfl, f⟩
        have R3 := R2.setV (i := i) r2 (by cases c <;> rfl) hxs
        have e1 : (sl.set i Sl.no).set i (Sl.v (frz (.fr c))) = sl.set i (Sl.v (frz (.fr c))) := List.set_set ..
        have e2 : (σ.set i (some (V.ref (g.ro i)))).set i (some (.ref (g.ro i))) = σ := by
          rw [List.set_set]
          apply List.ext_getElem?
          intro j
          by_cases hj : i = j
          · subst hj
            rw [q3]
            by_cases hl : i < σ.length
            · rw [List.getElem?_set_self hl]
            · rw [List.getElem?_eq_none (by omega)] at q3; cases q3
          · rw [List.getElem?_set_ne hj]
        rw [e1, e2] at R3
        exact ⟨g2, _, s, R3, OkS.back h l2.toLe (Nat.le_refl _)⟩
end
end Fm

/-! FG: what a def promises; calls. -/
namespace Fm
open PySem L2
structure Pr (K : PySem.W.Frag) (C : Addr) (g : Gh) (s : Sto) (H : Hp) (g' : Gh) (s' : Sto) (H' : Hp) : Prop where
  rlh : RlH K C g' s' H'
  le : Le g g' s.O.length
  len : s.O.length ≤ s'.O.length
  newS : ∀ a u, g'.S a = some u → g.S a = some u ∨ H a = none
  newC : ∀ k, s.O.length ≤ k → k < s'.O.length → H (g'.rc k) = none
  frm : ∀ a u, H a = some u → g.S a = none → (∀ k, k < s.O.length → g.rc k ≠ a) → H' a = some u
  dom : ∀ a, H a ≠ none → H' a ≠ none
def RepR (K : PySem.W.Frag) (C : Addr) (g' : Gh) (s' : Sto) (H H' : Hp) : Y → V → Prop
  | .w (.f x), v => Rep K g'.S x v
  | .w (.c k), v => k < s'.O.length ∧ v = .ref (g'.rc k)
  | .w _, _ => False
  | .fr c, v => ∃ p, v = .ref p ∧ g'.S p = none ∧ (∀ k, k < s'.O.length → g'.rc k ≠ p) ∧ H p = none ∧ (∀ x ∈ g'.La, x.1 ≠ p) ∧ CelAt K C g' s'.O.length H' p c ∧ ∀ fs, c ≠ .ins fs
def spD (K : PySem.W.Frag) (C : Addr) (cls : Str → Addr) (np : Nat) (psi : Psi) : Sp := fun vs H Q E => ∃ g s ws, ws.length = np ∧ RlH K C g s H ∧ Paired (RepW K g s.O.length) ws vs ∧ ws.all argOk = true ∧ match psi ws s with
  | .ok y s' => ∀ v g' H', Pr K C g s H g' s' H' → RepR K C g' s' H H' y v → Q v H'
  | .exc c s' => ∀ g' H', Pr K C g s H g' s' H' → E (.ref (cls c)) none H'
  | .bad => False
theorem RlH.insOk {K : PySem.W.Frag} {C : Addr} {g : Gh} {s : Sto} {H : Hp} (R : RlH K C g s H) : insOk s := fun k c e => (R.cel k c e).2.ptrs
theorem spD.len {K : PySem.W.Frag} {C : Addr} {cls : Str → Addr} {np : Nat} {psi : Psi} {vs : List V} {H : Hp} {Q : VK} {E : XK} (h : spD K C cls np psi vs H Q E) : vs.length = np := by
  obtain ⟨g, s, ws, h1, _, h2, _⟩ := h
  rw [← h1, Paired.length h2]
theorem spD.imp {K : PySem.W.Frag} {C : Addr} {cls : Str → Addr} {np : Nat} {psi phi : Psi} (r : Ref psi phi) {vs : List V} {H : Hp} {Q : VK} {E : XK} (h : spD K C cls np psi vs H Q E) : spD K C cls np phi vs H Q E := by
  obtain ⟨g, s, ws, h0, h1, h2, h3, h4⟩ := h
  refine ⟨g, s, ws, h0, h1, h2, h3, ?_⟩
  rw [r ws s h1.insOk h3 (fun z => by rw [z] at h4; exact h4)]
  exact h4
section
variable {K : PySem.W.Frag} {G : Gc} {g g' : Gh} {sl : List Sl} {s s' : Sto} {σ : St} {H H' : Hp}
/-- behind a call -/
theorem Rl.after (R : Rl K G g sl s σ H) (P : Pr K G.C g s H g' s' H') : Rl K G { g' with ro := g.ro } sl s' σ H' ∧ LeO g { g' with ro := g.ro } s.O.length := by
  have lo : LeO g { g' with ro := g.ro } s.O.length := ⟨⟨P.le.sub, P.le.rc, P.le.la⟩, fun _ => rfl⟩
  have l2 : LeO g' { g' with ro := g.ro } s'.O.length → True := fun _ => trivial
  have cw : ∀ {n : Nat} {a : Addr} {d : Ct}, CelAt K G.C g' n H' a d → CelAt K G.C { g' with ro := g.ro } n H' a d := fun {n a d} h => by cases d <;> exact h
  have nS : ∀ a u, H a = some u → g.S a = none → g'.S a = none := fun a u h1 h2 => by
    cases e : g'.S a with
    | none => rfl
    | some w =>
      rcases P.newS a w e with z | z
      · rw [h2] at z; cases z
      · rw [h1] at z; cases z
  have nC : ∀ a, H a ≠ none → (∀ k, k < s.O.length → g.rc k ≠ a) → ∀ k, k < s'.O.length → g'.rc k ≠ a := fun a h1 h2 k hk z => by
    by_cases hl : k < s.O.length
    · exact h2 k hl (by rw [← P.le.rc k hl]; exact z)
    · exact h1 (by rw [← z]; exact P.newC k (by omega) hk)
  refine ⟨{ see := P.rlh.see, exa := P.rlh.exa, cel := fun k c e => ⟨(P.rlh.cel k c e).1, cw (P.rlh.cel k c e).2⟩, cin := P.rlh.cin, lck := P.rlh.lck, lkw := paired_imp P.rlh.lkw fun w x z => ?_, lnd := P.rlh.lnd, len := R.len, sok := R.sok, exs := R.exs, val := fun i w e => ?_, own := fun i c e => ?_, oni := R.oni, oin := R.oin, frm := fun a u f => ?_, newS := fun a u e => ?_, newC := fun k h1 h2 => ?_, oldC := fun k hk => ?_, n0le := Nat.le_trans R.n0le P.len, newO := R.newO, dom := fun a h => P.dom a (R.dom a h), subS := R.subS.trans P.le.sub }, lo⟩
  · cases w with
    | f y => cases y <;> exact z
    | _ => exact z
  · obtain ⟨v, e1, r1⟩ := R.val i w e
    exact ⟨v, e1, r1.le lo P.len⟩
  · obtain ⟨h1, h2, h3, h4⟩ := R.own i c e
    have h5 : H (g.ro i) ≠ none := h4.some R.lck
    obtain ⟨u, hu⟩ : ∃ u, H (g.ro i) = some u := Option.ne_none_iff_exists'.mp h5
    refine ⟨nS _ u hu h1, nC _ h5 h2, h3, ?_⟩
    exact (h4.heap (H' := H') fun u hu => P.frm _ u hu h1 h2).le lo.toLe P.len
  · obtain ⟨h1, h2, h3, h4⟩ := R.frm a u f
    exact ⟨P.frm a u h1 h2 h3, nS a u h1 h2, nC a (by rw [h1]; simp) h3, h4⟩
  · rcases P.newS a u e with z | z
    · exact R.newS a u z
    · exact .inr (R.H0_none z)
  · by_cases hl : k < s.O.length
    · show G.H0 (g'.rc k) = none
      rw [P.le.rc k hl]; exact R.newC k h1 hl
    · exact R.H0_none (P.newC k (by omega) h2)
  · show g'.rc k = _
    rw [P.le.rc k (Nat.lt_of_lt_of_le hk R.n0le)]; exact R.oldC k hk
theorem Rl.afterY {y : Y} {v : V} (R : Rl K G g sl s σ H) (P : Pr K G.C g s H g' s' H') (r : RepR K G.C g' s' H H' y v) : RepY K G { g' with ro := g.ro } sl s' H' y v := by
  cases y with
  | w x => cases x <;> first | exact r | exact r.elim
  | fr c =>
    obtain ⟨p, rfl, h1, h2, h3, h4, h5, h6⟩ := r
    refine ⟨p, rfl, h1, h2, R.ro_ne h3, R.H0_none h3, h4, ?_, h6⟩
    cases c <;> exact h5
/-- a call's end by the interpreter's -/
theorem call_go {psi : Psi} {np : Nat} {Q : VK} {E : XK} {ws : List W} {vs : List V} (R : Rl K G g sl s σ H) (hl : vs.length = np) (r : Paired (RepW K g s.O.length) ws vs) (ha : ws.all argOk = true) (hE : ∀ c H', G.W (.ref (G.cls c)) none σ H' → E (.ref (G.cls c)) none H') (h : OkE K G g sl s σ Q (psi ws s)) :
    spD K G.C G.cls np psi vs H Q E := by
  refine ⟨g, s, ws, by rw [← hl, Paired.length r], R.toRlH, r, ha, ?_⟩
  cases e : psi ws s with
  | bad => rw [e] at h; exact h
  | exc c s' =>
    rw [e] at h
    intro g' H' P
    obtain ⟨R', l⟩ := R.after P
    exact hE c H' (h _ H' l P.len R')
  | ok y s' =>
    rw [e] at h
    intro v g' H' P rr
    obtain ⟨R', l⟩ := R.after P
    exact h v _ H' l P.len R' (R.afterY P rr)
end
/-- o.m(e, ..), what is raised wished for at the slots -/
def tMethZ (C : Addr) (m : Str) (sp : Sp) (E : St → XK) (ta : TE) (t : TA) : TE := fun σ H Q => ta σ H fun x H1 => ∃ a dx fs, x = .ref a ∧ H1 a = some (.ins C dx fs) ∧ fs.lookup m = none ∧ t σ H1 fun vs H2 => sp (x :: vs) H2 Q (E σ)
def tMakeZ (C : Addr) (sp : Sp) (E : St → XK) (t : TA) : TE := fun σ H Q => t σ H fun vs H1 => ∀ x dx, H1 x = none → H1 dx = none → dx ≠ x →
  sp (.ref x :: vs) (upd (upd H1 dx (.own x)) x (.ins C dx [])) (fun v H2 => v = .non ∧ Q (.ref x) H2) (E σ)
section
variable {X : Cx} {CX : CXT} {k : Nat} {f C : Addr} {fd : FuncData} {ps : List Str} {sp : Sp} {E : St → XK} {x m : Str} {p pos apos : Pos} {e o : Expr} {es : List Expr} {ta : TE} {t : TA}
theorem pe_methZ {pl : Sem Bool} (he : PE X o ta) (c : Cls X.K C) (hm : Meth X.K C m f) (F : FnOk X.prog X.w X.K X.mg X.base CX k f fd ps sp) (hr : Room k X.A) (hb : Binds X.K fd ps []) (hx : ∀ σ, PassesAt CX X σ (E σ)) (ha : PA X (e :: es) t)
    (hst : starEach (e :: es) X.env = (false, eval e X.env) :: starEach es X.env := by rfl) (hpl : (backTo pos (starEach es X.env)).any (·.1) = false := by rfl)
    (ht : eval (.Call (.Attribute o m apos) (e :: es) [] pos) X.env = (do
      let ov ← eval o X.env
      standAt apos.atName
      let (f, first) ← holding [ov] (getMethod ov m pl)
      callWith pos f first (backTo pos (starEach (e :: es) X.env)) (backToKw pos (keywordEach [] X.env))) := by rfl) :
    PE X (.Call (.Attribute o m apos) (e :: es) [] pos) (tMethZ C m sp E ta t) := by
  refine ⟨fun pins s σ H Q I h => ?_⟩
  refine PySem.W.methodCall_KW (pl := pl) (thn (he.run pins s σ H _ I h) fun u s1 ⟨x, H1, I1, rx, a, dx, fs, ex, ea, l, q⟩ => ?_) ht
  subst ex
  obtain rfl : u = Value.ref a := rx
  refine getmeth_ok I1 ea c hm l ?_
  refine PySem.W.callWith_K (first := [.ref a]) (h₀ := X.base) I.ok.mod.kin hm.kp (thn (ha.run pos pins s1 σ H1 _ I1 q) fun us s2 ⟨vs, H2, I2, r, q2⟩ => ⟨I2.kIn, ?_⟩) hst hpl
  exact run_fnS (us := .ref a :: us) (vs := .ref a :: vs) F hr hb (hx σ) I2 (.cons rfl r) q2
theorem pe_methZ0 {pl : Sem Bool} (he : PE X o ta) (c : Cls X.K C) (hm : Meth X.K C m f) (F : FnOk X.prog X.w X.K X.mg X.base CX k f fd ps sp) (hr : Room k X.A) (hb : Binds X.K fd ps []) (hx : ∀ σ, PassesAt CX X σ (E σ))
    (ht : eval (.Call (.Attribute o m apos) [] [] pos) X.env = (do
      let ov ← eval o X.env
      standAt apos.atName
      let (f, first) ← holding [ov] (getMethod ov m pl)
      callWith pos f first (backTo pos (starEach [] X.env)) (backToKw pos (keywordEach [] X.env))) := by rfl) :
    PE X (.Call (.Attribute o m apos) [] [] pos) (tMethZ C m sp E ta tNil) := by
  refine ⟨fun pins s σ H Q I h => ?_⟩
  refine PySem.W.methodCall_KW (pl := pl) (thn (he.run pins s σ H _ I h) fun u s1 ⟨x, H1, I1, rx, a, dx, fs, ex, ea, l, q⟩ => ?_) ht
  subst ex
  obtain rfl : u = Value.ref a := rx
  refine getmeth_ok I1 ea c hm l ?_
  exact PySem.W.callWith_K0 (first := [.ref a]) I1.kIn hm.kp (run_fnS (us := [.ref a]) (vs := [.ref a]) F hr hb (hx σ) I1 (.cons rfl .nil) q)
theorem pe_callZ0 (F : FnOk X.prog X.w X.K X.mg X.base CX k f fd ps sp) (hr : Room k X.A) (hg : Gl X x) (hm : X.mg x = some (.ref f)) (hk : PySem.W.keepIn X.K (.ref f) = true) (hb : Binds X.K fd ps []) (hx : ∀ σ, PassesAt CX X σ (E σ))
    (hdb : (x == ("__debug__" : Str)) = false := by decide) : PE X (.Call (.Name x p) [] [] pos) (tCallS sp E tNil) := by
  refine ⟨fun pins s σ H Q I h => ?_⟩
  refine wpAny_Call_Name_kw (ld_glob I hg hm ?_ hdb)
  exact PySem.W.callWith_K0 I.kIn hk (run_fnS (us := []) F hr hb (hx σ) I .nil h)
theorem run_makeZ {pins : List (Addr × Obj)} {σ : St} {H : Hp} {s : Shared} {Q : VK} {us : List Value} {vs : List V} (M : Mk X.K C f) (F : FnOk X.prog X.w X.K X.mg X.base CX k f fd ps sp) (hr : Room (k + 1) X.A) (hb : Binds X.K fd ps [])
    (hx : PassesAt CX X σ (E σ)) (I : Inv X pins σ H s) (r : Vals vs us)
    (h : ∀ x dx, H x = none → H dx = none → dx ≠ x → sp (.ref x :: vs) (upd (upd H dx (.own x)) x (.ins C dx [])) (fun v H2 => v = .non ∧ Q (.ref x) H2) (E σ)) :
    wpAny (model X.prog X.w) X.A (call (.ref C) us) (EP X pins σ Q) X.xe s := by
  have hq := h (s.heap.objs.size + 1) s.heap.objs.size (I.hok.fresh (Nat.le_succ _)) (I.hok.fresh (Nat.le_refl _)) (Nat.ne_of_lt (Nat.lt_succ_self _))
  have I2 := Inv.made (C := C) I
  have r2 : Vals (V.ref (s.heap.objs.size + 1) :: vs) (Value.ref (s.heap.objs.size + 1) :: us) := .cons rfl r
  have hl : (Value.ref (s.heap.objs.size + 1) :: us).length = ps.length := by
    have e := r2.length
    rw [F.len _ _ _ _ hq] at e
    exact e.symm
  have b := hb _ (Value.ref (s.heap.objs.size + 1) :: us) I2.kIn (by rw [List.append_nil]; exact hl)
  rw [List.append_nil] at b
  refine wpAny_call (make_map (f := f) I.kIn M.makes M.init (beq_iff_eq.mp M.fn) (codeAny_mono (F.run _ X.stack _ _ ⟨Value.ref (s.heap.objs.size + 1) :: us, []⟩ (Value.ref (s.heap.objs.size + 1) :: us) _ _ (E σ) (hr.make C us [])
    (I2.env0.make C us []) b r2 hq) fun r s' hq' => ?_))
  cases r with
  | error e => exact hx pins _ _ e s' I2 hq'
  | ok fl =>
    cases fl with
    | ret u =>
      obtain ⟨v, H', I3, rv, ev, q3⟩ := I2.after hq'
      subst ev
      exact ⟨rv, ⟨V.ref (s.heap.objs.size + 1), H', I3, rfl, q3⟩⟩
    | next => exact False.elim hq'
    | brk => exact False.elim hq'
    | cont => exact False.elim hq'
theorem pe_makeZ (M : Mk X.K C f) (F : FnOk X.prog X.w X.K X.mg X.base CX k f fd ps sp) (hr : Room (k + 1) X.A) (hg : Gl X x) (hm : X.mg x = some (.ref C)) (hb : Binds X.K fd ps []) (hx : ∀ σ, PassesAt CX X σ (E σ))
    (ha : PA X (e :: es) t) (hdb : (x == ("__debug__" : Str)) = false := by decide) (he : starEach (e :: es) X.env = (false, eval e X.env) :: starEach es X.env := by rfl) (hpl : (backTo pos (starEach es X.env)).any (·.1) = false := by rfl) :
    PE X (.Call (.Name x p) (e :: es) [] pos) (tMakeZ C sp E t) := by
  refine ⟨fun pins s σ H Q I h => ?_⟩
  refine wpAny_Call_Name_kw (ld_glob I hg hm ?_ hdb)
  refine PySem.W.callWith_K (h₀ := X.base) I.ok.mod.kin M.kp (thn (ha.run pos pins s σ H _ I h) fun us s1 ⟨vs, H1, I1, r, q⟩ => ⟨I1.kIn, ?_⟩) he hpl
  exact run_makeZ M F hr hb (hx σ) I1 r q
end
/-- a def of the text keeps psi, at level k -/
def LA (ma : MA) (n : Nat) : Prop := ∀ sl s ws s', ma sl s = .ok ws s' → ws.length = n
theorem la_nil : LA aNil 0 := fun sl s ws s' h => by simp only [aNil] at h; cases h; rfl
theorem la_cons {m : M} {r : MA} {n : Nat} (h : LA r n) : LA (aCons m r) (n + 1) := fun sl s ws s' e => by
  simp only [aCons] at e
  cases e1 : m sl s with
  | bad => rw [e1] at e; cases e
  | exc c t => rw [e1] at e; cases e
  | ok y t =>
    rw [e1] at e
    simp only [Fm.R.bind_ok] at e
    cases e2 : r sl t with
    | bad => rw [e2] at e; cases e
    | exc c t => rw [e2] at e; cases e
    | ok us t2 =>
      rw [e2] at e
      simp only [Fm.R.bind_ok] at e
      cases e
      simp [h _ _ _ _ e2]
structure Dfn (P : Program) (w : World) (K : PySem.W.Frag) (mg : Str → Option Value) (base : Heap) (C : Addr) (cls : Str → Addr) (k : Nat) (f : Addr) (ps : List Str) (psi : Psi) : Prop where
  fn : ∃ fd, FnOk P w K mg base (L2.CX P w) k f fd ps (spD K C cls ps.length psi) ∧ Binds K fd ps []
section
variable {X : Cx} {G : Gc} {k : Nat} {f : Addr} {ps : List Str} {psi : Psi} {x m : Str} {p pos apos : Pos} {e o : Expr} {es : List Expr} {ma : MA} {mo : M}
theorem de_call (D : Dfn X.prog X.w X.K X.mg X.base G.C G.cls k f ps psi) (hr : Room k X.A) (tk : Takes X G.W) (hg : Gl X x) (hm : X.mg x = some (.ref f)) (hk : PySem.W.keepIn X.K (.ref f) = true) (hl : (e :: es).length = ps.length) (ha : DA X G (e :: es) ma)
    (hdb : (x == ("__debug__" : Str)) = false := by decide) (he : starEach (e :: es) X.env = (false, eval e X.env) :: starEach es X.env := by rfl) (hpl : (backTo pos (starEach es X.env)).any (·.1) = false := by rfl) (hla : LA ma ps.length := by repeat (first | exact la_nil | refine la_cons ?_)) : DE X G (.Call (.Name x p) (e :: es) [] pos) (mCall psi ma) := by
  obtain ⟨fd, F, b⟩ := D.fn
  refine (pe_callS F hr hg hm hk b (fun σ => passAt tk σ) ha hdb he hpl).wk fun σ H Q ⟨g, sl, s, R, h⟩ => ?_
  refine ⟨g, sl, s, R, ?_⟩
  simp only [mCall] at h
  cases e : ma sl s with
  | bad => rw [e] at h; exact h
  | exc c s' => rw [e] at h; exact h
  | ok ws s1 =>
    rw [e] at h
    simp only [Fm.R.bind_ok] at h
    intro vs g1 H1 l1 n1 R1 r1
    split at h
    · rename_i hall
      exact call_go R1 (by rw [← Paired.length r1, hla sl s ws s1 e]) r1 hall (fun c H' q => q) (OkE.back h l1 n1)
    · exact h.elim
theorem de_call0 (D : Dfn X.prog X.w X.K X.mg X.base G.C G.cls k f ps psi) (hr : Room k X.A) (tk : Takes X G.W) (hg : Gl X x) (hm : X.mg x = some (.ref f)) (hk : PySem.W.keepIn X.K (.ref f) = true) (hl : 0 = ps.length)
    (hdb : (x == ("__debug__" : Str)) = false := by decide) : DE X G (.Call (.Name x p) [] [] pos) (mCall psi aNil) := by
  obtain ⟨fd, F, b⟩ := D.fn
  refine (pe_callZ0 F hr hg hm hk b (fun σ => passAt tk σ) hdb).wk fun σ H Q ⟨g, sl, s, R, h⟩ => ?_
  exact call_go R hl .nil rfl (fun c H' q => q) h

theorem de_meth {C : Addr} (hC : C = G.C) (he : DE X G o mo) (c : Cls X.K C) (hme : Meth X.K C m f) (D : Dfn X.prog X.w X.K X.mg X.base G.C G.cls k f ps psi) (hr : Room k X.A) (tk : Takes X G.W) (ha : DA X G (e :: es) ma) {pl : Sem Bool}
    (hla : LA ma (ps.length - 1) := by repeat (first | exact la_nil | refine la_cons ?_)) (hl : 0 < ps.length := by decide)
    (hst : starEach (e :: es) X.env = (false, eval e X.env) :: starEach es X.env := by rfl) (hpl : (backTo pos (starEach es X.env)).any (·.1) = false := by rfl)
    (ht : eval (.Call (.Attribute o m apos) (e :: es) [] pos) X.env = (do
      let ov ← eval o X.env
      standAt apos.atName
      let (f, first) ← holding [ov] (getMethod ov m pl)
      callWith pos f first (backTo pos (starEach (e :: es) X.env)) (backToKw pos (keywordEach [] X.env))) := by rfl) : DE X G (.Call (.Attribute o m apos) (e :: es) [] pos) (mMeth psi m mo ma) := by
  subst hC
  obtain ⟨fd, F, b⟩ := D.fn
  refine (pe_methZ he c hme F hr b (fun σ => passAt tk σ) ha hst hpl ht).wk fun σ H Q ⟨g, sl, s, R, h⟩ => ?_
  refine ⟨g, sl, s, R, ?_⟩
  simp only [mMeth] at h
  cases e : mo sl s with
  | bad => rw [e] at h; exact h
  | exc c s' => rw [e] at h; exact h
  | ok y s1 =>
    rw [e] at h
    simp only [Fm.R.bind_ok] at h
    intro v g1 H1 l1 n1 R1 r1
    obtain ⟨g2, l2, R2, r2⟩ := R1.freeze r1
    split at h
    · rename_i kk ek
      rw [ek] at r2
      obtain ⟨hk, rfl⟩ := r2
      split at h
      · rename_i fs hfs
        obtain ⟨_, hfl, dx, hH⟩ := R2.cel kk _ hfs
        split at h
        · rename_i hlook
          refine ⟨g2.rc kk, dx, _, rfl, hH, ?_, ⟨g2, sl, s1, R2, ?_⟩⟩
          · have : ∀ l : List (Str × Nat), l.lookup m = none → (l.map fun p => (p.1, V.ref (g2.rc p.2))).lookup m = none := by
              intro l
              induction l with
              | nil => intro _; rfl
              | cons q l ih =>
                obtain ⟨q1, q2⟩ := q
                intro z
                rw [List.lookup_cons] at z
                rw [List.map_cons, List.lookup_cons]
                split at z
                · cases z
                · rename_i hb; simp only [hb]; exact ih z
            exact this fs hlook
          · have l12 := l1.trans l2 n1
            have h2 := OkE.back (s1 := s1) h l12 n1
            cases e2 : ma sl s1 with
            | bad => rw [e2] at h2; exact h2
            | exc c s' => rw [e2] at h2; exact h2
            | ok ws s2 =>
              rw [e2] at h2
              simp only [Fm.R.bind_ok] at h2
              intro vs g3 H3 l3 n3 R3 r3
              split at h2
              · rename_i hall
                have r0 : RepW X.K g3 s2.O.length (.c kk) (.ref (g2.rc kk)) := RepW.le (w := .c kk) l3 n3 ⟨hk, rfl⟩
                exact call_go R3 (by simp only [List.length_cons]; rw [← Paired.length r3, hla _ _ _ _ e2]; omega) (.cons r0 r3) (by simpa using hall) (fun c H' q => q) (OkE.back h2 l3 n3)
              · exact h2.elim
        · exact h.elim
      · exact h.elim
    · exact h.elim
theorem de_meth0 {C : Addr} (hC : C = G.C) (he : DE X G o mo) (c : Cls X.K C) (hme : Meth X.K C m f) (D : Dfn X.prog X.w X.K X.mg X.base G.C G.cls k f ps psi) (hr : Room k X.A) (tk : Takes X G.W) {pl : Sem Bool} (hl : 1 = ps.length := by decide)
    (ht : eval (.Call (.Attribute o m apos) [] [] pos) X.env = (do
      let ov ← eval o X.env
      standAt apos.atName
      let (f, first) ← holding [ov] (getMethod ov m pl)
      callWith pos f first (backTo pos (starEach [] X.env)) (backToKw pos (keywordEach [] X.env))) := by rfl) : DE X G (.Call (.Attribute o m apos) [] [] pos) (mMeth psi m mo aNil) := by
  subst hC
  obtain ⟨fd, F, b⟩ := D.fn
  refine (pe_methZ0 he c hme F hr b (fun σ => passAt tk σ) ht).wk fun σ H Q ⟨g, sl, s, R, h⟩ => ?_
  refine ⟨g, sl, s, R, ?_⟩
  simp only [mMeth] at h
  cases e : mo sl s with
  | bad => rw [e] at h; exact h
  | exc c s' => rw [e] at h; exact h
  | ok y s1 =>
    rw [e] at h
    simp only [Fm.R.bind_ok] at h
    intro v g1 H1 l1 n1 R1 r1
    obtain ⟨g2, l2, R2, r2⟩ := R1.freeze r1
    split at h
    · rename_i kk ek
      rw [ek] at r2
      obtain ⟨hk, rfl⟩ := r2
      split at h
      · rename_i fs hfs
        obtain ⟨_, hfl, dx, hH⟩ := R2.cel kk _ hfs
        split at h
        · rename_i hlook
          refine ⟨g2.rc kk, dx, _, rfl, hH, ?_, ?_⟩
          · have : ∀ l : List (Str × Nat), l.lookup m = none → (l.map fun p => (p.1, V.ref (g2.rc p.2))).lookup m = none := by
              intro l
              induction l with
              | nil => intro _; rfl
              | cons q l ih =>
                obtain ⟨q1, q2⟩ := q
                intro z
                rw [List.lookup_cons] at z
                rw [List.map_cons, List.lookup_cons]
                split at z
                · cases z
                · rename_i hb; simp only [hb]; exact ih z
            exact this fs hlook
          · have l12 := l1.trans l2 n1
            have h2 := OkE.back (s1 := s1) h l12 n1
            simp only [aNil, Fm.R.bind_ok, List.all_nil, if_true] at h2
            exact call_go (ws := [.c kk]) R2 hl (.cons (show RepW X.K g2 s1.O.length (.c kk) _ from ⟨hk, rfl⟩) .nil) rfl (fun c H' q => q) h2
        · exact h.elim
      · exact h.elim
    · exact h.elim
end
section
variable {K : PySem.W.Frag} {G : Gc} {g g' : Gh} {sl : List Sl} {s s' : Sto} {σ : St} {H H' : Hp} {C : Addr}
theorem back_len (h : s.O.length ≤ s'.O.length) : (s.back s').O.length = s.O.length := by simp [Sto.back]; omega
theorem back_get {k : Nat} {c : Ct} (e : (s.back s').O[k]? = some c) : k < s.O.length ∧ s'.O[k]? = some c := by
  have h : k < (s.back s').O.length := (List.getElem?_eq_some_iff.mp e).1
  have h1 : k < s.O.length := by simp [Sto.back] at h; omega
  refine ⟨h1, ?_⟩
  simp only [Sto.back, List.getElem?_take, h1, if_true] at e
  exact e
theorem CelAt.fit {n m : Nat} {a : Addr} {c : Ct} (h : CelAt K C g n H a c) (hi : ∀ p ∈ c.ptrs, p < m) : CelAt K C g m H a c := by
  cases c with
  | lst xs => exact h
  | dct kvs => exact h
  | ins fs => exact ⟨fun p hp => hi p.2 (List.mem_map_of_mem hp), h.2⟩
  | cls ks => exact ⟨hi, h.2⟩
theorem bOk_get (hb : bOk s s' = true) {k : Nat} {c : Ct} (e : (s.back s').O[k]? = some c) : ∀ p ∈ c.ptrs, p < s.O.length := by
  unfold bOk at hb
  rw [List.all_eq_true] at hb
  have := hb _ (List.mem_of_getElem? e)
  simp only [List.all_eq_true, decide_eq_true_eq] at this
  exact this
/-- the cells made since are forgotten -/
theorem RlH.trunc (R : RlH K C g' s' H') (hb : bOk s s' = true) (hn : s.O.length ≤ s'.O.length) (hl : Paired (LkW K g' s.O.length) s.lk g'.La) : RlH K C g' (s.back s') H' := by
  refine ⟨R.see, R.exa, fun k c e => ?_, fun j k hj hk e => R.cin j k ?_ ?_ e, R.lck, by rw [back_len hn]; exact hl, R.lnd⟩
  · obtain ⟨h1, h2⟩ := back_get e
    refine ⟨(R.cel k c h2).1, (R.cel k c h2).2.fit ?_⟩
    rw [back_len hn]
    exact bOk_get hb e
  · rw [back_len hn] at hj; omega
  · rw [back_len hn] at hk; omega
theorem LkW.le {n m : Nat} (l : Le g g' n) (h : n ≤ m) {w : W} {x : Addr × Obj × HO} (z : LkW K g n w x) : LkW K g' m w x := by
  cases w with
  | f y =>
    cases y with
    | dct kvs => obtain ⟨z1, vs, z2, z3⟩ := z; exact ⟨l.sub _ _ z1, vs, z2, RepK.sub l.sub _ _ z3⟩
    | _ => exact z
  | c k => exact ⟨Nat.lt_of_lt_of_le z.1 h, by rw [l.rc k z.1]; exact z.2⟩
  | _ => exact z
theorem Rl.trunc (R : Rl K G g sl s σ H) (R' : Rl K G g' sl s' σ H') (l : LeO g g' s.O.length) (hn : s.O.length ≤ s'.O.length) (hb : bOk s s' = true) : Rl K G g' sl (s.back s') σ H' := by
  have hL := back_len hn
  refine { toRlH := R'.toRlH.trunc hb hn (by rw [l.la]; exact paired_imp R.lkw fun w x z => z.le l.toLe (Nat.le_refl _)), len := R'.len, sok := R'.sok, exs := R'.exs, val := fun i w e => ?_, own := fun i c e => ?_, oni := R'.oni, oin := R'.oin, frm := fun a u f => ?_, newS := R'.newS, newC := fun k h1 h2 => R'.newC k h1 (by rw [hL] at h2; omega), oldC := R'.oldC, n0le := by rw [hL]; exact R.n0le, newO := R'.newO, dom := R'.dom, subS := R'.subS }
  · obtain ⟨v, e1, r1⟩ := R.val i w e
    exact ⟨v, e1, by rw [hL]; exact r1.le l (Nat.le_refl _)⟩
  · obtain ⟨h1, h2, h3, h4⟩ := R'.own i c e
    exact ⟨h1, fun k hk => h2 k (by rw [hL] at hk; omega), h3, h4.fit (by rw [hL]; exact (R.own i c e).2.2.2.ptrs)⟩
  · obtain ⟨h1, h2, h3, h4⟩ := R'.frm a u f
    exact ⟨h1, h2, fun k hk => h3 k (by rw [hL] at hk; omega), h4⟩
end
section
variable {X : Cx} {G : Gc} {k : Nat} {f C : Addr} {ps : List Str} {psi : Psi} {x m : Str} {p pos apos : Pos} {e o : Expr} {es : List Expr} {ma : MA} {mo : M}
theorem de_make (hC : C = G.C) (M : Mk X.K C f) (D : Dfn X.prog X.w X.K X.mg X.base G.C G.cls k f ps psi) (hr : Room (k + 1) X.A) (tk : Takes X G.W) (hg : Gl X x) (hm : X.mg x = some (.ref C)) (ha : DA X G (e :: es) ma)
    (hla : LA ma (ps.length - 1) := by repeat (first | exact la_nil | refine la_cons ?_)) (hl : 0 < ps.length := by decide)
    (hdb : (x == ("__debug__" : Str)) = false := by decide) (he : starEach (e :: es) X.env = (false, eval e X.env) :: starEach es X.env := by rfl) (hpl : (backTo pos (starEach es X.env)).any (·.1) = false := by rfl) : DE X G (.Call (.Name x p) (e :: es) [] pos) (mMake psi ma) := by
  subst hC
  obtain ⟨fd, F, b⟩ := D.fn
  refine (pe_makeZ M F hr hg hm b (fun σ => passAt tk σ) ha hdb he hpl).wk fun σ H Q ⟨g, sl, s, R, h⟩ => ?_
  refine ⟨g, sl, s, R, ?_⟩
  simp only [mMake] at h
  cases e : ma sl s with
  | bad => rw [e] at h; exact h
  | exc c s' => rw [e] at h; exact h
  | ok ws s1 =>
    rw [e] at h
    simp only [Fm.R.bind_ok] at h
    intro vs g1 H1 l1 n1 R1 r1 x dx hx hdx hne
    split at h
    · rename_i hall
      have h2 := OkE.back (s1 := s1) h l1 n1
      have hx2 : (upd H1 dx (.own x)) x = none := by rw [upd_ne (Ne.symm hne)]; exact hx
      have R2 := (R1.new (o := .own x) hdx).new (o := .ins G.C dx []) hx2
      obtain ⟨R3, l3⟩ := R2.push0 (p := x) (c := .ins []) (R1.S_none hx) (R1.rc_ne hx) (R1.ro_ne hx) (R1.H0_none hx) (R1.la_ne hx) ⟨fun p hp => absurd hp (by simp), dx, by rw [upd_same]; rfl⟩
      have hn3 : s1.O.length ≤ (s1.O ++ [Ct.ins []]).length := by simp
      refine call_go (ws := .c s1.O.length :: ws) R3 (by simp only [List.length_cons]; rw [← Paired.length r1, hla _ _ _ _ e]; omega) (.cons ⟨by simp, by show V.ref x = .ref (if s1.O.length = s1.O.length then x else g1.rc s1.O.length); rw [if_pos rfl]⟩ (paired_imp r1 fun w v z => z.le l3 hn3)) (by simpa using hall) (fun c H' q => q) ?_
      cases e2 : psi (.c s1.O.length :: ws) { s1 with O := s1.O ++ [.ins []] } with
      | bad => rw [e2] at h2; exact h2
      | exc c s2 =>
        rw [e2] at h2
        try dsimp only at h2
        split at h2
        · rename_i hb
          intro g' H' l n R'
          have n' : s1.O.length ≤ s2.O.length := Nat.le_trans hn3 n
          have l' := l3.trans l hn3
          exact h2 g' H' l' (by rw [back_len n']; exact Nat.le_refl _) (R1.trunc R' l' n' hb)
        · exact h2.elim
      | ok y s2 =>
        rw [e2] at h2
        try dsimp only at h2
        split at h2
        · rename_i s3 q
          cases q
          intro v g' H' l n R' r
          have hv : v = .non := by simpa only [RepY, RepW, Rep] using r
          refine ⟨hv, h2 (.ref x) g' H' (l3.trans l hn3) (Nat.le_trans hn3 n) R' ⟨?_, ?_⟩⟩
          · have : (s1.O ++ [Ct.ins []]).length ≤ s2.O.length := n
            simp at this; omega
          · have q := l.rc s1.O.length (by simp)
            rw [q]
            show V.ref x = .ref (if s1.O.length = s1.O.length then x else g1.rc s1.O.length)
            rw [if_pos rfl]
        · rename_i q; cases q
        · exact h2.elim
    · exact h.elim
end
/-! ### the body of a def -/
section
variable {K : PySem.W.Frag} {C : Addr} {g : Gh} {s : Sto} {H : Hp}
def G0 (C : Addr) (cls : Str → Addr) (E : XK) (g : Gh) (s : Sto) (H : Hp) : Gc := ⟨C, cls, fun c d _ H' => E c d H', H, g.S, g.rc, s.O.length, none⟩
theorem slots_val {N : Nat} {ws : List W} {i : Nat} {w : W} (h : (slots N ws)[i]? = some (Sl.v w)) : ws[i]? = some w := by
  simp only [slots] at h
  by_cases hi : i < ws.length
  · rw [List.getElem?_append_left (by simpa using hi), List.getElem?_map] at h
    cases e : ws[i]? with
    | none => rw [e] at h; cases h
    | some z => rw [e] at h; cases h; rfl
  · rw [List.getElem?_append_right (by simp; omega)] at h
    have := List.mem_of_getElem? h
    rw [List.mem_replicate] at this
    cases this.2
theorem slots_own {N : Nat} {ws : List W} {i : Nat} {c : Ct} : (slots N ws)[i]? ≠ some (Sl.own c) := fun h => by
  simp only [slots] at h
  have := List.mem_of_getElem? h
  rw [List.mem_append] at this
  rcases this with z | z
  · obtain ⟨w, _, e⟩ := List.mem_map.mp z; cases e
  · rw [List.mem_replicate] at z; cases z.2
theorem start_get {N : List Str} {vs : List V} {i : Nat} {v : V} (h : vs[i]? = some v) : (L2.start N vs)[i]? = some (some v) := by
  unfold L2.start
  rw [List.getElem?_append_left (by simpa using (List.getElem?_eq_some_iff.mp h).1), List.getElem?_map, h]
  rfl
theorem Rl.start {cls : Str → Addr} {E : XK} {N : List Str} {ws : List W} {vs : List V} (R : RlH K C g s H) (r : Paired (RepW K g s.O.length) ws vs) (ha : ws.all argOk = true) : Rl K (G0 C cls E g s H) g (slots N.length ws) s (L2.start N vs) H := by
  have hl := Paired.length r
  have pg : ∀ {ws : List W} {vs : List V} (i : Nat) (w : W), Paired (RepW K g s.O.length) ws vs → ws[i]? = some w → ∃ v, vs[i]? = some v ∧ RepW K g s.O.length w v := by
    intro ws vs i w q
    induction q generalizing i with
    | nil => intro e; simp at e
    | cons p t ih =>
      intro e
      cases i with
      | zero => simp at e; subst e; exact ⟨_, rfl, p⟩
      | succ i => obtain ⟨v, h1, h2⟩ := ih i (by simpa using e); exact ⟨v, by simpa using h1, h2⟩
  refine { toRlH := R, len := by simp [L2.start, hl], sok := fun i w e => ?_, exs := fun i a e => (nomatch e), val := fun i w e => ?_, own := fun i c e => absurd e slots_own, oni := fun i fs => slots_own, oin := fun i j c d e => absurd e slots_own, frm := fun a u f => ⟨f.1, f.2.1, f.2.2, fun i c e => absurd e slots_own⟩, newS := fun a u e => .inl e, newC := fun k h1 h2 => absurd h2 (Nat.not_lt.mpr h1), oldC := fun k _ => rfl, n0le := Nat.le_refl _, newO := fun i c e => absurd e slots_own, dom := fun a h => h, subS := Sub.rfl }
  · have := List.all_eq_true.mp ha w (List.mem_of_getElem? (slots_val e))
    cases w <;> first | rfl | cases this
  · obtain ⟨v, h1, h2⟩ := pg i w r (slots_val e)
    exact ⟨v, start_get h1, h2⟩
theorem Rl.prB {cls : Str → Addr} {E : XK} {g' : Gh} {sl : List Sl} {s' : Sto} {σ : St} {H' : Hp} (R : Rl K (G0 C cls E g s H) g' sl s' σ H') (l : Le g g' s.O.length) (hn : s.O.length ≤ s'.O.length) : Pr K C g s H g' s' H' :=
  ⟨R.toRlH, l, hn, R.newS, R.newC, fun a u h1 h2 h3 => (R.frm a u ⟨h1, h2, h3⟩).1, R.dom⟩
theorem Rl.prA {cls : Str → Addr} {E : XK} {g' : Gh} {sl : List Sl} {s' : Sto} {σ : St} {H' : Hp} (R0 : RlH K C g s H) (R : Rl K (G0 C cls E g s H) g' sl s' σ H') (l : Le g g' s.O.length) (hn : s.O.length ≤ s'.O.length) (hb : bOk s s' = true) : Pr K C g s H g' (s.back s') H' :=
  ⟨R.toRlH.trunc hb hn (by rw [l.la]; exact paired_imp R0.lkw fun w x z => z.le l (Nat.le_refl _)), l, by rw [back_len hn]; exact Nat.le_refl _, R.newS, fun k h1 h2 => absurd h2 (by rw [back_len hn]; omega), fun a u h1 h2 h3 => (R.frm a u ⟨h1, h2, h3⟩).1, R.dom⟩
theorem RepY.frR {cls : Str → Addr} {E : XK} {g' : Gh} {sl : List Sl} {s' : Sto} {H' : Hp} {c : Ct} {v : V} (r : RepY K (G0 C cls E g s H) g' sl s' H' (.fr c) v) : RepR K C g' s' H H' (.fr c) v := by
  obtain ⟨p, rfl, h1, h2, h3, h4, h5, h6, h7⟩ := r
  exact ⟨p, rfl, h1, h2, h4, h5, h6, h7⟩
theorem RepR.back {g' : Gh} {s' : Sto} {H' : Hp} {c : Ct} {v : V} (hn : s.O.length ≤ s'.O.length) (hp : ∀ p ∈ c.ptrs, p < s.O.length) (r : RepR K C g' s' H H' (.fr c) v) : RepR K C g' (s.back s') H H' (.fr c) v := by
  obtain ⟨p, rfl, h1, h2, h4, h5, h6, h7⟩ := r
  exact ⟨p, rfl, h1, fun k hk => h2 k (by rw [back_len hn] at hk; omega), h4, h5, h6.fit (by rw [back_len hn]; exact hp), h7⟩
/-- a cell that was made here, handed out as an object of its own -/
theorem Rl.outC {cls : Str → Addr} {E : XK} {g' : Gh} {sl : List Sl} {s' : Sto} {σ : St} {H' : Hp} {k : Nat} {c : Ct} (R0 : RlH K C g s H) (R : Rl K (G0 C cls E g s H) g' sl s' σ H') (l : Le g g' s.O.length) (hn : s.O.length ≤ s'.O.length) (hk : ¬ k < s.O.length) (e : s'.O[k]? = some c) (hc : ∀ fs, c ≠ .ins fs) (hp : c.ptrs = []) :
    RepR K C g' (s.back s') H H' (.fr c) (.ref (g'.rc k)) := by
  have hk2 : k < s'.O.length := (List.getElem?_eq_some_iff.mp e).1
  have h0 : H (g'.rc k) = none := R.newC k (Nat.not_lt.mp hk) hk2
  refine ⟨_, rfl, (R.cel k c e).1, fun j hj z => ?_, h0, fun x hx z => ?_, (R.cel k c e).2.fit (by rw [hp]; exact fun p q => by cases q), hc⟩
  · rw [back_len hn] at hj
    exact hk (R.cin j k (by omega) hk2 z ▸ hj)
  · rw [l.la] at hx
    have q := R0.lck x hx
    rw [z, h0] at q; cases q
end
section
variable {P : Program} {w : World} {K : PySem.W.Frag} {mg : Str → Option Value} {base : Heap} {C : Addr} {cls : Str → Addr} {k : Nat} {f : Addr} {ps N : List Str} {body : MS} {x qual : Str} {st : Stmt} {fd : FuncData}
/-- what a body's derivation may use -/
def BodyOk (P : Program) (w : World) (K : PySem.W.Frag) (mg : Str → Option Value) (base : Heap) (C : Addr) (cls : Str → Addr) (k : Nat) (f : Addr) (N : List Str) (qual : Str) (st : Stmt) (body : MS) : Prop :=
  ∀ (cdv : Value) (A : Around) (outer : List Env) (s : Shared) (H : Hp) (E : XK) (G : Gc), G.C = C → G.cls = cls → G.xs = none → Room k (A.deeper (PyProof.Rows.envOfC qual (defScope st) s.heap.objs.size f cdv)) →
    Takes (cxOf (L2.CX P w) P w K mg base N qual (defScope st) f cdv A outer s H E) G.W → PassesOwn (model P w) (A.deeper (PyProof.Rows.envOfC qual (defScope st) s.heap.objs.size f cdv)) (PyProof.Rows.envOfC qual (defScope st) s.heap.objs.size f cdv) (cxOf (L2.CX P w) P w K mg base N qual (defScope st) f cdv A outer s H E).xe →
    DSs (cxOf (L2.CX P w) P w K mg base N qual (defScope st) f cdv A outer s H E) G (defBody st) body
theorem fn_okA0 (F : Fun K x qual st f fd) (S : FnScope N ps (defScope st)) (B : BodyOk P w K mg base C cls k f N qual st body) : FnOk P w K mg base (L2.CX P w) (k + 1) f fd ps (spD K C cls ps.length (runA N.length body)) := by
  refine F.okX S (fun vs H Q E h => h.len) fun cdv A outer s H vs Q E hr hsp => ?_
  obtain ⟨g, s0, ws, hl, RH, r, ha, hres⟩ := hsp
  refine ⟨tDS K (G0 C cls E g s0 H) body, B cdv A outer s H E (G0 C cls E g s0 H) rfl rfl rfl hr (takes_of rfl rfl rfl rfl) (passes_of rfl), ?_⟩
  refine ⟨g, slots N.length ws, s0, Rl.start RH r ha, ?_⟩
  unfold runA at hres
  cases e : body (slots N.length ws) s0 with
  | nx sl' s' =>
    rw [e] at hres
    try dsimp only at hres
    split at hres
    · rename_i y s2 q
      split at q
      · rename_i hb
        cases q
        exact fun g' σ' H' l n R => hres .non g' H' (Rl.prA RH R l n hb) (by show Rep K g'.S .non .non; simp only [Rep])
      · cases q
    · rename_i q; split at q <;> cases q
    · exact hres.elim
  | rt y s' =>
    rw [e] at hres
    intro v g' sl' σ' H' l n R r
    cases y with
    | fr c =>
      try dsimp only at hres
      split at hres
      · rename_i y s2 q
        split at q
        · rename_i hb
          cases q
          simp only [Bool.and_eq_true, List.all_eq_true, decide_eq_true_eq] at hb
          exact hres v g' H' (Rl.prA RH R l n hb.1) (r.frR.back n hb.2)
        · cases q
      · rename_i q; split at q <;> cases q
      · exact hres.elim
    | w z =>
      cases z with
      | f y =>
        try dsimp only at hres
        split at hres
        · rename_i y s2 q
          split at q
          · rename_i hb
            cases q
            exact hres v g' H' (Rl.prA RH R l n hb) r
          · cases q
        · rename_i q; split at q <;> cases q
        · exact hres.elim
      | c k =>
        try dsimp only at hres
        split at hres
        · rename_i y s2 q
          split at q
          · rename_i hb
            split at q
            · rename_i hk
              cases q
              exact hres v g' H' (Rl.prA RH R l n hb) ⟨by rw [back_len n]; exact hk, r.2⟩
            · rename_i hk
              obtain ⟨r1, rfl⟩ : k < s'.O.length ∧ v = .ref (g'.rc k) := r
              split at q
              · rename_i xs e2
                cases q
                exact hres _ g' H' (Rl.prA RH R l n hb) (Rl.outC RH R l n hk e2 (fun _ z => nomatch z) rfl)
              · rename_i kvs e2
                cases q
                exact hres _ g' H' (Rl.prA RH R l n hb) (Rl.outC RH R l n hk e2 (fun _ z => nomatch z) rfl)
              · cases q
          · cases q
        · rename_i q
          repeat (first | cases q | split at q)
        · exact hres.elim
      | o i => exact hres.elim
      | x c => exact hres.elim
      | u => exact hres.elim
  | exc c sl' s' =>
    rw [e] at hres
    try dsimp only at hres
    split at hres
    · rename_i y s2 q; split at q <;> cases q
    · rename_i c2 s2 q
      split at q
      · rename_i hb
        cases q
        exact fun g' σ' H' l n R => hres g' H' (Rl.prA RH R l n hb)
      · cases q
    · exact hres.elim
  | bk sl' s' => rw [e] at hres; exact hres.elim
  | ct sl' s' => rw [e] at hres; exact hres.elim
  | bad => rw [e] at hres; exact hres
theorem fn_okA (F : Fun K x qual st f fd) (S : FnScope N ps (defScope st)) (hb : Binds K fd ps []) (B : BodyOk P w K mg base C cls k f N qual st body) : Dfn P w K mg base C cls (k + 1) f ps (runA N.length body) := ⟨fd, fn_okA0 F S B, hb⟩
theorem fn_okB0 (F : Fun K x qual st f fd) (S : FnScope N ps (defScope st)) (B : BodyOk P w K mg base C cls k f N qual st body) : FnOk P w K mg base (L2.CX P w) (k + 1) f fd ps (spD K C cls ps.length (runB N.length body)) := by
  refine F.okX S (fun vs H Q E h => h.len) fun cdv A outer s H vs Q E hr hsp => ?_
  obtain ⟨g, s0, ws, hl, RH, r, ha, hres⟩ := hsp
  refine ⟨tDS K (G0 C cls E g s0 H) body, B cdv A outer s H E (G0 C cls E g s0 H) rfl rfl rfl hr (takes_of rfl rfl rfl rfl) (passes_of rfl), ?_⟩
  refine ⟨g, slots N.length ws, s0, Rl.start RH r ha, ?_⟩
  unfold runB at hres
  cases e : body (slots N.length ws) s0 with
  | nx sl' s' =>
    rw [e] at hres
    exact fun g' σ' H' l n R => hres .non g' H' (R.prB l n) (by show Rep K g'.S .non .non; simp only [Rep])
  | rt y s' =>
    rw [e] at hres
    intro v g' sl' σ' H' l n R r
    cases y with
    | fr c => exact hres v g' H' (R.prB l n) r.frR
    | w z =>
      cases z with
      | f y => exact hres v g' H' (R.prB l n) r
      | c k => exact hres v g' H' (R.prB l n) r
      | o i => exact hres.elim
      | x c => exact hres.elim
      | u => exact hres.elim
  | exc c sl' s' =>
    rw [e] at hres
    exact fun g' σ' H' l n R => hres g' H' (R.prB l n)
  | bk sl' s' => rw [e] at hres; exact hres.elim
  | ct sl' s' => rw [e] at hres; exact hres.elim
  | bad => rw [e] at hres; exact hres
theorem fn_okB (F : Fun K x qual st f fd) (S : FnScope N ps (defScope st)) (hb : Binds K fd ps []) (B : BodyOk P w K mg base C cls k f N qual st body) : Dfn P w K mg base C cls (k + 1) f ps (runB N.length body) := ⟨fd, fn_okB0 F S B, hb⟩
/-- a def's mirror in its place -/
theorem Dfn.mir {psi phi : Psi} (D : Dfn P w K mg base C cls k f ps phi) (r : Ref psi phi) : Dfn P w K mg base C cls k f ps psi := by
  obtain ⟨fd, F, b⟩ := D.fn
  exact ⟨fd, F.imp fun vs H Q E h => h.imp r, b⟩
theorem Dfn.mono {psi : Psi} {j : Nat} (D : Dfn P w K mg base C cls j f ps psi) (h : j ≤ k) : Dfn P w K mg base C cls k f ps psi := by
  obtain ⟨fd, F, b⟩ := D.fn
  exact ⟨fd, F.mono h, b⟩
end
end Fm

/-! FH: operations by data. -/
namespace Fm
open PySem L2

/-! ### numbers -/
@[simp] def addF : F → F → Op
  | .int i, .int j => .val (.int (i + j))
  | .str x, .str y => if x.length + y.length ≤ sizeLine then .val (.str (x ++ y)) else .bad
  | .lst xs, .lst ys => if xs.length + ys.length ≤ sizeLine then .new (.lst (xs ++ ys)) else .bad
  | .tup xs, .tup ys => if xs ≠ [] ∧ ys ≠ [] ∧ xs.length + ys.length ≤ sizeLine then .ntup (xs ++ ys) else .bad
  | _, _ => .bad
@[simp] def subF : F → F → Op
  | .int i, .int j => .val (.int (i - j))
  | _, _ => .bad
def strRep (x : Str) (n : Nat) : Str := ⟨(List.replicate n x.cps.toList).flatten.toArray⟩
def mulOk (i j : Int) : Bool := decide (i.natAbs < 18446744073709551616) || decide (j.natAbs < 18446744073709551616)
theorem mulOk_to {i j : Int} (h : mulOk i j = true) : (-(2 ^ 64) < i ∧ i < 2 ^ 64) ∨ (-(2 ^ 64) < j ∧ j < 2 ^ 64) := by
  have e : (2 : Int) ^ 64 = 18446744073709551616 := by decide
  unfold mulOk at h
  rw [Bool.or_eq_true, decide_eq_true_eq, decide_eq_true_eq] at h
  rw [e]
  omega
def divOk (j : Int) : Bool := decide (j ≠ 0 ∧ j.natAbs < 1073741824)
def powOk (i j : Int) : Bool := decide (0 ≤ j ∧ j ≤ 1000000 ∧ i.natAbs < 2 ^ 64)
def repOk (x : Str) (n : Int) : Bool := decide (0 ≤ n ∧ n ≤ 100 ∧ x.length ≤ 1000)
@[simp] def mulF : F → F → Op
  | .int i, .int j => if mulOk i j then .val (.int (i * j)) else .bad
  | .str x, .int n => if repOk x n then .val (.str (strRep x n.toNat)) else .bad
  | _, _ => .bad
@[simp] def divF : F → F → Op
  | .int i, .int j => if divOk j then .val (.int (i.fdiv j)) else .bad
  | _, _ => .bad
@[simp] def modF : F → F → Op
  | .int i, .int j => if j ≠ 0 then .val (.int (i.fmod j)) else .bad
  | _, _ => .bad
@[simp] def powF : F → F → Op
  | .int i, .int j => if powOk i j then .val (.int (i ^ j.toNat)) else .bad
  | _, _ => .bad
@[simp] def negF : F → Op
  | .int i => .val (.int (-i))
  | _ => .bad
@[simp] def ltF : F → F → Op
  | .int i, .int j => .val (.bl (decide (i < j)))
  | _, _ => .bad
@[simp] def leF : F → F → Op
  | .int i, .int j => .val (.bl (decide (i ≤ j)))
  | _, _ => .bad
@[simp] def gtF : F → F → Op
  | .int i, .int j => .val (.bl (decide (j < i)))
  | _, _ => .bad
@[simp] def geF : F → F → Op
  | .int i, .int j => .val (.bl (decide (j ≤ i)))
  | _, _ => .bad
theorem rep_bl {K : PySem.W.Frag} {S : Hp} {b : Bool} : Rep K S (.bl b) (.bl b) := by simp only [Rep]
theorem rep_int {K : PySem.W.Frag} {S : Hp} {b : Int} : Rep K S (.int b) (.int b) := by simp only [Rep]
theorem rep_str {K : PySem.W.Frag} {S : Hp} {b : Str} : Rep K S (.str b) (.str b) := by simp only [Rep]
section
variable {X : Cx}
theorem OpR.of {f : Value → Value → Sem Value} {r r' : R2} (h : OpR X f r) (k : ∀ x y H Q, r' x y H Q → r x y H Q) : OpR X f r' := fun pins s σ H x y v u Q I rx ry q => h pins s σ H x y v u Q I rx ry (k x y H Q q)
/-- an operation by data from its cases -/
theorem OpR.ofD {f : Value → Value → Sem Value} {g : F → F → Op} (h : ∀ S a b, ∀ (pins : List (Addr × Obj)) (s : Shared) (σ : St) (H : Hp) (x y : V) (v u : Value) (Q : VK), Inv X pins σ H s → RelV x v → RelV y u → Lk S H → RepP X.K S H a x → RepP X.K S H b y → Post X.K S H Q (g a b) →
    wpAny (model X.prog X.w) X.A (f v u) (EP X pins σ Q) X.xe s) : OpR X f (rD2 X.K g) := fun pins s σ H x y v u Q I rx ry ⟨S, a, b, l, p, q, t⟩ => h S a b pins s σ H x y v u Q I rx ry l p q t
theorem od_add : OpR X (binaryOp .Add) (rD2 X.K addF) := OpR.ofD fun S a b pins s σ H x y v u Q I rx ry l p q t => by
  cases a <;> cases b <;> simp only [addF] at t <;> try exact t.elim
  · rename_i i j; exact op_add pins s σ H x y v u Q I rx ry ⟨i, j, p, q, t _ rep_int⟩
  · rename_i i j
    split at t
    · rename_i hl; exact op_add_str pins s σ H x y v u Q I rx ry ⟨i, j, p, q, hl, t _ rep_str⟩
    · exact t.elim
  · rename_i xs ys
    split at t
    · rename_i hl
      obtain ⟨d, vs, rfl, hd, hr⟩ := p
      obtain ⟨e, ws, rfl, he, hq⟩ := q
      exact op_cat pins s σ H _ _ v u Q I rx ry ⟨d, e, vs, ws, rfl, rfl, hd, he, by rw [← hr.length, ← hq.length]; exact hl, fun p hp => t p _ hp (hr.append hq)⟩
    · exact t.elim
  · rename_i xs ys
    split at t
    · rename_i hl
      obtain ⟨d, vs, rfl, hd, hr⟩ := p
      obtain ⟨e, ws, rfl, he, hq⟩ := q
      have n1 : vs ≠ [] := fun z => hl.1 (by subst z; have := hr.length; exact List.length_eq_zero_iff.mp this)
      have n2 : ws ≠ [] := fun z => hl.2.1 (by subst z; have := hq.length; exact List.length_eq_zero_iff.mp this)
      exact op_catT pins s σ H _ _ v u Q I rx ry ⟨d, e, vs, ws, rfl, rfl, .of hd, .of he, n1, by rw [← hr.length, ← hq.length]; exact hl.2.2, fun z => absurd z n2, fun _ p hp => t p _ hp (hr.append hq)⟩
    · exact t.elim
theorem od_sub : OpR X (binaryOp .Sub) (rD2 X.K subF) := OpR.ofD fun S a b pins s σ H x y v u Q I rx ry l p q t => by
  cases a <;> cases b <;> simp only [subF] at t <;> try exact t.elim
  rename_i i j; exact op_sub pins s σ H x y v u Q I rx ry ⟨i, j, p, q, t _ rep_int⟩
theorem foldl_rep' (x : Array Nat) : ∀ (k : Nat) (acc : Array Nat), (List.replicate k x).foldl (· ++ ·) acc = acc ++ (List.replicate k x.toList).flatten.toArray
  | 0, acc => by simp
  | k + 1, acc => by
    rw [List.replicate_succ, List.foldl_cons, foldl_rep' x k, List.replicate_succ, List.flatten_cons]
    obtain ⟨x⟩ := x
    obtain ⟨a⟩ := acc
    simp
theorem strRep_len (x : Str) (n : Nat) : (strRep x n).length = n * x.length := by
  show (List.replicate n x.cps.toList).flatten.toArray.size = n * x.cps.size
  simp
theorem op_strRep (pins : List (Addr × Obj)) (s : Shared) (σ : St) (H : Hp) (x : Str) (n : Int) (v u : Value) (Q : VK) (I : Inv X pins σ H s) (rx : RelV (.str x) v) (ry : RelV (.int n) u) (h0 : 0 ≤ n ∧ n ≤ 100 ∧ x.length ≤ 1000) (q : Q (.str (strRep x n.toNat)) H) :
    wpAny (model X.prog X.w) X.A (binaryOp .Mult v u) (EP X pins σ Q) X.xe s := by
  obtain ⟨t, rfl⟩ := rx
  obtain ⟨t2, rfl⟩ := ry
  obtain ⟨h0, h1, h2⟩ := h0
  have hm : x.length * n.toNat ≤ 100000 := by
    have : n.toNat ≤ 100 := by omega
    exact Nat.le_trans (Nat.mul_le_mul h2 this) (by decide)
  refine PySem.P.mul_str (by simp; omega) (fun h3 _ => ?_) (fun _ _ => ?_) ?_
  · intro hh
    have h4 : (100 : Int) * 10000 ≤ 2 ^ 63 - 1 := by decide
    have h5 : (10000 : Int) ≤ (2 ^ 63 - 1) / n := by
      refine Int.le_ediv_of_mul_le (by omega) ?_
      calc (10000 : Int) * n ≤ 10000 * 100 := Int.mul_le_mul_of_nonneg_left h1 (by decide)
        _ ≤ 2 ^ 63 - 1 := by decide
    omega
  · unfold Builtin.Str.tooLong
    have := sizeLine_eq
    exact decide_eq_false (by omega)
  · split
    · rename_i h3
      have : n = 0 := by omega
      subst this
      exact ⟨by decide, ⟨.str _, H, I.tok _, ⟨_, rfl⟩, q⟩⟩
    · split
      · rename_i h3 h4
        refine ⟨.str x, H, I, ⟨_, rfl⟩, ?_⟩
        rw [Bool.or_eq_true, beq_iff_eq, beq_iff_eq] at h4
        have e : x = strRep x n.toNat := by
          obtain ⟨⟨l⟩⟩ := x
          rcases h4 with rfl | h4
          · simp [strRep]
          · have : l = [] := List.eq_nil_of_length_eq_zero h4
            subst this
            simp [strRep]
        rw [← e] at q
        exact q
      · have e : (⟨(List.replicate n.toNat x.cps).foldl (· ++ ·) #[]⟩ : Str) = strRep x n.toNat := by
          rw [foldl_rep']
          simp [strRep]
        rw [e]
        refine ⟨?_, ⟨.str _, H, I.tok _, ⟨_, rfl⟩, q⟩⟩
        rw [strRep_len, sizeLine_eq, Nat.mul_comm]; omega
theorem od_mul : OpR X (binaryOp .Mult) (rD2 X.K mulF) := OpR.ofD fun S a b pins s σ H x y v u Q I rx ry l p q t => by
  cases a <;> cases b <;> simp only [mulF] at t <;> try exact t.elim
  · rename_i i j
    split at t
    · rename_i hl; exact op_mul pins s σ H x y v u Q I rx ry ⟨i, j, p, q, mulOk_to hl, t _ rep_int⟩
    · exact t.elim
  · rename_i z n
    split at t
    · rename_i hl
      have p : x = .str z := p
      have q : y = .int n := q
      subst p q
      exact op_strRep pins s σ H z n v u Q I rx ry (by have z := of_decide_eq_true hl; exact z) (t _ rep_str)
    · exact t.elim
theorem od_div : OpR X (binaryOp .FloorDiv) (rD2 X.K divF) := OpR.ofD fun S a b pins s σ H x y v u Q I rx ry l p q t => by
  cases a <;> cases b <;> simp only [divF] at t <;> try exact t.elim
  rename_i i j
  split at t
  · rename_i hl; exact op_fdivN pins s σ H x y v u Q I rx ry ⟨i, j, p, q, (by have z := of_decide_eq_true hl; exact z), t _ rep_int⟩
  · exact t.elim
theorem od_mod : OpR X (binaryOp .Mod) (rD2 X.K modF) := OpR.ofD fun S a b pins s σ H x y v u Q I rx ry l p q t => by
  cases a <;> cases b <;> simp only [modF] at t <;> try exact t.elim
  rename_i i j
  split at t
  · rename_i hl; exact op_modN pins s σ H x y v u Q I rx ry ⟨i, j, p, q, hl, t _ rep_int⟩
  · exact t.elim
theorem od_pow : OpR X (binaryOp .Pow) (rD2 X.K powF) := OpR.ofD fun S a b pins s σ H x y v u Q I rx ry l p q t => by
  cases a <;> cases b <;> simp only [powF] at t <;> try exact t.elim
  rename_i i j
  split at t
  · rename_i hl; exact op_pow pins s σ H x y v u Q I rx ry ⟨i, j, p, q, (by have z := of_decide_eq_true hl; exact z), t _ rep_int⟩
  · exact t.elim
theorem od_neg : UnR X (unaryOp .USub) (rD1 X.K negF) := fun pins s σ H x v Q I rx ⟨S, a, l, p, t⟩ => by
  cases a <;> simp only [negF] at t <;> try exact t.elim
  rename_i i; exact un_neg pins s σ H x v Q I rx ⟨i, p, t _ rep_int⟩
theorem od_lt : OpR X (compareOp .Lt) (rD2 X.K ltF) := OpR.ofD fun S a b pins s σ H x y v u Q I rx ry l p q t => by
  cases a <;> cases b <;> simp only [ltF] at t <;> try exact t.elim
  rename_i i j; exact op_lt pins s σ H x y v u Q I rx ry ⟨i, j, p, q, t _ rep_bl⟩
theorem od_le : OpR X (compareOp .LtE) (rD2 X.K leF) := OpR.ofD fun S a b pins s σ H x y v u Q I rx ry l p q t => by
  cases a <;> cases b <;> simp only [leF] at t <;> try exact t.elim
  rename_i i j; exact op_le pins s σ H x y v u Q I rx ry ⟨i, j, p, q, t _ rep_bl⟩
theorem od_gt : OpR X (compareOp .Gt) (rD2 X.K gtF) := OpR.ofD fun S a b pins s σ H x y v u Q I rx ry l p q t => by
  cases a <;> cases b <;> simp only [gtF] at t <;> try exact t.elim
  rename_i i j; exact op_gt pins s σ H x y v u Q I rx ry ⟨i, j, p, q, t _ rep_bl⟩
theorem od_ge : OpR X (compareOp .GtE) (rD2 X.K geF) := OpR.ofD fun S a b pins s σ H x y v u Q I rx ry l p q t => by
  cases a <;> cases b <;> simp only [geF] at t <;> try exact t.elim
  rename_i i j; exact op_ge pins s σ H x y v u Q I rx ry ⟨i, j, p, q, t _ rep_bl⟩
end

/-! ### == -/
@[simp] def flatF : F → Bool
  | .non => true | .bl _ => true | .int _ => true | .str _ => true
  | _ => false
@[simp] def eqFl : F → F → Bool
  | .non, .non => true
  | .bl a, .bl b => a == b
  | .bl a, .int b => (if a then 1 else 0) == b
  | .int a, .bl b => a == (if b then 1 else 0)
  | .int a, .int b => a == b
  | .str a, .str b => a == b
  | _, _ => false
def allO : List (Option Bool) → Option Bool
  | [] => some true
  | none :: _ => none
  | some b :: r => match allO r with
    | some c => some (b && c)
    | none => none
def eqN : Nat → F → F → Option Bool
  | 0, _, _ => none
  | n + 1, .lst xs, .lst ys => if xs.length = ys.length then allO (List.zipWith (eqN n) xs ys) else some false
  | _ + 1, .tup xs, .tup ys => if xs.all flatF && ys.all flatF then some (decide (xs.length = ys.length) && (List.zipWith eqFl xs ys).all id) else none
  | _ + 1, .dct ks, .dct ls => if (ks.all fun p => flatF p.2) && (ls.all fun p => flatF p.2) then some (decide (ks.length = ls.length) && ks.all fun p => match vK ls p.1 with
      | some y => eqFl p.2 y
      | none => false) else none
  | _ + 1, x, y => if flatF x && flatF y then some (eqFl x y) else none
def eqT (x y : F) : Option Bool := match x, y with
  | .str a, .str b => some (a == b)
  | .str _, _ => none
  | _, .str _ => none
  | x, y => eqN 6 x y
@[simp] def eqF (x y : F) : Op := match eqT x y with
  | some b => .val (.bl b)
  | none => .bad
@[simp] def neF (x y : F) : Op := match eqT x y with
  | some b => .val (.bl (!b))
  | none => .bad
theorem flatV_of {K : PySem.W.Frag} {S H : Hp} {x : F} {v : V} (p : RepP K S H x v) (f : flatF x = true) : flatV v = true ∧ Rep K S x v := by
  cases x with
  | non => have p : v = V.non := p; subst p; exact ⟨rfl, by simp only [Rep]⟩
  | bl b => have p : v = V.bl b := p; subst p; exact ⟨rfl, by simp only [Rep]⟩
  | int b => have p : v = V.int b := p; subst p; exact ⟨rfl, by simp only [Rep]⟩
  | str b => have p : v = V.str b := p; subst p; exact ⟨rfl, by simp only [Rep]⟩
  | _ => exact absurd f Bool.false_ne_true
theorem rep_flat {K : PySem.W.Frag} {S H : Hp} {x : F} {v : V} (p : Rep K S x v) (f : flatF x = true) : RepP K S H x v := by
  cases x with
  | non => simp only [Rep] at p; exact p
  | bl b => simp only [Rep] at p; exact p
  | int b => simp only [Rep] at p; exact p
  | str b => simp only [Rep] at p; exact p
  | _ => exact absurd f Bool.false_ne_true
theorem eqFl_V {K : PySem.W.Frag} {S H : Hp} {x y : F} {v u : V} (p : RepP K S H x v) (q : RepP K S H y u) (f : flatF x = true) (g : flatF y = true) : eqFl x y = eqV v u := by
  have hv : ∀ {z : F} {w : V}, RepP K S H z w → flatF z = true → (z = .non ∧ w = .non) ∨ (∃ b, z = .bl b ∧ w = .bl b) ∨ (∃ b, z = .int b ∧ w = .int b) ∨ ∃ b, z = .str b ∧ w = .str b := fun {z w} p f => by
    cases z with
    | non => exact .inl ⟨rfl, p⟩
    | bl b => exact .inr (.inl ⟨b, rfl, p⟩)
    | int b => exact .inr (.inr (.inl ⟨b, rfl, p⟩))
    | str b => exact .inr (.inr (.inr ⟨b, rfl, p⟩))
    | _ => exact absurd f Bool.false_ne_true
  rcases hv p f with ⟨rfl, rfl⟩ | ⟨b, rfl, rfl⟩ | ⟨b, rfl, rfl⟩ | ⟨b, rfl, rfl⟩ <;> rcases hv q g with ⟨rfl, rfl⟩ | ⟨c, rfl, rfl⟩ | ⟨c, rfl, rfl⟩ | ⟨c, rfl, rfl⟩ <;> rfl

theorem allO_some : ∀ {l : List (Option Bool)} {b : Bool}, allO l = some b → ∃ bs : List Bool, l = bs.map some ∧ b = bs.all id
  | [], b, h => by simp only [allO] at h; cases h; exact ⟨[], rfl, rfl⟩
  | none :: _, b, h => by simp only [allO] at h; cases h
  | some c :: r, b, h => by
    simp only [allO] at h
    cases e : allO r with
    | none => rw [e] at h; cases h
    | some d =>
      rw [e] at h
      cases h
      obtain ⟨bs, rfl, rfl⟩ := allO_some e
      exact ⟨c :: bs, rfl, rfl⟩
theorem eqN_flat {n : Nat} {x y : F} {b : Bool} (hx : flatF x = true) (h : eqN n x y = some b) : flatF y = true ∧ b = eqFl x y := by
  cases n with
  | zero => simp only [eqN] at h; cases h
  | succ n =>
    cases x with
    | lst _ => exact absurd hx Bool.false_ne_true
    | tup _ => exact absurd hx Bool.false_ne_true
    | dct _ => exact absurd hx Bool.false_ne_true
    | scr _ => exact absurd hx Bool.false_ne_true
    | _ =>
      simp only [eqN] at h
      split at h
      · rename_i q
        simp only [Bool.and_eq_true] at q
        cases h; exact ⟨q.2, rfl⟩
      · cases h
theorem eqFl_refl {x : F} (h : flatF x = true) : eqFl x x = true := by
  cases x with
  | lst _ => exact absurd h Bool.false_ne_true
  | tup _ => exact absurd h Bool.false_ne_true
  | dct _ => exact absurd h Bool.false_ne_true
  | scr _ => exact absurd h Bool.false_ne_true
  | _ => simp
theorem rep_flat_inj {K : PySem.W.Frag} {S : Hp} {x y : F} {v : V} (p : Rep K S x v) (q : Rep K S y v) (hx : flatF x = true) (hy : flatF y = true) : x = y := by
  cases x <;> cases y <;> first | (exact absurd hx Bool.false_ne_true) | (exact absurd hy Bool.false_ne_true) | (simp only [Rep] at p q; subst p; cases q <;> rfl)
theorem nodup_vK {α : Type} {k : Key} {x : α} : ∀ {ls : List (Key × α)}, (ls.map (·.1)).Nodup → (k, x) ∈ ls → vK ls k = some x
  | [], _, h => by cases h
  | (l, y) :: r, nd, h => by
    rw [List.map_cons] at nd
    obtain ⟨n1, n2⟩ := List.nodup_cons.mp nd
    rcases List.mem_cons.mp h with e | h
    · cases e; simp [vK]
    · have ne : l ≠ k := fun z => n1 (by rw [z]; exact List.mem_map.mpr ⟨_, h, rfl⟩)
      have := nodup_vK n2 h
      simpa [vK, ne] using this
/-- one object equals itself -/
theorem eq_same {K : PySem.W.Frag} {S : Hp} (nd : ∀ a kvs, S a = some (.dK kvs) → (kvs.map (·.1)).Nodup) : ∀ (n : Nat) (x y : F) (v : V) (b : Bool), Rep K S x v → Rep K S y v → eqN n x y = some b → b = true
  | 0, _, _, _, _, _, _, h => by simp only [eqN] at h; cases h
  | n + 1, x, y, v, b, p, q, h => by
    have flatc : flatF x = true → b = true := fun hx => by
      obtain ⟨hy, rfl⟩ := eqN_flat hx h
      rw [rep_flat_inj p q hx hy]; exact eqFl_refl hy
    cases x with
    | lst xs =>
      cases y with
      | lst ys =>
        simp only [eqN] at h
        simp only [Rep] at p q
        obtain ⟨a, vs, rfl, h1, h2⟩ := p
        obtain ⟨c, ws, e, h3, h4⟩ := q
        cases e
        rw [h1] at h3; cases h3
        split at h
        · obtain ⟨bs, e1, rfl⟩ := allO_some h
          rw [List.all_eq_true]
          intro b hb
          obtain ⟨j, hj⟩ := List.getElem?_of_mem hb
          have e2 : (List.zipWith (eqN n) xs ys)[j]? = some (some b) := by rw [e1, List.getElem?_map, hj]; rfl
          rw [List.getElem?_zipWith] at e2
          cases ex : xs[j]? with
          | none => rw [ex] at e2; cases ys[j]? <;> cases e2
          | some x1 =>
            cases ey : ys[j]? with
            | none => rw [ex, ey] at e2; cases e2
            | some y1 =>
              rw [ex, ey] at e2
              have e2 : eqN n x1 y1 = some b := Option.some.inj e2
              obtain ⟨v1, k1, r1⟩ := h2.get ex
              obtain ⟨v2, k2, r2⟩ := h4.get ey
              rw [k1] at k2; cases k2
              exact eq_same nd n x1 y1 v1 b r1 r2 e2
        · rename_i hl; exact absurd (h2.length.trans h4.length.symm) hl
      | _ => simp [eqN] at h
    | tup xs =>
      cases y with
      | tup ys =>
        simp only [eqN] at h
        simp only [Rep] at p q
        obtain ⟨a, vs, rfl, h1, h2⟩ := p
        obtain ⟨c, ws, e, h3, h4⟩ := q
        cases e
        rw [h1] at h3; cases h3
        split at h
        · rename_i hf
          simp only [Bool.and_eq_true] at hf
          cases h
          have hl := h2.length.trans h4.length.symm
          rw [decide_eq_true hl, Bool.true_and, List.all_eq_true]
          intro b hb
          obtain ⟨j, hj⟩ := List.getElem?_of_mem hb
          rw [List.getElem?_zipWith] at hj
          cases ex : xs[j]? with
          | none => rw [ex] at hj; cases ys[j]? <;> cases hj
          | some x1 =>
            cases ey : ys[j]? with
            | none => rw [ex, ey] at hj; cases hj
            | some y1 =>
              rw [ex, ey] at hj
              obtain ⟨v1, k1, r1⟩ := h2.get ex
              obtain ⟨v2, k2, r2⟩ := h4.get ey
              rw [k1] at k2; cases k2
              have f1 := List.all_eq_true.mp hf.1 _ (List.mem_of_getElem? ex)
              have f2 := List.all_eq_true.mp hf.2 _ (List.mem_of_getElem? ey)
              have e3 : eqFl x1 y1 = b := Option.some.inj hj
              rw [← e3, rep_flat_inj r1 r2 f1 f2]; exact eqFl_refl f2
        · cases h
      | _ => simp [eqN] at h
    | dct ks =>
      cases y with
      | dct ls =>
        simp only [eqN] at h
        simp only [Rep] at p q
        obtain ⟨a, vs, rfl, h1, h2⟩ := p
        obtain ⟨c, ws, e, h3, h4⟩ := q
        cases e
        have hn := nd _ _ h1
        rw [h1] at h3; cases h3
        split at h
        · rename_i hf
          simp only [Bool.and_eq_true, List.all_eq_true] at hf
          cases h
          have hl := h2.length.trans h4.length.symm
          rw [decide_eq_true hl, Bool.true_and, List.all_eq_true]
          intro pr hp
          obtain ⟨k, x1⟩ := pr
          rcases h2.val k with ⟨x2, v2, q1, q2, q3⟩ | ⟨q1, q2⟩
          · rcases h4.val k with ⟨y2, w2, q4, q5, q6⟩ | ⟨q4, q5⟩
            · rw [q4]
              rw [q2] at q5; cases q5
              have n1 : (ks.map (·.1)).Nodup := by rw [h2.keys]; exact hn
              have e1 := nodup_vK n1 hp
              rw [q1] at e1; cases e1
              have m2 : ∃ k', (k', y2) ∈ ls := by
                unfold vK at q4
                cases e : ls.find? (fun kv => decide (kv.1 = k)) with
                | none => rw [e] at q4; cases q4
                | some z => rw [e] at q4; cases q4; exact ⟨z.1, List.mem_of_find?_eq_some e⟩
              obtain ⟨k', m2⟩ := m2
              show eqFl x1 y2 = true
              have f1 := hf.1 _ hp
              have f2 := hf.2 _ m2
              rw [rep_flat_inj q3 q6 f1 f2]; exact eqFl_refl f2
            · rw [q2] at q5; cases q5
          · have n1 : (ks.map (·.1)).Nodup := by rw [h2.keys]; exact hn
            have e1 := nodup_vK n1 hp
            rw [q1] at e1; cases e1
        · cases h
      | _ => simp [eqN] at h
    | scr ns => cases y <;> simp [eqN] at h
    | non => exact flatc rfl
    | bl _ => exact flatc rfl
    | int _ => exact flatc rfl
    | str _ => exact flatc rfl

section
variable {X : Cx} {pins : List (Addr × Obj)} {σ : St} {H S : Hp} {s : Shared}
theorem S_nodup (I : Inv X pins σ H s) (l : Lk S H) : ∀ a kvs, S a = some (.dK kvs) → (kvs.map (·.1)).Nodup := fun a kvs e => by
  obtain ⟨_, _, vs, rel, dd⟩ := dk_rd I.hok (l _ _ e)
  obtain ⟨_, _, _, _, _, _, _, _, hn⟩ := dd
  rw [rel.keys]; exact hn
theorem hits_of {A : Around} {ls : List (Key × F)} {vc : List (Key × V)} {uc : List (Key × Value)} (relc : KV vc uc) (rc : RepK X.K S ls vc) (fc : (ls.all fun p => flatF p.2) = true) {va : List (Key × V)} {ua : List (Key × Value)} (rela : KV va ua) :
    ∀ {ks : List (Key × F)}, RepK X.K S ks va → (ks.all fun p => flatF p.2) = true → PySem.W.KeqHits A s uc ua (ks.all fun p => match vK ls p.1 with
        | some y => eqFl p.2 y
        | none => false) := by
  unfold KV at rela
  induction rela with
  | nil =>
    intro ks ra fa
    cases ks with
    | nil => exact .nil
    | cons _ _ => simp only [RepK] at ra; obtain ⟨_, _, e, _⟩ := ra; cases e
  | @cons p q ps qs hpq t ih =>
    intro ks ra fa
    cases ks with
    | nil => simp only [RepK] at ra; cases ra
    | cons k1 ks =>
      obtain ⟨k, x⟩ := k1
      simp only [RepK] at ra
      obtain ⟨v, r, e, rx, rr⟩ := ra
      cases e
      obtain ⟨e1, e2⟩ := hpq
      obtain ⟨qk, qv⟩ := q
      have e1 : k = qk := e1
      subst e1
      rw [List.all_cons] at fa
      simp only [Bool.and_eq_true] at fa
      have hr0 := ih rr fa.2
      rw [List.all_cons]
      rcases rc.val k with ⟨y, w', q1, q2, q3⟩ | ⟨q1, q2⟩
      · have ro := relc.val k
        rw [q2] at ro
        obtain ⟨u, hu, ru⟩ := ro.some_of
        have fy : flatF y = true := by
          unfold vK at q1
          cases e : ls.find? (fun kv => decide (kv.1 = k)) with
          | none => rw [e] at q1; cases q1
          | some z => rw [e] at q1; cases q1; exact List.all_eq_true.mp fc _ (List.mem_of_find?_eq_some e)
        simp only [q1]
        refine .hit hu ?_ hr0
        rw [eqFl_V (rep_flat (H := S) rx fa.1) (rep_flat (H := S) q3 fy) fa.1 fy]
        exact eqAt_V e2 ru (flatV_of (rep_flat (H := S) rx fa.1) fa.1).1 (flatV_of (rep_flat (H := S) q3 fy) fy).1
      · have ro := relc.val k
        rw [q2] at ro
        simp only [q1, Bool.false_and]
        exact .miss ro.none_of
theorem dct_run {a c : Addr} {ks ls : List (Key × F)} {va vc : List (Key × V)} (I : Inv X pins σ H s) (ha : Rd H a (.dK va)) (hc : Rd H c (.dK vc)) (ra : RepK X.K S ks va) (rc : RepK X.K S ls vc) (fa : (ks.all fun p => flatF p.2) = true) (fc : (ls.all fun p => flatF p.2) = true)
    {A : Around} : ∃ (ka kb : List (Key × Value)), (a == sysModules) = false ∧ (c == sysModules) = false ∧ s.heap.DictOf (mixKind X.prog X.w) a ka ∧ s.heap.DictOf (mixKind X.prog X.w) c kb ∧ ka.length = ks.length ∧ kb.length = ls.length ∧
      PySem.W.KeqHits A s kb ka (ks.all fun p => match vK ls p.1 with
        | some y => eqFl p.2 y
        | none => false) := by
  obtain ⟨_, h1, ua, rela, da⟩ := dk_rd I.hok ha
  obtain ⟨_, h2, uc, relc, dc⟩ := dk_rd I.hok hc
  exact ⟨ua, uc, h1, h2, da, dc, by rw [← rela.length, ← ra.length], by rw [← relc.length, ← rc.length], hits_of relc rc fc rela ra fa⟩
theorem keqHitsP {A : Around} {kb : List (Key × Value)} : ∀ {ka : List (Key × Value)} {r : Bool}, PySem.W.KeqHits A s kb ka r → PySem.W.KeqHitsP X.prog X.w A s kb ka r
  | _, _, .nil => .nil
  | _, _, .miss h => .miss h
  | _, _, .hit h1 h2 h3 => .hit h1 h2.eqP (keqHitsP h3)
theorem zip_at {α β γ : Type} {f : α → β → γ} {xs : List α} {ys : List β} {j : Nat} {x : α} {y : β} (hx : xs[j]? = some x) (hy : ys[j]? = some y) : (List.zipWith f xs ys)[j]? = some (f x y) := by
  rw [List.getElem?_zipWith, hx, hy]
theorem range_all {n : Nat} {bs : List Bool} (h : bs.length = n) : ((List.range n).all fun j => (bs[j]?).getD false) = bs.all id := by
  rw [Bool.eq_iff_iff, List.all_eq_true, List.all_eq_true]
  constructor
  · intro h1 b hb
    obtain ⟨j, hj⟩ := List.getElem?_of_mem hb
    have := h1 j (List.mem_range.mpr (by rw [← h]; exact (List.getElem?_eq_some_iff.mp hj).1))
    rw [hj] at this; exact this
  · intro h1 j hj
    have hl : j < bs.length := by rw [h]; exact List.mem_range.mp hj
    rw [List.getElem?_eq_getElem hl]
    exact h1 _ (List.getElem_mem hl)
/-- two values compared within others -/
theorem eq_run (I : Inv X pins σ H s) (l : Lk S H) : ∀ (n : Nat) (A : Around), A.units + n < cLine → ∀ (x y : F) (v u : V) (vv uu : Value) (b : Bool), Rep X.K S x v → Rep X.K S y u → RelV v vv → RelV u uu → eqN n x y = some b → SeqAt.EqP X.prog X.w A s vv uu b
  | 0, _, _, _, _, _, _, _, _, _, _, _, _, _, h => by simp only [eqN] at h; cases h
  | n + 1, A, hu, x, y, v, u, vv, uu, b, p, q, rv, ru, h => by
    have flatc : flatF x = true → SeqAt.EqP X.prog X.w A s vv uu b := fun hx => by
      obtain ⟨hy, rfl⟩ := eqN_flat hx h
      have p1 := rep_flat (H := H) p hx
      have q1 := rep_flat (H := H) q hy
      rw [eqFl_V p1 q1 hx hy]
      exact (eqAt_V rv ru (flatV_of p1 hx).1 (flatV_of q1 hy).1).eqP
    have same : ∀ a, v = .ref a → u = .ref a → SeqAt.EqP X.prog X.w A s vv uu b := fun a e1 e2 => by
      subst e1 e2
      cases rv; cases ru
      rw [eq_same (S_nodup I l) (n + 1) x y (.ref a) b p q h]
      exact (SeqAt.EqAt.same _).eqP
    cases x with
    | non => exact flatc rfl
    | bl _ => exact flatc rfl
    | int _ => exact flatc rfl
    | str _ => exact flatc rfl
    | scr ns => cases y <;> simp [eqN] at h
    | lst xs =>
      cases y with
      | lst ys =>
        simp only [Rep] at p q
        obtain ⟨a, vs, rfl, h1, h2⟩ := id p
        obtain ⟨c, ws, rfl, h3, h4⟩ := id q
        by_cases e : a = c
        · subst e; exact same a rfl rfl
        · cases (show vv = Value.ref a from rv)
          cases (show uu = Value.ref c from ru)
          obtain ⟨its, r1, p1, _⟩ := I.list (SqL.of (l _ _ h1))
          obtain ⟨its2, r2, p2, _⟩ := I.list (SqL.of (l _ _ h3))
          have n1 : xs.length = its.length := h2.length.trans r1.length
          have n2 : ys.length = its2.length := h4.length.trans r2.length
          simp only [eqN] at h
          split at h
          · rename_i hl
            obtain ⟨bs, e1, rfl⟩ := allO_some h
            have hbl : bs.length = its.toArray.size := by
              have := congrArg List.length e1
              simp at this
              simp; omega
            refine SeqAt.eqP_refs e fun E Q hq => SeqAt.rcP_lists (e := fun j => (bs[j]?).getD false) p1.isList p2.isList (by simp; omega) (by omega) (fun j j1 j2 => ?_) E Q (by rw [range_all hbl]; exact hq)
            have hj1 : j < its.length := by simpa using j1
            have hj2 : j < its2.length := by simpa using j2
            obtain ⟨x1, ex⟩ : ∃ z, xs[j]? = some z := ⟨_, List.getElem?_eq_getElem (by omega)⟩
            obtain ⟨y1, ey⟩ : ∃ z, ys[j]? = some z := ⟨_, List.getElem?_eq_getElem (by omega)⟩
            obtain ⟨v1, k1, t1⟩ := h2.get ex
            obtain ⟨u1, k2, t2⟩ := h4.get ey
            obtain ⟨w1, m1, g1⟩ := Vals.get r1 k1
            obtain ⟨w2, m2, g2⟩ := Vals.get r2 k2
            have z := zip_at (f := eqN n) ex ey
            rw [e1, List.getElem?_map] at z
            cases eb : bs[j]? with
            | none => rw [eb] at z; cases z
            | some bj =>
              rw [eb] at z
              have ez : eqN n x1 y1 = some bj := (Option.some.inj z).symm
              have := eq_run I l n A.in1 (by show A.units + 1 + n < cLine; omega) x1 y1 v1 u1 w1 w2 bj t1 t2 g1 g2 ez
              have i1 : its.toArray[j] = w1 := by
                have : its[j]? = some w1 := m1
                simp at this ⊢
                obtain ⟨_, z⟩ := List.getElem?_eq_some_iff.mp m1
                exact z
              have i2 : its2.toArray[j] = w2 := by
                simp
                obtain ⟨_, z⟩ := List.getElem?_eq_some_iff.mp m2
                exact z
              rw [i1, i2]
              exact this
          · rename_i hl
            cases h
            refine (SeqAt.EqAt.of_refs e (SeqAt.RcAt.lists_lengths p1.isList p2.isList ?_ (by omega))).eqP
            simp; omega
      | _ => simp [eqN] at h
    | tup xs =>
      cases y with
      | tup ys =>
        simp only [Rep] at p q
        obtain ⟨a, vs, rfl, h1, h2⟩ := id p
        obtain ⟨c, ws, rfl, h3, h4⟩ := id q
        by_cases e : a = c
        · subst e; exact same a rfl rfl
        · cases (show vv = Value.ref a from rv)
          cases (show uu = Value.ref c from ru)
          obtain ⟨its, r1, p1, _⟩ := I.tuple (SqT.of (l _ _ h1))
          obtain ⟨its2, r2, p2, _⟩ := I.tuple (SqT.of (l _ _ h3))
          have n1 : xs.length = its.length := h2.length.trans r1.length
          have n2 : ys.length = its2.length := h4.length.trans r2.length
          simp only [eqN] at h
          split at h
          · rename_i hf
            simp only [Bool.and_eq_true] at hf
            cases h
            have at_ : ∀ j (x1 y1 : F), xs[j]? = some x1 → ys[j]? = some y1 → ((List.zipWith eqFl xs ys)[j]?).getD false = eqFl x1 y1 := fun j x1 y1 e1 e2 => by rw [zip_at e1 e2]; rfl
            have hz : (List.zipWith eqFl xs ys).length = min its.toArray.size its2.toArray.size := by simp; omega
            have key := SeqAt.RcAt.tuples (e := fun j => ((List.zipWith eqFl xs ys)[j]?).getD false) (A := A) (s := s) p1 p2 (by omega) (fun j j1 j2 => ?_)
            · rw [range_all hz] at key
              have e5 : ((List.zipWith eqFl xs ys).all id && its.toArray.size == its2.toArray.size) = (decide (xs.length = ys.length) && (List.zipWith eqFl xs ys).all id) := by
                rw [Bool.and_comm]
                congr 1
                rw [Bool.eq_iff_iff]; simp; omega
              rw [e5] at key
              exact (SeqAt.EqAt.of_refs e key).eqP
            · have hj1 : j < its.length := by simpa using j1
              have hj2 : j < its2.length := by simpa using j2
              obtain ⟨x1, ex⟩ : ∃ z, xs[j]? = some z := ⟨_, List.getElem?_eq_getElem (by omega)⟩
              obtain ⟨y1, ey⟩ : ∃ z, ys[j]? = some z := ⟨_, List.getElem?_eq_getElem (by omega)⟩
              obtain ⟨v1, k1, t1⟩ := h2.get ex
              obtain ⟨u1, k2, t2⟩ := h4.get ey
              obtain ⟨w1, m1, g1⟩ := Vals.get r1 k1
              obtain ⟨w2, m2, g2⟩ := Vals.get r2 k2
              have i1 : its.toArray[j] = w1 := by
                simp
                obtain ⟨_, z⟩ := List.getElem?_eq_some_iff.mp m1
                exact z
              have i2 : its2.toArray[j] = w2 := by
                simp
                obtain ⟨_, z⟩ := List.getElem?_eq_some_iff.mp m2
                exact z
              rw [i1, i2, at_ j x1 y1 ex ey]
              have f1 := List.all_eq_true.mp hf.1 _ (List.mem_of_getElem? ex)
              have f2 := List.all_eq_true.mp hf.2 _ (List.mem_of_getElem? ey)
              have p1 := rep_flat (H := H) t1 f1
              have q1 := rep_flat (H := H) t2 f2
              rw [eqFl_V p1 q1 f1 f2]
              exact eqAt_V g1 g2 (flatV_of p1 f1).1 (flatV_of q1 f2).1
          · cases h
      | _ => simp [eqN] at h
    | dct ks =>
      cases y with
      | dct ls =>
        simp only [Rep] at p q
        obtain ⟨a, vs, rfl, h1, h2⟩ := id p
        obtain ⟨c, ws, rfl, h3, h4⟩ := id q
        by_cases e : a = c
        · subst e; exact same a rfl rfl
        · cases (show vv = Value.ref a from rv)
          cases (show uu = Value.ref c from ru)
          simp only [eqN] at h
          split at h
          · rename_i hf
            simp only [Bool.and_eq_true] at hf
            cases h
            obtain ⟨ka, kb, m1, m2, da, dc, l1, l2, hits⟩ := dct_run (A := A.in1) I (l _ _ h1) (l _ _ h3) h2 h4 hf.1 hf.2
            refine SeqAt.eqP_refs e fun E Q hq => PySem.W.rcP_dicts m1 m2 da dc (by omega) (fun _ => keqHitsP hits) E Q ?_
            rw [l1, l2]
            have : (ks.length == ls.length) = decide (ks.length = ls.length) := by rw [Bool.eq_iff_iff]; simp
            rw [this]; exact hq
          · cases h
      | _ => simp [eqN] at h
end
end Fm

/-! FI: == and != at the top. -/
namespace PySem.SeqAt
open AutoSeq1 (wpAny_loadPart')
open MeetsSeq MeetsSeq2 MeetsSeq3 SeqRoads2
section
variable {prog : Program} {w : World}
/-- the loop of != over two lists of one length, within one model -/
theorem fm_ne_loop (p q : Addr) (xs ys : Array Value) (n m : Nat) (d1 d2 : Option Addr) (s1 s2 : Array (Option Value)) (hsz : xs.size = ys.size) (e : Nat → Bool) (k : Nat) : ∀ i : Nat, xs.size - i = k →
    MeetsIn prog w (Builtin.«list.__eq__.loop» ⟨[.ref p, .ref q, rawInt i, rawInt 3], []⟩) (fun A R s =>
      s.heap.get? p = some { cls := .type "list", dict := d1, data := .seq xs n, slots := s1 } ∧ s.heap.get? q = some { cls := .type "list", dict := d2, data := .seq ys m, slots := s2 } ∧
      (∀ j (h1 : j < xs.size) (h2 : j < ys.size), EqP prog w A.in1 s xs[j] ys[j] (e j)) ∧ R (.ok (.ret (.bool (!((List.range xs.size).drop i).all e)))) s) := by
  induction k with
  | zero =>
    intro i hk A R s hyp
    obtain ⟨hp, g, d, tk, os⟩ := s
    obtain ⟨a1, a2, _, a4⟩ := hyp
    wp_walk using wpAny_loadPart' a1, wpAny_loadPart' a2
    rw [show xs[((i : Nat) : Int).toNat]? = none from by simp; omega, show ys[((i : Nat) : Int).toNat]? = none from by simp; omega]
    rw [show (List.range xs.size).drop i = [] from by simp; omega] at a4
    wp_walk using wpAny_loadPart' a1, wpAny_loadPart' a2
    show R (.ok (.ret (.bool (xs.size != ys.size)))) _
    rw [hsz]; simpa using a4
  | succ k ih =>
    intro i hk A R s hyp
    obtain ⟨hp, g, d, tk, os⟩ := s
    obtain ⟨a1, a2, a3, a4⟩ := hyp
    wp_walk using wpAny_loadPart' a1, wpAny_loadPart' a2
    have b1 : i < xs.size := by omega
    have b2 : i < ys.size := by omega
    rw [show (List.range xs.size).drop i = i :: (List.range xs.size).drop (i + 1) from by simp [List.drop_eq_getElem_cons, b1], List.all_cons] at a4
    rw [show xs[((i : Nat) : Int).toNat]? = some xs[i] from by simp [b1], show ys[((i : Nat) : Int).toNat]? = some ys[i] from by simp [b2]]
    refine wpAny_bind (a3 i b1 b2 _ _ ?_)
    cases c : e i with
    | true =>
      rw [c] at a4
      wp_walk
      rw [show ((i : Int) + 1) = ((i + 1 : Nat) : Int) from by push_cast; rfl]
      refine ⟨plainId_quiet plain_eq_loop _, codeAny_builtin entry_eq_loop ?_⟩
      rw [Around.under_plainId plain_eq_loop _]
      exact ih (i + 1) (by omega) A R _ ⟨a1, a2, a3, by simpa using a4⟩
    | false =>
      rw [c] at a4
      wp_walk using wpAny_loadPart' a1, wpAny_loadPart' a2
      rw [show xs[((i : Nat) : Int).toNat]? = some xs[i] from by simp [b1], show ys[((i : Nat) : Int).toNat]? = some ys[i] from by simp [b2]]
      wp_walk
      simpa using a4
theorem fm_list_ne (p q : Addr) (xs ys : Array Value) (n m : Nat) (d1 d2 : Option Addr) (s1 s2 : Array (Option Value)) (hsz : xs.size = ys.size) (e : Nat → Bool) :
    MeetsIn prog w (Builtin.«list.__ne__» ⟨[.ref p, .ref q], []⟩) (fun A R s =>
      s.heap.get? p = some { cls := .type "list", dict := d1, data := .seq xs n, slots := s1 } ∧ s.heap.get? q = some { cls := .type "list", dict := d2, data := .seq ys m, slots := s2 } ∧
      (∀ j (h1 : j < xs.size) (h2 : j < ys.size), EqP prog w A.in1 s xs[j] ys[j] (e j)) ∧ R (.ok (.ret (.bool (!(List.range xs.size).all e)))) s) := by
  intro A R s hyp
  obtain ⟨hp, g, d, tk, os⟩ := s
  obtain ⟨a1, a2, a3, a4⟩ := hyp
  have f3 := AutoSeq1.sub_list_list
  have hne : ¬ (xs.size != ys.size) = true := by simp [hsz]
  wp_walk using wpAny_loadPart' a1, wpAny_loadPart' a2
  refine ⟨plainId_quiet plain_eq_loop _, codeAny_builtin entry_eq_loop ?_⟩
  rw [Around.under_plainId plain_eq_loop _]
  exact fm_ne_loop p q xs ys n m d1 d2 s1 s2 hsz e _ 0 rfl A R _ ⟨a1, a2, a3, by simpa using a4⟩
theorem fm_rcNe_lists {A : Around} {s : Shared} {p q : Addr} {xs ys : Array Value} {e : Nat → Bool} (hp : s.heap.IsList p xs) (hq : s.heap.IsList q ys) (hsz : xs.size = ys.size) (hu : A.units < cLine)
    (he : ∀ j (h1 : j < xs.size) (h2 : j < ys.size), EqP prog w A.in1 s xs[j] ys[j] (e j)) (E Q : Value → Shared → Prop) (h : Q (.bool (!(List.range xs.size).all e)) s) : wpAny (model prog w) A (richCompare .NotEq (.ref p) (.ref q)) Q E s := by
  obtain ⟨⟨c1, d1, t1, s1⟩, o1, k1, n, m1⟩ := id hp
  obtain ⟨⟨c2, d2, t2, s2⟩, o2, k2, m, m2⟩ := id hq
  dsimp only at k1 k2 m1 m2
  subst k1 k2 m1 m2
  have ta : s.TypeIs (.ref p) "list" := ⟨_, o1, rfl⟩
  have tb : s.TypeIs (.ref q) "list" := ⟨_, o2, rfl⟩
  refine wpAny_richCompare_same_room (op := .NotEq) ta tb F.slot_list_ne (call_meetsIn F.slot_list_ne ta F.entry_list_ne (F.args_list_ne_2 _ _) (fm_list_ne p q xs ys n m d1 d2 s1 s2 hsz e) ?_) hu
  exact ⟨o1, o2, he, (fun z => nomatch z : Value.bool (!(List.range xs.size).all e) ≠ Value.notImplemented), h⟩
end
end PySem.SeqAt
namespace Fm
open PySem L2
section
variable {X : Cx} {pins : List (Addr × Obj)} {σ : St} {H S : Hp} {s : Shared}
/-- two lists of one length that can be compared: their items, and how each pair compares -/
theorem lst_pairs (I : Inv X pins σ H s) (l : Lk S H) {n : Nat} {A : Around} (hu : A.units + n < cLine) {xs ys : List F} {a c : Addr} {vs ws : List V} (h1 : H a = some (.lst vs)) (h2 : Reps X.K S xs vs) (h3 : H c = some (.lst ws)) (h4 : Reps X.K S ys ws) (hl : xs.length = ys.length) {b : Bool} (h : allO (List.zipWith (eqN n) xs ys) = some b) :
    ∃ (its its2 : Array Value) (bs : List Bool), s.heap.IsList a its ∧ s.heap.IsList c its2 ∧ its.size = its2.size ∧ bs.length = its.size ∧ b = bs.all id ∧ ∀ j (j1 : j < its.size) (j2 : j < its2.size), SeqAt.EqP X.prog X.w A s its[j] its2[j] ((bs[j]?).getD false) := by
  obtain ⟨its, r1, p1, _⟩ := I.list (SqL.of h1)
  obtain ⟨its2, r2, p2, _⟩ := I.list (SqL.of h3)
  have n1 : xs.length = its.length := h2.length.trans r1.length
  have n2 : ys.length = its2.length := h4.length.trans r2.length
  obtain ⟨bs, e1, rfl⟩ := allO_some h
  have hbl : bs.length = its.toArray.size := by
    have := congrArg List.length e1
    simp at this
    simp; omega
  refine ⟨its.toArray, its2.toArray, bs, p1.isList, p2.isList, by simp; omega, hbl, rfl, fun j j1 j2 => ?_⟩
  have hj1 : j < its.length := by simpa using j1
  have hj2 : j < its2.length := by simpa using j2
  obtain ⟨x1, ex⟩ : ∃ z, xs[j]? = some z := ⟨_, List.getElem?_eq_getElem (by omega)⟩
  obtain ⟨y1, ey⟩ : ∃ z, ys[j]? = some z := ⟨_, List.getElem?_eq_getElem (by omega)⟩
  obtain ⟨v1, k1, t1⟩ := h2.get ex
  obtain ⟨u1, k2, t2⟩ := h4.get ey
  obtain ⟨w1, m1, g1⟩ := Vals.get r1 k1
  obtain ⟨w2, m2, g2⟩ := Vals.get r2 k2
  have z := zip_at (f := eqN n) ex ey
  rw [e1, List.getElem?_map] at z
  cases eb : bs[j]? with
  | none => rw [eb] at z; cases z
  | some bj =>
    rw [eb] at z
    have ez : eqN n x1 y1 = some bj := (Option.some.inj z).symm
    have i1 : its.toArray[j] = w1 := by
      simp
      obtain ⟨_, z⟩ := List.getElem?_eq_some_iff.mp m1
      exact z
    have i2 : its2.toArray[j] = w2 := by
      simp
      obtain ⟨_, z⟩ := List.getElem?_eq_some_iff.mp m2
      exact z
    rw [i1, i2]
    exact eq_run I l n A hu x1 y1 v1 u1 w1 w2 bj t1 t2 g1 g2 ez
theorem tup_pairs (I : Inv X pins σ H s) (l : Lk S H) {A : Around} {xs ys : List F} {a c : Addr} {vs ws : List V} (h1 : H a = some (.tup vs)) (h2 : Reps X.K S xs vs) (h3 : H c = some (.tup ws)) (h4 : Reps X.K S ys ws) (fx : xs.all flatF = true) (fy : ys.all flatF = true) :
    ∃ (its its2 : Array Value), s.heap.IsTuple a its ∧ s.heap.IsTuple c its2 ∧ (List.zipWith eqFl xs ys).length = min its.size its2.size ∧ ((List.zipWith eqFl xs ys).all id && its.size == its2.size) = (decide (xs.length = ys.length) && (List.zipWith eqFl xs ys).all id) ∧
      ∀ j (j1 : j < its.size) (j2 : j < its2.size), SeqAt.EqAt A s its[j] its2[j] (((List.zipWith eqFl xs ys)[j]?).getD false) := by
  obtain ⟨its, r1, p1, _⟩ := I.tuple (SqT.of h1)
  obtain ⟨its2, r2, p2, _⟩ := I.tuple (SqT.of h3)
  have n1 : xs.length = its.length := h2.length.trans r1.length
  have n2 : ys.length = its2.length := h4.length.trans r2.length
  refine ⟨its.toArray, its2.toArray, p1, p2, by simp; omega, ?_, fun j j1 j2 => ?_⟩
  · rw [Bool.and_comm]
    congr 1
    rw [Bool.eq_iff_iff]; simp; omega
  have hj1 : j < its.length := by simpa using j1
  have hj2 : j < its2.length := by simpa using j2
  obtain ⟨x1, ex⟩ : ∃ z, xs[j]? = some z := ⟨_, List.getElem?_eq_getElem (by omega)⟩
  obtain ⟨y1, ey⟩ : ∃ z, ys[j]? = some z := ⟨_, List.getElem?_eq_getElem (by omega)⟩
  obtain ⟨v1, k1, t1⟩ := h2.get ex
  obtain ⟨u1, k2, t2⟩ := h4.get ey
  obtain ⟨w1, m1, g1⟩ := Vals.get r1 k1
  obtain ⟨w2, m2, g2⟩ := Vals.get r2 k2
  have i1 : its.toArray[j] = w1 := by
    simp
    obtain ⟨_, z⟩ := List.getElem?_eq_some_iff.mp m1
    exact z
  have i2 : its2.toArray[j] = w2 := by
    simp
    obtain ⟨_, z⟩ := List.getElem?_eq_some_iff.mp m2
    exact z
  rw [i1, i2, zip_at ex ey]
  have f1 := List.all_eq_true.mp fx _ (List.mem_of_getElem? ex)
  have f2 := List.all_eq_true.mp fy _ (List.mem_of_getElem? ey)
  have p1 := rep_flat (H := H) t1 f1
  have q1 := rep_flat (H := H) t2 f2
  show SeqAt.EqAt A s w1 w2 (eqFl x1 y1)
  rw [eqFl_V p1 q1 f1 f2]
  exact eqAt_V g1 g2 (flatV_of p1 f1).1 (flatV_of q1 f2).1
/-- flat values that are no texts, as the library's data -/
def datF : F → PyData
  | .bl b => .bool b
  | .int i => .int i
  | _ => .none
theorem datF_dp {K : PySem.W.Frag} {x : F} {v : V} (p : RepP K S H x v) (f : flatF x = true) (hs : ∀ a, x ≠ .str a) : Dp K H v (datF x) ∧ SeqAt.shaped (datF x) = true := by
  cases x with
  | non => have p : v = .non := p; subst p; exact ⟨.non, by decide⟩
  | bl b => have p : v = .bl b := p; subst p; exact ⟨.bl b, by cases b <;> decide⟩
  | int i => have p : v = .int i := p; subst p; exact ⟨.int i, rfl⟩
  | str a => exact absurd rfl (hs a)
  | _ => exact absurd f Bool.false_ne_true
theorem datF_eqv {x y : F} (fx : flatF x = true) (fy : flatF y = true) (hx : ∀ a, x ≠ .str a) (hy : ∀ a, y ≠ .str a) : PyData.eqv (datF x) (datF y) = eqFl x y := by
  cases x with
  | lst _ => exact absurd fx Bool.false_ne_true
  | tup _ => exact absurd fx Bool.false_ne_true
  | dct _ => exact absurd fx Bool.false_ne_true
  | scr _ => exact absurd fx Bool.false_ne_true
  | str a => exact absurd rfl (hx a)
  | _ =>
    cases y with
    | lst _ => exact absurd fy Bool.false_ne_true
    | tup _ => exact absurd fy Bool.false_ne_true
    | dct _ => exact absurd fy Bool.false_ne_true
    | scr _ => exact absurd fy Bool.false_ne_true
    | str a => exact absurd rfl (hy a)
    | _ => simp [datF, PyData.eqv]
end
/-- == by data: what is to be shown of the machine for each shape; neg: != -/
theorem eqT_cases {x y : F} {b : Bool} (h : eqT x y = some b) : (∃ a c, x = .str a ∧ y = .str c ∧ b = (a == c)) ∨ ((∀ a, x ≠ .str a) ∧ (∀ a, y ≠ .str a) ∧ eqN 6 x y = some b) := by
  unfold eqT at h
  split at h
  · rename_i a c; cases h; exact .inl ⟨a, c, rfl, rfl, rfl⟩
  · cases h
  · cases h
  · rename_i h1 h2 h3
    refine .inr ⟨fun a z => ?_, fun a z => ?_, h⟩
    · subst z; first | exact absurd rfl (h2 a) | exact absurd rfl (h1 a) | exact absurd rfl (h3 a)
    · subst z; first | exact absurd rfl (h2 a) | exact absurd rfl (h1 a) | exact absurd rfl (h3 a)
section
variable {X : Cx}
theorem od_eq (hu : X.A.units + 64 < cLine) : OpR X (compareOp .Eq) (rD2 X.K eqF) := OpR.ofD fun S x y pins s σ H v u vv uu Q I rv ru l p q t => by
  simp only [eqF] at t
  cases e : eqT x y with
  | none => rw [e] at t; exact t.elim
  | some b =>
    rw [e] at t
    have fin : EP X pins σ Q (.bool b) s := ⟨.bl b, H, I, rfl, t _ rep_bl⟩
    rcases eqT_cases e with ⟨a, c, rfl, rfl, rfl⟩ | ⟨hx, hy, h⟩
    · have p : v = .str a := p
      have q : u = .str c := q
      subst p q
      exact op_eq pins s σ H _ _ vv uu Q I rv ru ⟨rfl, by rw [dec_str]; exact t _ rep_bl⟩
    · have flatc : flatF x = true → wpAny (model X.prog X.w) X.A (compareOp .Eq vv uu) (EP X pins σ Q) X.xe s := fun fx => by
        obtain ⟨fy, rfl⟩ := eqN_flat fx h
        obtain ⟨d1, s1⟩ := datF_dp p fx hx
        obtain ⟨d2, s2⟩ := datF_dp q fy hy
        exact op_eqD hu pins s σ H _ _ vv uu Q I rv ru ⟨_, _, d1, d2, s1, s2, by rw [datF_eqv fx fy hx hy]; exact t _ rep_bl⟩
      cases x with
      | non => exact flatc rfl
      | bl _ => exact flatc rfl
      | int _ => exact flatc rfl
      | str _ => exact flatc rfl
      | scr ns => cases y <;> simp [eqN] at h
      | lst xs =>
        cases y with
        | lst ys =>
          obtain ⟨a, vs, rfl, h1, h2⟩ := p
          obtain ⟨c, ws, rfl, h3, h4⟩ := q
          cases (show vv = Value.ref a from rv)
          cases (show uu = Value.ref c from ru)
          simp only [eqN] at h
          split at h
          · rename_i hl
            obtain ⟨its, its2, bs, q1, q2, q3, q4, rfl, q5⟩ := lst_pairs (A := X.A.in1) I l (by show X.A.units + 1 + 5 < cLine; omega) h1 h2 h3 h4 hl h
            exact SeqAt.rcP_lists (e := fun j => (bs[j]?).getD false) q1 q2 q3 (by omega) q5 _ _ (by rw [range_all q4]; exact fin)
          · rename_i hl
            cases h
            obtain ⟨its, r1, p1, _⟩ := I.list (SqL.of h1)
            obtain ⟨its2, r2, p2, _⟩ := I.list (SqL.of h3)
            exact SeqAt.RcAt.lists_lengths p1.isList p2.isList (by have := h2.length; have := h4.length; have := r1.length; have := r2.length; simp; omega) (by omega) X.prog X.w _ _ fin
        | _ => simp [eqN] at h
      | tup xs =>
        cases y with
        | tup ys =>
          obtain ⟨a, vs, rfl, h1, h2⟩ := p
          obtain ⟨c, ws, rfl, h3, h4⟩ := q
          cases (show vv = Value.ref a from rv)
          cases (show uu = Value.ref c from ru)
          simp only [eqN] at h
          split at h
          · rename_i hf
            simp only [Bool.and_eq_true] at hf
            cases h
            obtain ⟨its, its2, q1, q2, q3, q4, q5⟩ := tup_pairs (A := X.A.in1) I l h1 h2 h3 h4 hf.1 hf.2
            exact SeqAt.RcAt.tuples (e := fun j => ((List.zipWith eqFl xs ys)[j]?).getD false) q1 q2 (by omega) q5 X.prog X.w _ _ (by rw [range_all q3, q4]; exact fin)
          · cases h
        | _ => simp [eqN] at h
      | dct ks =>
        cases y with
        | dct ls =>
          obtain ⟨a, vs, rfl, h1, h2⟩ := p
          obtain ⟨c, ws, rfl, h3, h4⟩ := q
          cases (show vv = Value.ref a from rv)
          cases (show uu = Value.ref c from ru)
          simp only [eqN] at h
          split at h
          · rename_i hf
            simp only [Bool.and_eq_true] at hf
            cases h
            obtain ⟨ka, kb, m1, m2, da, dc, l1, l2, hits⟩ := dct_run (A := X.A.in1) I h1 h3 h2 h4 hf.1 hf.2
            refine PySem.W.keq_eq m1 m2 da dc (by omega) (fun _ => hits) ?_
            rw [l1, l2]
            have : (ks.length == ls.length) = decide (ks.length = ls.length) := by rw [Bool.eq_iff_iff]; simp
            rw [this]; exact fin
          · cases h
        | _ => simp [eqN] at h
theorem od_ne (hu : X.A.units + 64 < cLine) : OpR X (compareOp .NotEq) (rD2 X.K neF) := OpR.ofD fun S x y pins s σ H v u vv uu Q I rv ru l p q t => by
  simp only [neF] at t
  cases e : eqT x y with
  | none => rw [e] at t; exact t.elim
  | some b =>
    rw [e] at t
    have fin : EP X pins σ Q (.bool (!b)) s := ⟨.bl (!b), H, I, rfl, t _ rep_bl⟩
    rcases eqT_cases e with ⟨a, c, rfl, rfl, rfl⟩ | ⟨hx, hy, h⟩
    · have p : v = .str a := p
      have q : u = .str c := q
      subst p q
      exact op_ne pins s σ H _ _ vv uu Q I rv ru ⟨rfl, by rw [dec_str]; exact t _ rep_bl⟩
    · have flatc : flatF x = true → wpAny (model X.prog X.w) X.A (compareOp .NotEq vv uu) (EP X pins σ Q) X.xe s := fun fx => by
        obtain ⟨fy, rfl⟩ := eqN_flat fx h
        obtain ⟨d1, s1⟩ := datF_dp p fx hx
        obtain ⟨d2, s2⟩ := datF_dp q fy hy
        exact op_neD hu pins s σ H _ _ vv uu Q I rv ru ⟨_, _, d1, d2, s1, s2, by rw [datF_eqv fx fy hx hy]; exact t _ rep_bl⟩
      cases x with
      | non => exact flatc rfl
      | bl _ => exact flatc rfl
      | int _ => exact flatc rfl
      | str _ => exact flatc rfl
      | scr ns => cases y <;> simp [eqN] at h
      | lst xs =>
        cases y with
        | lst ys =>
          obtain ⟨a, vs, rfl, h1, h2⟩ := p
          obtain ⟨c, ws, rfl, h3, h4⟩ := q
          cases (show vv = Value.ref a from rv)
          cases (show uu = Value.ref c from ru)
          simp only [eqN] at h
          split at h
          · rename_i hl
            obtain ⟨its, its2, bs, q1, q2, q3, q4, rfl, q5⟩ := lst_pairs (A := X.A.in1) I l (by show X.A.units + 1 + 5 < cLine; omega) h1 h2 h3 h4 hl h
            exact SeqAt.fm_rcNe_lists (e := fun j => (bs[j]?).getD false) q1 q2 q3 (by omega) q5 _ _ (by rw [range_all q4]; exact fin)
          · rename_i hl
            cases h
            obtain ⟨its, r1, p1, _⟩ := I.list (SqL.of h1)
            obtain ⟨its2, r2, p2, _⟩ := I.list (SqL.of h3)
            exact SeqAt.RcNeAt.lists_lengths p1.isList p2.isList (by have := h2.length; have := h4.length; have := r1.length; have := r2.length; simp; omega) (by omega) X.prog X.w _ _ fin
        | _ => simp [eqN] at h
      | tup xs =>
        cases y with
        | tup ys =>
          obtain ⟨a, vs, rfl, h1, h2⟩ := p
          obtain ⟨c, ws, rfl, h3, h4⟩ := q
          cases (show vv = Value.ref a from rv)
          cases (show uu = Value.ref c from ru)
          simp only [eqN] at h
          split at h
          · rename_i hf
            simp only [Bool.and_eq_true] at hf
            cases h
            obtain ⟨its, its2, q1, q2, q3, q4, q5⟩ := tup_pairs (A := X.A.in1) I l h1 h2 h3 h4 hf.1 hf.2
            exact SeqAt.RcNeAt.tuples (e := fun j => ((List.zipWith eqFl xs ys)[j]?).getD false) q1 q2 (by omega) q5 X.prog X.w _ _ (by rw [range_all q3, q4]; exact fin)
          · cases h
        | _ => simp [eqN] at h
      | dct ks =>
        cases y with
        | dct ls =>
          obtain ⟨a, vs, rfl, h1, h2⟩ := p
          obtain ⟨c, ws, rfl, h3, h4⟩ := q
          cases (show vv = Value.ref a from rv)
          cases (show uu = Value.ref c from ru)
          simp only [eqN] at h
          split at h
          · rename_i hf
            simp only [Bool.and_eq_true] at hf
            cases h
            obtain ⟨ka, kb, m1, m2, da, dc, l1, l2, hits⟩ := dct_run (A := X.A.in1) I h1 h3 h2 h4 hf.1 hf.2
            refine PySem.W.keq_ne m1 m2 da dc (by omega) (fun _ => hits) ?_
            rw [l1, l2]
            have : (ks.length == ls.length) = decide (ks.length = ls.length) := by rw [Bool.eq_iff_iff]; simp
            rw [this]; exact fin
          · cases h
        | _ => simp [eqN] at h
end
end Fm

/-! FJ: in, items, slices, built-ins. -/
namespace Fm
open PySem L2

@[simp] def inF : F → F → Op
  | x, .lst xs => if flatF x && xs.all flatF then .val (.bl (xs.any fun y => eqFl y x)) else .bad
  | x, .tup xs => if flatF x && xs.all flatF then .val (.bl (xs.any fun y => eqFl y x)) else .bad
  | .str c, .str z => match c.cps.toList with
    | [n] => .val (.bl (decide (n ∈ z.cps.toList)))
    | _ => .bad
  | _, _ => .bad
@[simp] def ninF : F → F → Op
  | x, .lst xs => if flatF x && xs.all flatF then .val (.bl (!xs.any fun y => eqFl y x)) else .bad
  | x, .tup xs => if flatF x && xs.all flatF then .val (.bl (!xs.any fun y => eqFl y x)) else .bad
  | .str c, .str z => match c.cps.toList with
    | [n] => .val (.bl (!decide (n ∈ z.cps.toList)))
    | _ => .bad
  | _, _ => .bad
@[simp] def ixF : F → F → Op
  | .lst xs, .int i => match atI xs i with
    | some x => .val x
    | none => .bad
  | .tup xs, .int i => match atI xs i with
    | some x => .val x
    | none => .bad
  | .scr ns, .int i => match atI ns i with
    | some n => .val (.int n)
    | none => .bad
  | .str z, .int i => if z.length ≤ sizeLine then (match atI z.cps.toList i with
    | some c => .val (.str ⟨#[c]⟩)
    | none => .bad) else .bad
  | _, _ => .bad
def cutF {α : Type} (xs : List α) (lo hi : Option Int) : List α := (xs.drop (HT.sIx xs.length 0 lo)).take (HT.sIx xs.length xs.length hi - HT.sIx xs.length 0 lo)
@[simp] def slF : F → Option Int → Option Int → Op
  | .lst xs, i, j => .new (.lst (cutF xs i j))
  | .scr ns, i, j => .new (.lst (cutF (ns.map F.int) i j))
  | .tup xs, i, j => if HT.sIx xs.length 0 i = 0 ∧ HT.sIx xs.length xs.length j = xs.length then .bad else .ntup (cutF xs i j)
  | .str z, i, j => if z.length ≤ sizeLine then .val (.str (cutS z i j)) else .bad
  | _, _, _ => .bad
@[simp] def lenF : List F → Op
  | [.lst xs] => .val (.int xs.length)
  | [.tup xs] => .val (.int xs.length)
  | [.scr ns] => .val (.int ns.length)
  | [.dct kvs] => .val (.int kvs.length)
  | [.str z] => if z.length ≤ sizeLine then .val (.int z.length) else .bad
  | _ => .bad
@[simp] def intF : List F → Op
  | [.int i] => .val (.int i)
  | [.bl b] => .val (.int (if b then 1 else 0))
  | _ => .bad
@[simp] def absF : List F → Op
  | [.int i] => .val (.int (if i < 0 then -i else i))
  | _ => .bad
@[simp] def minF : List F → Op
  | [.int i, .int j] => .val (.int (if j < i then j else i))
  | _ => .bad
@[simp] def strF : List F → Op
  | [.int i] => if i.natAbs.log2 < 1920 then .val (.str (toString i)) else .bad
  | _ => .bad
def kF : Key → F
  | .inl i => .int i
  | .inr x => .str x
@[simp] def listF : List F → Op
  | [.lst xs] => .new (.lst xs)
  | [.tup xs] => .new (.lst xs)
  | [.dct kvs] => .new (.lst (kvs.map fun p => kF p.1))
  | _ => .bad
@[simp] def tupF : List F → Op
  | [.lst xs] => .ntup xs
  | _ => .bad
/-- a list of pairs, as a dict's -/
def pairsF : List F → Option (List (Key × F))
  | [] => some []
  | .tup [.str k, v] :: r => match pairsF r with
    | some kvs => some ((.inr k, v) :: kvs)
    | none => none
  | .tup [.int k, v] :: r => match pairsF r with
    | some kvs => some ((.inl k, v) :: kvs)
    | none => none
  | _ :: _ => none
@[simp] def dictF : List F → Op
  | [.dct kvs] => .new (.dct kvs)
  | [.lst xs] => match pairsF xs with
    | some kvs => .new (.dct (mK [] kvs))
    | none => .bad
  | _ => .bad
def strsF : List F → Option (List Str)
  | [] => some []
  | .str x :: r => match strsF r with
    | some xs => some (x :: xs)
    | none => none
  | _ :: _ => none
@[simp] def joinF : List F → Op
  | [.str a, .lst xs] => match strsF xs with
    | some ys => if (ys.map (·.length)).sum + ys.length * a.length ≤ 16777216 then .val (.str (Txt.join a ys)) else .bad
    | none => .bad
  | _ => .bad
def findF (y : F) : List F → Option Nat
  | [] => none
  | x :: xs => if eqFl x y then some 0 else (findF y xs).map (· + 1)
@[simp] def indexF : List F → Op
  | [.lst xs, y] => if flatF y && xs.all flatF then (match findF y xs with
    | some j => .val (.int (j : Nat))
    | none => .bad) else .bad
  | _ => .bad

theorem Reps.flat {K : PySem.W.Frag} {S H : Hp} : ∀ {xs : List F} {vs : List V}, Reps K S xs vs → xs.all flatF = true → vs.all flatV = true
  | [], _, h, _ => by simp only [Reps] at h; subst h; rfl
  | x :: xs, _, h, f => by
    simp only [Reps] at h
    obtain ⟨v, r, rfl, q, t⟩ := h
    rw [List.all_cons] at f ⊢
    simp only [Bool.and_eq_true] at f
    rw [(flatV_of (rep_flat (H := S) q f.1) f.1).1, Bool.true_and]
    exact Reps.flat (H := H) t f.2
theorem Reps.anyEq {K : PySem.W.Frag} {S : Hp} {y : F} {u : V} (hy : RepP K S S y u) (fy : flatF y = true) : ∀ {xs : List F} {vs : List V}, Reps K S xs vs → xs.all flatF = true → (vs.any fun z => eqV z u) = xs.any fun z => eqFl z y
  | [], _, h, _ => by simp only [Reps] at h; subst h; rfl
  | x :: xs, _, h, f => by
    simp only [Reps] at h
    obtain ⟨v, r, rfl, q, t⟩ := h
    rw [List.all_cons] at f
    simp only [Bool.and_eq_true] at f
    rw [List.any_cons, List.any_cons, eqFl_V (rep_flat (H := S) q f.1) hy f.1 fy, Reps.anyEq hy fy t f.2]
theorem Reps.atI {K : PySem.W.Frag} {S : Hp} {xs : List F} {vs : List V} {i : Int} {x : F} (h : Reps K S xs vs) (e : L2.atI xs i = some x) : ∃ v, L2.atI vs i = some v ∧ Rep K S x v := by
  unfold L2.atI at e ⊢
  rw [← h.length]
  cases q : ixN xs.length i with
  | none => rw [q] at e; cases e
  | some j => rw [q] at e; exact h.get e
theorem Reps.cut {K : PySem.W.Frag} {S : Hp} {xs : List F} {vs : List V} (h : Reps K S xs vs) (lo hi : Option Int) : Reps K S (cutF xs lo hi) (cutV vs lo hi) := by
  unfold cutF cutV
  rw [← h.length]
  exact (h.drop _).take _
theorem Reps.ints {K : PySem.W.Frag} {S : Hp} : ∀ ns : List Int, Reps K S (ns.map F.int) (ns.map V.int)
  | [] => .nil
  | n :: ns => .cons rep_int (Reps.ints ns)
theorem Reps.keys {K : PySem.W.Frag} {S : Hp} : ∀ (kvs : List (Key × V)), Reps K S (kvs.map fun p => kF p.1) (kvs.map fun p => kV p.1)
  | [] => .nil
  | (k, _) :: r => .cons (by cases k <;> simp only [kF, kV, Rep]) (Reps.keys r)
section
variable {X : Cx}
theorem sign_of {c : Str} {n : Nat} (h : c.cps.toList = [n]) : c = ⟨#[n]⟩ := by
  obtain ⟨a⟩ := c
  simp at h
  obtain ⟨l⟩ := a
  simp at h
  rw [h]
theorem od_in : OpR X (compareOp .In) (rD2 X.K inF) := OpR.ofD fun S x y pins s σ H v u vv uu Q I rv ru l p q t => by
  cases y with
  | lst xs =>
    simp only [inF] at t
    split at t
    · rename_i hf
      simp only [Bool.and_eq_true] at hf
      obtain ⟨d, vs, rfl, hd, hr⟩ := q
      have fx := flatV_of p hf.1
      exact op_in_seq pins s σ H _ _ vv uu Q I rv ru ⟨d, vs, rfl, .inl (.of hd), fx.1, hr.flat (H := H) hf.2, by
        have := hr.anyEq (rep_flat (H := S) fx.2 hf.1) hf.1 hf.2
        show Q (.bl (inV v vs)) H
        unfold inV
        rw [this]; exact t _ rep_bl⟩
    · exact t.elim
  | tup xs =>
    simp only [inF] at t
    split at t
    · rename_i hf
      simp only [Bool.and_eq_true] at hf
      obtain ⟨d, vs, rfl, hd, hr⟩ := q
      have fx := flatV_of p hf.1
      exact op_in_seq pins s σ H _ _ vv uu Q I rv ru ⟨d, vs, rfl, .inr (.of hd), fx.1, hr.flat (H := H) hf.2, by
        have := hr.anyEq (rep_flat (H := S) fx.2 hf.1) hf.1 hf.2
        show Q (.bl (inV v vs)) H
        unfold inV
        rw [this]; exact t _ rep_bl⟩
    · exact t.elim
  | str z =>
    cases x <;> simp only [inF] at t <;> try exact t.elim
    rename_i c
    split at t
    · rename_i n e
      have p : v = .str c := p
      have q : u = .str z := q
      subst p q
      exact op_in_sign pins s σ H _ _ vv uu Q I rv ru ⟨n, z, by rw [sign_of e], rfl, t _ rep_bl⟩
    · exact t.elim
  | _ => cases x <;> exact t.elim
theorem od_nin : OpR X (compareOp .NotIn) (rD2 X.K ninF) := OpR.ofD fun S x y pins s σ H v u vv uu Q I rv ru l p q t => by
  cases y with
  | lst xs =>
    simp only [ninF] at t
    split at t
    · rename_i hf
      simp only [Bool.and_eq_true] at hf
      obtain ⟨d, vs, rfl, hd, hr⟩ := q
      have fx := flatV_of p hf.1
      exact op_notIn_seq pins s σ H _ _ vv uu Q I rv ru ⟨d, vs, rfl, .inl (.of hd), fx.1, hr.flat (H := H) hf.2, by
        have := hr.anyEq (rep_flat (H := S) fx.2 hf.1) hf.1 hf.2
        show Q (.bl (!inV v vs)) H
        unfold inV
        rw [this]; exact t _ rep_bl⟩
    · exact t.elim
  | tup xs =>
    simp only [ninF] at t
    split at t
    · rename_i hf
      simp only [Bool.and_eq_true] at hf
      obtain ⟨d, vs, rfl, hd, hr⟩ := q
      have fx := flatV_of p hf.1
      exact op_notIn_seq pins s σ H _ _ vv uu Q I rv ru ⟨d, vs, rfl, .inr (.of hd), fx.1, hr.flat (H := H) hf.2, by
        have := hr.anyEq (rep_flat (H := S) fx.2 hf.1) hf.1 hf.2
        show Q (.bl (!inV v vs)) H
        unfold inV
        rw [this]; exact t _ rep_bl⟩
    · exact t.elim
  | str z =>
    cases x <;> simp only [ninF] at t <;> try exact t.elim
    rename_i c
    split at t
    · rename_i n e
      have p : v = .str c := p
      have q : u = .str z := q
      subst p q
      exact op_notIn_sign pins s σ H _ _ vv uu Q I rv ru ⟨n, z, by rw [sign_of e], rfl, t _ rep_bl⟩
    · exact t.elim
  | _ => cases x <;> exact t.elim
theorem od_ix : IxR X (rD2 X.K ixF) := fun value slice pins s σ H x y v u Q I rx ry ⟨S, a, b, l, p, q, t⟩ hs => by
  refine ix_seq value slice pins s σ H x y v u Q I rx ry ?_ hs
  cases a <;> cases b <;> try exact t.elim
  · rename_i z i
    simp only [ixF] at t
    split at t
    · rename_i hl
      split at t
      · rename_i c e
        exact .inr (.inr ⟨z, i, c, p, q, hl, e, t _ rep_str⟩)
      · exact t.elim
    · exact t.elim
  · rename_i xs i
    simp only [ixF] at t
    split at t
    · rename_i w e
      obtain ⟨d, vs, rfl, hd, hr⟩ := p
      obtain ⟨v1, e1, r1⟩ := hr.atI e
      exact .inl ⟨d, vs, i, v1, rfl, q, .of hd, e1, t _ r1⟩
    · exact t.elim
  · rename_i xs i
    simp only [ixF] at t
    split at t
    · rename_i w e
      obtain ⟨d, vs, rfl, hd, hr⟩ := p
      obtain ⟨v1, e1, r1⟩ := hr.atI e
      exact .inr (.inl ⟨d, vs, i, v1, rfl, q, .of hd, e1, t _ r1⟩)
    · exact t.elim
  · rename_i ns i
    simp only [ixF] at t
    split at t
    · rename_i n e
      obtain ⟨d, rfl, hd⟩ := p
      refine .inl ⟨d, _, i, .int n, rfl, q, hd, ?_, t _ rep_int⟩
      unfold L2.atI at e ⊢
      rw [List.length_map]
      cases e1 : ixN ns.length i with
      | none => rw [e1] at e; cases e
      | some j =>
        rw [e1] at e
        have e : ns[j]? = some n := e
        show (ns.map V.int)[j]? = _
        rw [List.getElem?_map, e]; rfl
    · exact t.elim
def rSlD (K : PySem.W.Frag) : V → Option Int → Option Int → Hp → VK → Prop := fun x lo hi H Q => rSlL K x lo hi H Q ∨ rSlT K x lo hi H Q ∨ rSlS x lo hi H Q
theorem sl_any : SlR X (rSlD X.K) := sl_list.or (sl_tup.or sl_str)
theorem sl_go (K : PySem.W.Frag) (S : Hp) (a : F) (x : V) (i j : Option Int) (H : Hp) (Q : VK) (l : Lk S H) (p : RepP K S H a x) (t : Post K S H Q (slF a i j)) : rSlD K x i j H Q := by
  cases a <;> try exact t.elim
  · rename_i z
    simp only [slF] at t
    split at t
    · rename_i hl; exact .inr (.inr ⟨z, p, hl, t _ rep_str⟩)
    · exact t.elim
  · obtain ⟨d, vs, rfl, hd, hr⟩ := p
    exact .inl ⟨d, vs, rfl, .of hd, fun p hp => t p _ hp (hr.cut i j)⟩
  · obtain ⟨d, vs, rfl, hd, hr⟩ := p
    simp only [slF] at t
    split at t
    · exact t.elim
    · rename_i hl
      exact .inr (.inl ⟨d, vs, rfl, .of hd, by rw [← hr.length]; exact hl, fun p hp => t p _ hp (hr.cut i j)⟩)
  · rename_i ns
    obtain ⟨d, rfl, hd⟩ := p
    exact .inl ⟨d, _, rfl, hd, fun p hp => t p _ hp ((Reps.ints ns).cut i j)⟩
theorem CallR.ofD {f : Value} {g : List F → Op} (h : ∀ S xs, ∀ (pins : List (Addr × Obj)) (s : Shared) (σ : St) (H : Hp) (vs : List V) (us : List Value) (Q : VK), Inv X pins σ H s → Vals vs us → Lk S H → RepPs X.K S H xs vs → Post X.K S H Q (g xs) →
    wpAny (model X.prog X.w) X.A (call f us) (EP X pins σ Q) X.xe s) : CallR X f (rDn X.K g) := fun pins s σ H vs us Q I r ⟨S, xs, l, p, t⟩ => h S xs pins s σ H vs us Q I r l p t
theorem ps1 {K : PySem.W.Frag} {S H : Hp} {x : F} {vs : List V} (h : RepPs K S H [x] vs) : ∃ v, vs = [v] ∧ RepP K S H x v := by
  cases h with
  | cons h t => cases t; exact ⟨_, rfl, h⟩
theorem ps2 {K : PySem.W.Frag} {S H : Hp} {x y : F} {vs : List V} (h : RepPs K S H [x, y] vs) : ∃ v u, vs = [v, u] ∧ RepP K S H x v ∧ RepP K S H y u := by
  cases h with
  | cons h t =>
    obtain ⟨u, rfl, q⟩ := ps1 t
    exact ⟨_, u, rfl, h, q⟩
theorem cd_len : CallR X (.builtin "len") (rDn X.K lenF) := CallR.ofD fun S xs pins s σ H vs us Q I r l p t => by
  unfold lenF at t
  split at t
  · obtain ⟨v, rfl, d, ws, rfl, hd, hr⟩ := ps1 p
    exact call_len pins s σ H _ us Q I r ⟨_, _, rfl, .inl ⟨ws, .of hd, rfl⟩, by rw [← hr.length]; exact t _ rep_int⟩
  · obtain ⟨v, rfl, d, ws, rfl, hd, hr⟩ := ps1 p
    exact call_len pins s σ H _ us Q I r ⟨_, _, rfl, .inr ⟨ws, .of hd, rfl⟩, by rw [← hr.length]; exact t _ rep_int⟩
  · obtain ⟨v, rfl, d, rfl, hd⟩ := ps1 p
    exact call_len pins s σ H _ us Q I r ⟨_, _, rfl, .inl ⟨_, hd, rfl⟩, by rw [List.length_map]; exact t _ rep_int⟩
  · obtain ⟨v, rfl, d, ws, rfl, hd, hr⟩ := ps1 p
    obtain ⟨u, rfl, ru⟩ := vals1 r
    cases ru
    exact d_len I hd fun tk s' I' => ⟨.int ws.length, H, I', ⟨tk, rfl⟩, by rw [← hr.length]; exact t _ rep_int⟩
  · obtain ⟨v, rfl, e⟩ := ps1 p
    have e : v = .str _ := e
    subst e
    split at t
    · rename_i hl; exact call_len pins s σ H _ us Q I r ⟨_, _, rfl, ⟨hl, rfl⟩, t _ rep_int⟩
    · exact t.elim
  · exact t.elim
theorem cd_int : CallR X (.type "int") (rDn X.K intF) := CallR.ofD fun S xs pins s σ H vs us Q I r l p t => by
  unfold intF at t
  split at t
  · rename_i i
    obtain ⟨v, rfl, e⟩ := ps1 p
    exact call_int1 pins s σ H _ us Q I r (.inl ⟨i, by rw [show v = .int i from e], t _ rep_int⟩)
  · rename_i b
    obtain ⟨v, rfl, e⟩ := ps1 p
    exact call_int1 pins s σ H _ us Q I r (.inr ⟨b, by rw [show v = .bl b from e], t _ rep_int⟩)
  · exact t.elim
theorem cd_abs : CallR X (.builtin "abs") (rDn X.K absF) := CallR.ofD fun S xs pins s σ H vs us Q I r l p t => by
  unfold absF at t
  split at t
  · rename_i i
    obtain ⟨v, rfl, e⟩ := ps1 p
    exact call_abs pins s σ H _ us Q I r ⟨i, by rw [show v = .int i from e], t _ rep_int⟩
  · exact t.elim
theorem cd_min (hc : X.calm = true) : CallR X (.builtin "min") (rDn X.K minF) := CallR.ofD fun S xs pins s σ H vs us Q I r l p t => by
  unfold minF at t
  split at t
  · rename_i i j
    obtain ⟨v, u, rfl, e, e2⟩ := ps2 p
    exact call_min2 hc pins s σ H _ us Q I r ⟨i, j, by rw [show v = .int i from e, show u = .int j from e2], t _ rep_int⟩
  · exact t.elim
theorem cd_str : CallR X (.type "str") (rDn X.K strF) := CallR.ofD fun S xs pins s σ H vs us Q I r l p t => by
  unfold strF at t
  split at t
  · rename_i i
    obtain ⟨v, rfl, e⟩ := ps1 p
    split at t
    · rename_i hl
      exact call_str_int pins s σ H _ us Q I r ⟨i, by rw [show v = .int i from e], hl, t _ rep_str⟩
    · exact t.elim
  · exact t.elim
theorem cd_list (hc : X.calm = true) : CallR X (.type "list") (rDn X.K listF) := CallR.ofD fun S xs pins s σ H vs us Q I r l p t => by
  unfold listF at t
  split at t
  · obtain ⟨v, rfl, d, ws, rfl, hd, hr⟩ := ps1 p
    exact call_list_of pins s σ H _ us Q I r ⟨d, ws, rfl, .inl (.of hd), fun p hp => t p ws hp hr⟩
  · obtain ⟨v, rfl, d, ws, rfl, hd, hr⟩ := ps1 p
    exact call_list_of pins s σ H _ us Q I r ⟨d, ws, rfl, .inr (.of hd), fun p hp => t p ws hp hr⟩
  · rename_i kvs
    obtain ⟨v, rfl, d, ws, rfl, hd, hr⟩ := ps1 p
    refine call_listD hc pins s σ H _ us Q I r ⟨d, ws, rfl, hd, fun p hp => t p _ hp ?_⟩
    have e : (kvs.map fun p => kF p.1) = ws.map fun p => kF p.1 := by
      have := congrArg (List.map kF) hr.keys
      rw [List.map_map, List.map_map] at this
      exact this
    rw [e]; exact Reps.keys ws
  · exact t.elim
theorem cd_tup : CallR X (.type "tuple") (rDn X.K tupF) := CallR.ofD fun S xs pins s σ H vs us Q I r l p t => by
  unfold tupF at t
  split at t
  · obtain ⟨v, rfl, d, ws, rfl, hd, hr⟩ := ps1 p
    exact call_tuple_of pins s σ H _ us Q I r ⟨d, ws, rfl, .inl ⟨.of hd, fun p hp => t p ws hp hr⟩⟩
  · exact t.elim
end
end Fm

/-! FK: isinstance, join, dict(..), sorted, index; dict lookups; displays. -/
namespace Fm
open PySem L2

/-! ### isinstance of data, built-in types -/
inductive Ty where | str | int | bl | tup | lst | dct
inductive Tg where | non | bl | int | str | lst | tup | dct
@[simp] def Ty.nm : Ty → String
  | .str => "str" | .int => "int" | .bl => "bool" | .tup => "tuple" | .lst => "list" | .dct => "dict"
def Tg.nm : Tg → String
  | .non => "NoneType" | .bl => "bool" | .int => "int" | .str => "str" | .lst => "list" | .tup => "tuple" | .dct => "dict"
@[simp] def isiT : Ty → Tg → Bool
  | .str, .str => true
  | .int, .int => true
  | .int, .bl => true
  | .bl, .bl => true
  | .tup, .tup => true
  | .lst, .lst => true
  | .dct, .dct => true
  | _, _ => false
@[simp] def F.tag : F → Tg
  | .non => .non | .bl _ => .bl | .int _ => .int | .str _ => .str | .lst _ => .lst | .tup _ => .tup | .dct _ => .dct | .scr _ => .lst
@[simp] def isiF (t : Ty) (x : F) : Op := .val (.bl (isiT t x.tag))
theorem kit_all : ∀ (t : Ty) (x : Tg), kitB x.nm t.nm = some (isiT t x)
  | .str, .non | .str, .bl | .str, .int | .str, .str | .str, .lst | .str, .tup | .str, .dct => by decide +kernel
  | .int, .non | .int, .bl | .int, .int | .int, .str | .int, .lst | .int, .tup | .int, .dct => by decide +kernel
  | .bl, .non | .bl, .bl | .bl, .int | .bl, .str | .bl, .lst | .bl, .tup | .bl, .dct => by decide +kernel
  | .tup, .non | .tup, .bl | .tup, .int | .tup, .str | .tup, .lst | .tup, .tup | .tup, .dct => by decide +kernel
  | .lst, .non | .lst, .bl | .lst, .int | .lst, .str | .lst, .lst | .lst, .tup | .lst, .dct => by decide +kernel
  | .dct, .non | .dct, .bl | .dct, .int | .dct, .str | .dct, .lst | .dct, .tup | .dct, .dct => by decide +kernel
theorem tyX_of {K : PySem.W.Frag} {S H : Hp} {x : F} {v : V} (p : RepP K S H x v) : TyX K H v (.type x.tag.nm) := by
  cases x with
  | non => have p : v = .non := p; subst p; exact .base .non
  | bl b => have p : v = .bl b := p; subst p; exact .base (.bl b)
  | int b => have p : v = .int b := p; subst p; exact .base (.int b)
  | str b => have p : v = .str b := p; subst p; exact .base (.str b)
  | lst xs => obtain ⟨a, vs, rfl, h, _⟩ := p; exact .base (.lst h)
  | tup xs => obtain ⟨a, vs, rfl, h, _⟩ := p; exact .base (.tup h)
  | dct xs =>
    obtain ⟨a, vs, rfl, h | ⟨o, h⟩, _⟩ := p
    · exact .base (.dK h)
    · exact .fDict h
  | scr ns =>
    obtain ⟨a, rfl, (h | ⟨o, h⟩) | ⟨o, us, n, h1, h2, _⟩⟩ := p
    · exact .base (.lst h)
    · exact .base (.frz h)
    · exact .kList h1 h2
section
variable {X : Cx} {G : Gc} {a b e o : Expr} {es : List Expr} {ma mb mo me : M} {pos p p2 apos : Pos}
theorem de_isi {t : Ty} {x : Str} (hg : Gl X "isinstance") (hm : X.mg "isinstance" = none) (hg2 : Gl X x) (hm2 : X.mg x = none) (hv : bootBuiltins x = some (.type t.nm)) (ha : DE X G a ma) (hn : x ≠ "__name__" := by decide) (hdb : (x == ("__debug__" : Str)) = false := by decide)
    (hs1 : starEach [a, .Name x p2] X.env = (false, eval a X.env) :: starEach [.Name x p2] X.env := by rfl) (hs2 : starEach [.Name x p2] X.env = (false, eval (.Name x p2) X.env) :: starEach [] X.env := by rfl) (hpl : (backTo pos (starEach [.Name x p2] X.env)).any (·.1) = false := by rfl) :
    DE X G (.Call (.Name "isinstance" p) [a, .Name x p2] [] pos) (mU (isiF t) ma) :=
  (pe_callB call_isi hg hm rfl (pa_cons ha (pa_cons (pe_bltn (v := .ty t.nm) hg2 hm2 hv rfl hn hdb) pa_nil hs2) hs1) (by decide) (by decide) hs1 hpl).wk fun σ H Q ⟨g, sl, s, R, h⟩ => tD.first R h fun v w g1 s1 H1 l1 n1 R1 r1 h1 => by
    obtain ⟨S, x, lk, p, q⟩ := op1_post R1 r1 h1
    exact ⟨v, .ty t.nm, _, _, _, rfl, .ty _, tyX_of p, kit_ty (kit_all t x.tag), q _ rep_bl⟩

/-! ### join -/
@[simp] def joinA (a : Str) : F → Op
  | .lst xs => match strsF xs with
    | some ys => if (ys.map (·.length)).sum + ys.length * a.length ≤ 16777216 then .val (.str (Txt.join a ys)) else .bad
    | none => .bad
  | _ => .bad
theorem strsF_rep {K : PySem.W.Frag} {S : Hp} : ∀ {xs : List F} {ys : List Str} {vs : List V}, strsF xs = some ys → Reps K S xs vs → vs = ys.map V.str
  | [], ys, vs, e, r => by
    simp only [Reps] at r
    subst r
    unfold strsF at e; cases e; rfl
  | .str x :: xs, ys, vs, e, r => by
    unfold strsF at e
    split at e
    · rename_i zs ez
      cases e
      simp only [Reps, Rep] at r
      obtain ⟨v, t, rfl, rfl, r⟩ := r
      rw [strsF_rep ez r]; rfl
    · cases e
  | .non :: xs, ys, vs, e, r => by unfold strsF at e; cases e
  | .bl _ :: xs, ys, vs, e, r => by unfold strsF at e; cases e
  | .int _ :: xs, ys, vs, e, r => by unfold strsF at e; cases e
  | .lst _ :: xs, ys, vs, e, r => by unfold strsF at e; cases e
  | .tup _ :: xs, ys, vs, e, r => by unfold strsF at e; cases e
  | .dct _ :: xs, ys, vs, e, r => by unfold strsF at e; cases e
  | .scr _ :: xs, ys, vs, e, r => by unfold strsF at e; cases e
theorem de_join {x : Str} {j : Nat} (he : DE X G e me) (hs : starEach [e] X.env = [(false, eval e X.env)] := by rfl) (hbase : attributeBase (.Constant (.str x) j p) "join" X.env (eval (.Constant (.str x) j p) X.env) = eval (.Constant (.str x) j p) X.env := by rfl) (hline : (apos.endLine == pos.line) = true := by rfl) :
    DE X G (.Call (.Attribute (.Constant (.str x) j p) "join" apos) [e] [] pos) (mU (joinA x) me) :=
  (pe_join pe_str he hs hbase hline).wk fun σ H Q ⟨g, sl, s, R, h⟩ => ⟨⟨x, rfl⟩, tD.first R h fun v w g1 s1 H1 l1 n1 R1 r1 h1 => by
    obtain ⟨S, y, lk, q, t⟩ := op1_post R1 r1 h1
    cases y <;> try exact t.elim
    rename_i xs
    simp only [joinA] at t
    split at t
    · rename_i ys ey
      split at t
      · rename_i hl
        obtain ⟨d, vs, rfl, hd, hr⟩ := q
        have := strsF_rep ey hr
        subst this
        exact ⟨x, d, ys, rfl, rfl, .inl (.of hd), hl, t _ rep_str⟩
      · exact t.elim
    · exact t.elim⟩
/-! ### dict(..) -/
theorem pairsF_rep {K : PySem.W.Frag} {S H : Hp} (lk : Lk S H) : ∀ {xs : List F} {kvs : List (Key × F)} {vs : List V}, pairsF xs = some kvs → Reps K S xs vs → ∃ (ps : List Addr) (ws : List (Key × V)), vs = ps.map V.ref ∧ Paired (fun p kv => SqT K H p [kV kv.1, kv.2]) ps ws ∧ RepK K S kvs ws
  | [], kvs, vs, e, r => by
    simp only [Reps] at r
    subst r
    unfold pairsF at e; cases e
    exact ⟨[], [], rfl, .nil, .nil⟩
  | x :: xs, kvs, vs, e, r => by
    unfold pairsF at e
    split at e
    · rename_i q; cases q
    · rename_i k v rr q
      cases q
      split at e
      · rename_i ks ek
        cases e
        simp only [Reps, Rep] at r
        obtain ⟨v, t, rfl, ⟨a, us, rfl, ha, v1, t1, rfl, rfl, v2, t2, rfl, h2, rfl⟩, r⟩ := r
        obtain ⟨ps, ws, rfl, h3, h4⟩ := pairsF_rep lk ek r
        exact ⟨a :: ps, (.inr k, v2) :: ws, rfl, .cons (.of (lk _ _ ha)) h3, .cons h2 h4⟩
      · cases e
    · rename_i k v rr q
      cases q
      split at e
      · rename_i ks ek
        cases e
        simp only [Reps, Rep] at r
        obtain ⟨v, t, rfl, ⟨a, us, rfl, ha, v1, t1, rfl, rfl, v2, t2, rfl, h2, rfl⟩, r⟩ := r
        obtain ⟨ps, ws, rfl, h3, h4⟩ := pairsF_rep lk ek r
        exact ⟨a :: ps, (.inl k, v2) :: ws, rfl, .cons (.of (lk _ _ ha)) h3, .cons h2 h4⟩
      · cases e
    · cases e
theorem cd_dict (hc : X.calm = true) : CallR X (.type "dict") (rDn X.K dictF) := CallR.ofD fun S xs pins s σ H vs us Q I r l p t => by
  unfold dictF at t
  split at t
  · obtain ⟨v, rfl, d, ws, rfl, hd, hr⟩ := ps1 p
    exact call_dictD pins s σ H _ us Q I r ⟨d, ws, rfl, hd, fun p hp => t p ws hp hr⟩
  · split at t
    · rename_i kvs ek
      obtain ⟨v, rfl, d, ws, rfl, hd, hr⟩ := ps1 p
      obtain ⟨ps, ks, rfl, h3, h4⟩ := pairsF_rep l ek hr
      exact call_dictP hc pins s σ H _ us Q I r ⟨d, ps, ks, rfl, .of hd, h3, fun p hp => t p _ hp (RepK.merge .nil h4)⟩
    · exact t.elim
  · exact t.elim

/-! ### sorted -/
def leS (a b : Str) : Bool := !Spec.ltCps b.cps.toList a.cps.toList
theorem leS_iff {a b : Str} : leS a b = true ↔ a.cps.toList ≤ b.cps.toList := by
  unfold leS
  rw [PyProof.Rows.ltCps_eq]
  simp
theorem leS_trans {a b c : Str} (h : leS a b = true) (k : leS b c = true) : leS a c = true := leS_iff.mpr (List.le_trans (leS_iff.mp h) (leS_iff.mp k))
theorem leS_total (a b : Str) : (leS a b || leS b a) = true := by
  rw [Bool.or_eq_true, leS_iff, leS_iff]
  exact List.le_total _ _
theorem leS_anti {a b : Str} (h : leS a b = true) (k : leS b a = true) : a = b := by
  have := List.le_antisymm (leS_iff.mp h) (leS_iff.mp k)
  obtain ⟨⟨a⟩⟩ := a
  obtain ⟨⟨b⟩⟩ := b
  simp at this
  rw [this]
def sortS (xs : List Str) : List Str := xs.mergeSort leS
theorem rising_pw : ∀ (p : Str) (l : List Str), PyProof.Rows.risingS p l = true → (p :: l).Pairwise fun a b => leS a b = true
  | p, [], _ => by simp
  | p, x :: r, h => by
    unfold PyProof.Rows.risingS at h
    rw [Bool.and_eq_true] at h
    have ih := rising_pw x r h.2
    refine .cons (fun y hy => ?_) ih
    rcases List.mem_cons.mp hy with rfl | hy
    · exact h.1
    · exact leS_trans h.1 (List.rel_of_pairwise_cons ih hy)
theorem sorted_pw {l : List Str} (h : PyProof.Rows.sortedS l = true) : l.Pairwise fun a b => leS a b = true := by
  cases l with
  | nil => exact .nil
  | cons x r => exact rising_pw x r h
theorem sortS_perm (xs : List Str) : (sortS xs).Perm xs := List.mergeSort_perm xs leS
theorem sortS_pw (xs : List Str) : (sortS xs).Pairwise fun a b => leS a b = true := List.pairwise_mergeSort (le := leS) (fun _ _ _ h k => leS_trans h k) (fun a b => leS_total a b) xs
theorem sortS_uniq {xs ys : List Str} (p : ys.Perm xs) (h : PyProof.Rows.sortedS ys = true) : ys = sortS xs :=
  List.Perm.eq_of_pairwise (fun _ _ _ _ a b => leS_anti a b) (sorted_pw h) (sortS_pw xs) (p.trans (sortS_perm xs).symm)
theorem sortS_eq {xs ys : List Str} : sortS xs = sortS ys ↔ xs.Perm ys :=
  ⟨fun h => (sortS_perm xs).symm.trans (h ▸ sortS_perm ys), fun h => List.Perm.eq_of_pairwise (fun _ _ _ _ a b => leS_anti a b) (sortS_pw xs) (sortS_pw ys) ((sortS_perm xs).trans (h.trans (sortS_perm ys).symm))⟩
def keysS {α : Type} : List (Key × α) → Option (List Str)
  | [] => some []
  | (.inr x, _) :: r => match keysS r with
    | some xs => some (x :: xs)
    | none => none
  | _ :: _ => none
theorem keysS_map {α : Type} : ∀ {kvs : List (Key × α)} {ks : List Str}, keysS kvs = some ks → kvs.map (·.1) = ks.map Sum.inr
  | [], ks, e => by unfold keysS at e; cases e; rfl
  | (.inr x, _) :: r, ks, e => by
    unfold keysS at e
    split at e
    · rename_i xs ex
      cases e
      rw [List.map_cons, keysS_map ex]; rfl
    · cases e
  | (.inl x, _) :: r, ks, e => by unfold keysS at e; cases e
@[simp] def sortF : List F → Op
  | [.lst xs] => match strsF xs with
    | some ys => if ys.length < 64 then .new (.lst ((sortS ys).map F.str)) else .bad
    | none => .bad
  | [.dct kvs] => match keysS kvs with
    | some ys => if ys.length < 64 then .new (.lst ((sortS ys).map F.str)) else .bad
    | none => .bad
  | _ => .bad
theorem Reps.strs {K : PySem.W.Frag} {S : Hp} : ∀ ns : List Str, Reps K S (ns.map F.str) (ns.map V.str)
  | [] => .nil
  | n :: ns => .cons rep_str (Reps.strs ns)
theorem cd_sorted (hc : X.calm = true) : CallR X (.builtin "sorted") (rDn X.K sortF) := CallR.ofD fun S xs pins s σ H vs us Q I r l p t => by
  unfold sortF at t
  split at t
  · split at t
    · rename_i ys ey
      split at t
      · rename_i h64
        obtain ⟨v, rfl, d, ws, rfl, hd, hr⟩ := ps1 p
        have := strsF_rep ey hr
        subst this
        exact cr_sortedS pins s σ H _ us Q I r ⟨d, ys, rfl, .of hd, h64, fun zs p h1 h2 hp => by
          have := sortS_uniq h1 h2
          subst this
          exact t p _ hp (Reps.strs _)⟩
      · exact t.elim
    · exact t.elim
  · split at t
    · rename_i ys ey
      split at t
      · rename_i h64
        obtain ⟨v, rfl, d, ws, rfl, hd, hr⟩ := ps1 p
        exact call_sortedD hc pins s σ H _ us Q I r ⟨d, ws, ys, rfl, hd, by rw [← hr.keys, keysS_map ey], h64, fun zs p h1 h2 hp => by
          have := sortS_uniq h1 h2
          subst this
          exact t p _ hp (Reps.strs _)⟩
      · exact t.elim
    · exact t.elim
  · exact t.elim

/-! ### dict lookups -/
@[simp] def kOf : F → Option Key
  | .int i => some (.inl i)
  | .str x => some (.inr x)
  | _ => none
theorem kOf_rep {K : PySem.W.Frag} {S H : Hp} {x : F} {v : V} {k : Key} (h : kOf x = some k) (r : RepP K S H x v) : v = kV k := by
  cases x <;> simp only [kOf] at h <;> first | (cases h; exact r) | cases h
@[simp] def dgetF : F → F → Op
  | .dct kvs, k => match kOf k with
    | some k => match vK kvs k with
      | some x => .val x
      | none => .bad
    | none => .bad
  | _, _ => .bad
@[simp] def dinF : F → F → Op
  | k, .dct kvs => match kOf k with
    | some k => .val (.bl (vK kvs k).isSome)
    | none => .bad
  | _, _ => .bad
@[simp] def dninF : F → F → Op
  | k, .dct kvs => match kOf k with
    | some k => .val (.bl (!(vK kvs k).isSome))
    | none => .bad
  | _, _ => .bad
theorem _root_.Fm.RepK.valS {K : PySem.W.Frag} {S : Hp} {k : Key} {xs : List (Key × F)} {vs : List (Key × V)} {x : F} (r : RepK K S xs vs) (e : vK xs k = some x) : ∃ v, valV vs k = some v ∧ Rep K S x v := by
  rcases r.val k with ⟨y, v, h1, h2, h3⟩ | ⟨h1, _⟩
  · rw [e] at h1; cases h1; exact ⟨v, h2, h3⟩
  · rw [e] at h1; cases h1
theorem _root_.Fm.RepK.isS {K : PySem.W.Frag} {S : Hp} {k : Key} {xs : List (Key × F)} {vs : List (Key × V)} (r : RepK K S xs vs) : (vK xs k).isSome = (valV vs k).isSome := by
  rcases r.val k with ⟨y, v, h1, h2, h3⟩ | ⟨h1, h2⟩ <;> rw [h1, h2] <;> rfl
theorem de_dget (hu : X.A.units + 1 < cLine) (ho : DE X G a ma) (hi : DE X G b mb) (hs : NoSl b) : DE X G (.Subscript a b pos) (mB dgetF ma mb) :=
  (pe_dget hu ho hi hs).wk fun σ H Q ⟨g, sl, s, R, h⟩ => tD.first R h fun v w g1 s1 H1 l1 n1 R1 r1 h1 => tD.first R1 h1 fun u w2 g2 s2 H2 l2 n2 R2 r2 h2 => by
    obtain ⟨S, x, y, lk, p, q, t⟩ := op2_post R2 (r1.le l2 n2) r2 h2
    cases x <;> try exact t.elim
    rename_i kvs
    simp only [dgetF] at t
    split at t
    · rename_i k ek
      split at t
      · rename_i z ez
        obtain ⟨d, vs, rfl, hd, hr⟩ := p
        obtain ⟨z1, e1, e2⟩ := hr.valS ez
        exact ⟨d, z1, rfl, .inl ⟨vs, k, hd, kOf_rep ek q, e1.symm⟩, t _ e2⟩
      · exact t.elim
    · exact t.elim

theorem rd_din {S H : Hp} {x y : F} {v u : V} {Q : VK} {K : PySem.W.Frag} (p : RepP K S H x v) (q : RepP K S H y u) (t : Post K S H Q (dinF x y)) : ∃ a o, u = .ref a ∧ DGet H a v o ∧ Q (.bl o.isSome) H := by
  cases y <;> try exact t.elim
  rename_i kvs
  simp only [dinF] at t
  split at t
  · rename_i k ek
    obtain ⟨d, vs, rfl, hd, hr⟩ := q
    exact ⟨d, valV vs k, rfl, .inl ⟨vs, k, hd, kOf_rep ek p, rfl⟩, by rw [← hr.isS]; exact t _ rep_bl⟩
  · exact t.elim
theorem rd_dnin {S H : Hp} {x y : F} {v u : V} {Q : VK} {K : PySem.W.Frag} (p : RepP K S H x v) (q : RepP K S H y u) (t : Post K S H Q (dninF x y)) : ∃ a o, u = .ref a ∧ DGet H a v o ∧ Q (.bl (!o.isSome)) H := by
  cases y <;> try exact t.elim
  rename_i kvs
  simp only [dninF] at t
  split at t
  · rename_i k ek
    obtain ⟨d, vs, rfl, hd, hr⟩ := q
    exact ⟨d, valV vs k, rfl, .inl ⟨vs, k, hd, kOf_rep ek p, rfl⟩, by rw [← hr.isS]; exact t _ rep_bl⟩
  · exact t.elim
theorem tdin_go {K : PySem.W.Frag} {σ : St} {H : Hp} {Q : VK} (h : tD K G (mB dinF ma mb) σ H Q) : tDIn (tD K G ma) (tD K G mb) σ H Q := by
  obtain ⟨g, sl, s, R, h⟩ := h
  exact tD.first R h fun v w g1 s1 H1 l1 n1 R1 r1 h1 => tD.first R1 h1 fun u w2 g2 s2 H2 l2 n2 R2 r2 h2 => by
    obtain ⟨S, x, y, lk, p, q, t⟩ := op2_post R2 (r1.le l2 n2) r2 h2
    exact rd_din p q t
theorem tdnin_go {K : PySem.W.Frag} {σ : St} {H : Hp} {Q : VK} (h : tD K G (mB dninF ma mb) σ H Q) : tDNotIn (tD K G ma) (tD K G mb) σ H Q := by
  obtain ⟨g, sl, s, R, h⟩ := h
  exact tD.first R h fun v w g1 s1 H1 l1 n1 R1 r1 h1 => tD.first R1 h1 fun u w2 g2 s2 H2 l2 n2 R2 r2 h2 => by
    obtain ⟨S, x, y, lk, p, q, t⟩ := op2_post R2 (r1.le l2 n2) r2 h2
    exact rd_dnin p q t
theorem de_din (hu : X.A.units + 1 < cLine) (hi : DE X G a ma) (ho : DE X G b mb) (h1 : behindInMarks .In b = false := by rfl) : DE X G (.Compare a [.In] [b] pos) (mB dinF ma mb) := (pe_cmp (pc_din hu hi ho) h1).wk fun σ H Q h => tdin_go h
theorem de_dnin (hu : X.A.units + 1 < cLine) (hi : DE X G a ma) (ho : DE X G b mb) (h1 : behindInMarks .NotIn b = false := by rfl) : DE X G (.Compare a [.NotIn] [b] pos) (mB dninF ma mb) := (pe_cmp (pc_dnotin hu hi ho) h1).wk fun σ H Q h => tdnin_go h
theorem dt_of_bl {e : Expr} {m : M} (h : PT X e (tB (tD X.K G m))) (hb : ∀ sl s y s', m sl s = .ok y s' → ∃ b, y = .w (.f (.bl b))) : DT X G e m := h.wk fun σ H Q ⟨g, sl, s, R, h⟩ => ⟨g, sl, s, R, (OkT.e h)⟩
theorem dt_din (hu : X.A.units + 1 < cLine) (hi : DE X G a ma) (ho : DE X G b mb) (h1 : behindInMarks .In b = false := by rfl) : DT X G (.Compare a [.In] [b] pos) (mB dinF ma mb) := (pt_cmp (pc_din hu hi ho) h1).wk fun σ H Q ⟨g, sl, s, R, h⟩ => tdin_go ⟨g, sl, s, R, h.e⟩
theorem dt_dnin (hu : X.A.units + 1 < cLine) (hi : DE X G a ma) (ho : DE X G b mb) (h1 : behindInMarks .NotIn b = false := by rfl) : DT X G (.Compare a [.NotIn] [b] pos) (mB dninF ma mb) := (pt_cmp (pc_dnotin hu hi ho) h1).wk fun σ H Q ⟨g, sl, s, R, h⟩ => tdnin_go ⟨g, sl, s, R, h.e⟩
/-- d.get(k, x) -/
def mGet (md mk mx : M) : M := fun sl s => mW md (fun w => fun sl s => match pk sl s w with
  | some (.dct _) => mW mk (fun u => mW mx fun z => fun sl s => match pk sl s w, pk sl s u with
    | some (.dct kvs), some k => match kOf k with
      | some k => match vK kvs k with
        | some x => .ok (.w (.f x)) s
        | none => .ok (.w z) s
      | none => .bad
    | _, _ => .bad) sl s
  | _ => .bad) sl s
theorem de_dget2 {md mk mx : M} {d k x : Expr} (hu : X.A.units + 1 < cLine) (ho : DE X G d md) (he : DE X G k mk) (hf : DE X G x mx) (m : M2 X d "get" apos k x pos) : DE X G (.Call (.Attribute d "get" apos) [k, x] [] pos) (mGet md mk mx) :=
  (pe_dget2 hu ho he hf m).wk fun σ H Q ⟨g, sl, s, R, h⟩ => tD.first R h fun v w g1 s1 H1 l1 n1 R1 r1 h1 => by
    split at h1
    · rename_i kvs0 e0
      obtain ⟨d0, vs0, rfl, hd0, _⟩ := R1.peek r1 e0
      refine ⟨d0, rfl, .inl ⟨vs0, hd0⟩, tD.first R1 h1 fun u w2 g2 s2 H2 l2 n2 R2 r2 h2 => tD.first R2 h2 fun z w3 g3 s3 H3 l3 n3 R3 r3 h3 => ?_⟩
      split at h3
      · rename_i kvs kf e1 e2
        have p1 := R3.peek ((r1.le l2 n2).le l3 n3) e1
        have p2 := R3.peek (r2.le l3 n3) e2
        obtain ⟨d1, vs, ed, hd, hr⟩ := p1
        cases ed
        split at h3
        · rename_i ky ek
          split at h3
          · rename_i x1 ex
            obtain ⟨v1, q1, q2⟩ := hr.valS ex
            exact ⟨some v1, .inl ⟨vs, ky, hd, kOf_rep ek p2, q1.symm⟩, h3 v1 g3 H3 .rfl (Nat.le_refl _) R3 q2⟩
          · rename_i ex
            rcases hr.val ky with ⟨_, _, q, _⟩ | ⟨_, q⟩
            · rw [ex] at q; cases q
            · exact ⟨none, .inl ⟨vs, ky, hd, kOf_rep ek p2, q.symm⟩, h3 z g3 H3 .rfl (Nat.le_refl _) R3 r3⟩
        · exact h3.elim
      · exact h3.elim
    · exact h1.elim
end
end Fm

/-! FL: objects beside; displays; comprehensions. -/
namespace Fm
open PySem L2

/-- what a derivation asks of G -/
structure GOk (X : Cx) (C : Addr) (cls : Str → Addr) (G : Gc) : Prop where
  c : G.C = C
  l : G.cls = cls
  xs : G.xs = none
  tk : Takes X G.W
theorem GOk.fr {X : Cx} {C : Addr} {cls : Str → Addr} {G : Gc} (o : GOk X C cls G) {i : Nat} : G.fr i := Gc.fr_of o.xs
section
variable {K : PySem.W.Frag} {G : Gc} {g g' : Gh} {sl : List Sl} {s s' : Sto} {σ : St} {H H' : Hp} {n m : Nat} {C a p : Addr} {c : Ct} {u : HO}
theorem RlH.la_ne' (R : RlH K C g s H) (h1 : g.S p = none) (h2 : ∀ k, k < s.O.length → g.rc k ≠ p) : ∀ x ∈ g.La, x.1 ≠ p := fun x hx e => by
  obtain ⟨w, _, z⟩ := paired_mem R.lkw x hx
  unfold LkW at z
  split at z
  · obtain ⟨z1, _⟩ := z
    rw [e, h1] at z1; cases z1
  · exact h2 _ z.1 (z.2.trans e)
  · exact z
/-- an object that is told to nobody changes -/
theorem RlH.free (R : RlH K C g s H) (h1 : g.S p = none) (h2 : ∀ k, k < s.O.length → g.rc k ≠ p) : RlH K C g s (upd H p u) := by
  have la := R.la_ne' h1 h2
  have nS : ∀ {a w}, g.S a = some w → a ≠ p := fun {a w} e z => by rw [z, h1] at e; cases e
  refine ⟨fun a w e => ?_, fun a kvs e hl => by rw [upd_ne (nS e)]; exact R.exa a kvs e hl, fun k c e => ⟨(R.cel k c e).1, (R.cel k c e).2.heap fun w hw => by rw [upd_ne (h2 k (List.getElem?_eq_some_iff.mp e).1)]; exact hw⟩, R.cin, fun x hx => by rw [upd_ne (la x hx)]; exact R.lck x hx, R.lkw, R.lnd⟩
  have z := R.see a w e
  have q : upd H p u a = H a := upd_ne (nS e)
  unfold Sees Rd at z ⊢
  rw [q]
  exact z
theorem Rl.free (R : Rl K G g sl s σ H) (h1 : g.S p = none) (h2 : ∀ k, k < s.O.length → g.rc k ≠ p) (h3 : ∀ (i : Nat) (d : Ct), sl[i]? = some (Sl.own d) → g.ro i ≠ p) (h4 : G.H0 p = none) : Rl K G g sl s σ (upd H p u) := by
  refine { toRlH := R.toRlH.free h1 h2, len := R.len, sok := R.sok, exs := R.exs, val := R.val, own := fun i c e => ?_, oni := R.oni, oin := R.oin, frm := fun a w f => ?_, newS := R.newS, newC := R.newC, oldC := R.oldC, n0le := R.n0le, newO := R.newO, dom := fun a h => ?_, subS := R.subS }
  · obtain ⟨q1, q2, q3, q4⟩ := R.own i c e
    exact ⟨q1, q2, q3, q4.heap fun w hw => by rw [upd_ne (h3 i c e)]; exact hw⟩
  · obtain ⟨q1, q2⟩ := R.frm a w f
    have : a ≠ p := fun z => by have q := f.1; rw [z, h4] at q; cases q
    exact ⟨by rw [upd_ne this]; exact q1, q2⟩
  · by_cases e : a = p
    · subst e; rw [upd_same]; simp
    · rw [upd_ne e]; exact R.dom a h
def Gc.hide (G : Gc) (p : Addr) (u : HO) : Gc := { G with H0 := upd G.H0 p u }
/-- an object of nobody's is watched -/
theorem Rl.watch (R : Rl K G g sl s σ H) (q1 : g.S p = none) (q2 : ∀ k, k < s.O.length → g.rc k ≠ p) (q3 : ∀ (i : Nat) (d : Ct), sl[i]? = some (Sl.own d) → g.ro i ≠ p) (q0 : G.H0 p = none) : Rl K (G.hide p u) g sl s σ (upd H p u) := by
  have R1 := R.free (u := u) q1 q2 q3 q0
  have ne : ∀ a, a ≠ p → (G.hide p u).H0 a = G.H0 a := fun a h => upd_ne h
  refine { toRlH := R1.toRlH, len := R.len, sok := R.sok, exs := R.exs, val := R.val, own := R1.own, oni := R.oni, oin := R.oin, frm := fun a w f => ?_, newS := fun a w e => ?_, newC := fun k h1 h2 => ?_, oldC := R.oldC, n0le := R.n0le, newO := fun i c e => ?_, dom := fun a h => ?_, subS := R.subS }
  · by_cases e : a = p
    · subst e
      have f1 : upd G.H0 a u a = some w := f.1
      rw [upd_same] at f1
      cases f1
      exact ⟨upd_same, q1, q2, q3⟩
    · exact R1.frm a w ⟨by rw [← ne a e]; exact f.1, f.2⟩
  · rcases R.newS a w e with z | z
    · exact .inl z
    · refine .inr ?_
      rw [ne a fun q => by rw [q, q1] at e; cases e]; exact z
  · rw [ne _ (q2 k h2)]; exact R.newC k h1 h2
  · rw [ne _ (q3 i c e)]; exact R.newO i c e
  · by_cases e : a = p
    · subst e; rw [upd_same]; simp
    · rw [ne a e] at h; exact R1.dom a h
/-- a new object stands beside -/
theorem Rl.hide (R : Rl K G g sl s σ H) (hp : H p = none) : Rl K (G.hide p u) g sl s σ (upd H p u) := R.watch (R.S_none hp) (R.rc_ne hp) (R.ro_ne hp) (R.H0_none hp)
/-- .. and is looked at again -/
theorem Rl.bare (R : Rl K (G.hide p u) g sl s σ H) (h0 : G.H0 p = none) (hS : G.S0 p = none) (hc : ∀ k, k < G.n0 → G.rc0 k ≠ p) : Rl K G g sl s σ H ∧ H p = some u ∧ g.S p = none ∧ (∀ k, k < s.O.length → g.rc k ≠ p) ∧ ∀ (i : Nat) (c : Ct), sl[i]? = some (Sl.own c) → g.ro i ≠ p := by
  have ne : ∀ a, a ≠ p → (G.hide p u).H0 a = G.H0 a := fun a h => upd_ne h
  have imp : ∀ a, (G.hide p u).H0 a = none → G.H0 a = none := fun a h => by
    by_cases e : a = p
    · subst e; exact h0
    · rw [← ne a e]; exact h
  refine ⟨{ toRlH := R.toRlH, len := R.len, sok := R.sok, exs := R.exs, val := R.val, own := R.own, oni := R.oni, oin := R.oin, frm := fun a w f => ?_, newS := fun a w e => ?_, newC := fun k h1 h2 => imp _ (R.newC k h1 h2), oldC := R.oldC, n0le := R.n0le, newO := fun i c e => imp _ (R.newO i c e), dom := fun a h => ?_, subS := R.subS }, R.frm p u ⟨upd_same, hS, hc⟩⟩
  · have : a ≠ p := fun z => by have q := f.1; rw [z, h0] at q; cases q
    exact R.frm a w ⟨by rw [ne a this]; exact f.1, f.2⟩
  · rcases R.newS a w e with z | z
    · exact .inl z
    · exact .inr (imp _ z)
  · have : a ≠ p := fun z => by rw [z] at h; exact h h0
    exact R.dom a (by rw [ne a this]; exact h)
theorem Rl.S0_none (R : Rl K G g sl s σ H) (h : g.S p = none) : G.S0 p = none := by
  cases e : G.S0 p with
  | none => rfl
  | some w => rw [R.subS _ _ e] at h; cases h
theorem Rl.rc0_ne (R : Rl K G g sl s σ H) (h : ∀ k, k < s.O.length → g.rc k ≠ p) : ∀ k, k < G.n0 → G.rc0 k ≠ p := fun k hk => by
  rw [← R.oldC k hk]; exact h k (Nat.lt_of_lt_of_le hk R.n0le)
end

/-! ### displays of dicts -/
@[simp] def kM : List (M × M) → List Sl → Sto → R (List (Key × F))
  | [], _, s => .ok [] s
  | (mk, mv) :: r, sl, s => (mk sl s).bind fun y s1 => (mv sl s1).bind fun z s2 => (kM r sl s2).bind fun kvs s3 => match frz y, frz z with
    | .f k, .f x => match kOf k with
      | some k => .ok ((k, x) :: kvs) s3
      | none => .bad
    | _, _ => .bad
@[simp] def mDct (ms : List (M × M)) : M := fun sl s => (kM ms sl s).bind fun kvs s1 => if kvs.length ≤ 15 then .ok (.fr (.dct (mK [] kvs))) s1 else .bad
def OkK (K : PySem.W.Frag) (G : Gc) (g : Gh) (sl : List Sl) (s : Sto) (σ : St) (Q : List (V × V) → Hp → Prop) : R (List (Key × F)) → Prop
  | .ok kvs s' => ∀ ps g' H', LeO g g' s.O.length → s.O.length ≤ s'.O.length → Rl K G g' sl s' σ H' → (∃ ws : List (Key × V), ps = ws.map (fun kv => (kV kv.1, kv.2)) ∧ RepK K g'.S kvs ws) → Q ps H'
  | .exc c s' => ∀ g' H', LeO g g' s.O.length → s.O.length ≤ s'.O.length → Rl K G g' sl s' σ H' → G.W (.ref (G.cls c)) none σ H'
  | .bad => False
theorem kOf_rep' {K : PySem.W.Frag} {S : Hp} {x : F} {v : V} {k : Key} (h : kOf x = some k) (r : Rep K S x v) : v = kV k := by
  cases x <;> simp only [kOf] at h <;> first | (cases h; simp only [Rep] at r; exact r) | cases h
/-- an expression under any G like this one -/
def tX (X : Cx) (C : Addr) (cls : Str → Addr) (W : WX) (m : M) : TE := fun σ H Q => ∃ G, GOk X C cls G ∧ G.W = W ∧ tD X.K G m σ H Q
theorem pe_tX {X : Cx} {C : Addr} {cls : Str → Addr} {W : WX} {e : Expr} {m : M} (h : ∀ G, GOk X C cls G → DE X G e m) : PE X e (tX X C cls W m) := ⟨fun pins s σ H Q I ⟨G, o, _, q⟩ => (h G o).run pins s σ H Q I q⟩
theorem pairs_go {X : Cx} {C : Addr} {cls : Str → Addr} {G : Gc} (o : GOk X C cls G) : ∀ (ms : List (M × M)) {g : Gh} {sl : List Sl} {s : Sto} {σ : St} {H : Hp} {Q : List (V × V) → Hp → Prop}, Rl X.K G g sl s σ H → OkK X.K G g sl s σ Q (kM ms sl s) →
    tPairs (ms.map fun p => (tX X C cls G.W p.1, tX X C cls G.W p.2)) σ H Q
  | [], g, sl, s, σ, H, Q, R, h => h [] g H .rfl (Nat.le_refl _) R ⟨[], rfl, .nil⟩
  | (mk, mv) :: r, g, sl, s, σ, H, Q, R, h => by
    refine ⟨G, o, rfl, g, sl, s, R, ?_⟩
    show OkE X.K G g sl s σ _ (mk sl s)
    simp only [kM] at h
    cases e : mk sl s with
    | bad => rw [e] at h; exact h
    | exc c s' => rw [e] at h; exact h
    | ok y s1 =>
      rw [e] at h
      simp only [Fm.R.bind_ok] at h
      intro v g1 H1 l1 n1 R1 r1
      obtain ⟨g2, l2, R2, r2⟩ := R1.freeze r1
      have l12 := l1.trans l2 n1
      refine ⟨G, o, rfl, g2, sl, s1, R2, ?_⟩
      show OkE X.K G g2 sl s1 σ _ (mv sl s1)
      cases e2 : mv sl s1 with
      | bad => rw [e2] at h; exact h
      | exc c s' => rw [e2] at h; exact fun g' H' a b c => h g' H' (l12.trans a n1) (Nat.le_trans n1 b) c
      | ok z s2 =>
        rw [e2] at h
        simp only [Fm.R.bind_ok] at h
        intro u g3 H3 l3 n3 R3 r3
        obtain ⟨g4, l4, R4, r4⟩ := R3.freeze r3
        have l34 := l3.trans l4 n3
        have l14 := l12.trans l34 n1
        have n13 := Nat.le_trans n1 n3
        refine pairs_go o r R4 ?_
        cases e3 : kM r sl s2 with
        | bad => rw [e3] at h; exact h
        | exc c s' => rw [e3] at h; exact fun g' H' a b c => h g' H' (l14.trans a n13) (Nat.le_trans n13 b) c
        | ok kvs s3 =>
          rw [e3] at h
          simp only [Fm.R.bind_ok] at h
          intro ps g5 H5 l5 n5 R5 r5
          split at h
          · rename_i k x ek ex
            split at h
            · rename_i ky eky
              obtain ⟨ws, rfl, r5⟩ := r5
              rw [ek] at r2
              rw [ex] at r4
              have q1 := kOf_rep' eky (S := g2.S) (K := X.K) r2
              subst q1
              exact h _ g5 H5 (l14.trans l5 n13) (Nat.le_trans n13 n5) R5 ⟨(ky, u) :: ws, rfl, .cons (Rep.sub l5.sub _ _ r4) r5⟩
            · exact h.elim
          · exact h.elim
/-- the pairs' derivations -/
inductive DK (X : Cx) (C : Addr) (cls : Str → Addr) : List (Option Expr) → List Expr → List (M × M) → Prop where
  | nil : DK X C cls [] [] []
  | cons {k v : Expr} {ks : List (Option Expr)} {vs : List Expr} {mk mv : M} {ms : List (M × M)} (hk : ∀ G, GOk X C cls G → DE X G k mk) (hv : ∀ G, GOk X C cls G → DE X G v mv) (r : DK X C cls ks vs ms) : DK X C cls (some k :: ks) (v :: vs) ((mk, mv) :: ms)
theorem DK.pps {X : Cx} {C : Addr} {cls : Str → Addr} {W : WX} {pos : Pos} {ks : List (Option Expr)} {vs : List Expr} {ms : List (M × M)} (h : DK X C cls ks vs ms) : PPs X pos ks vs (ms.map fun p => (tX X C cls W p.1, tX X C cls W p.2)) := by
  induction h with
  | nil => exact pps_nil
  | cons hk hv r ih => exact pps_cons (pe_tX hk) (pe_tX hv) ih
section
variable {X : Cx} {G : Gc} {C : Addr} {cls : Str → Addr} {pos : Pos}
theorem GOk.hide {p : Addr} {u : HO} (o : GOk X C cls G) : GOk X C cls (G.hide p u) := ⟨o.c, o.l, o.xs, o.tk⟩
theorem de_dct {ks : List (Option Expr)} {vs : List Expr} {ms : List (M × M)} (o : GOk X C cls G) (h : DK X C cls ks vs ms) (hall : ks.all (·.isSome) = true := by rfl) (hl : ks.length = vs.length := by rfl) (h0 : ks ≠ [] := by intro z; cases z) (h15 : ks.length ≤ 15 := by decide) : DE X G (.Dict ks vs pos) (mDct ms) :=
  (pe_disp (h.pps (W := G.W)) hall hl h0 h15).wk fun σ H Q ⟨g, sl, s, R, h⟩ p hp => by
    have R1 := R.hide (u := .dK []) hp
    have q0 := R.H0_none hp
    have qS := R.S0_none (R.S_none hp)
    have qc := R.rc0_ne (R.rc_ne hp)
    refine pairs_go (G := G.hide p (.dK [])) o.hide ms R1 ?_
    simp only [mDct] at h
    cases e : kM ms sl s with
    | bad => rw [e] at h; exact h
    | exc c s' =>
      rw [e] at h
      exact fun g' H' a b c => h g' H' a b (c.bare q0 qS qc).1
    | ok kvs s1 =>
      rw [e] at h
      simp only [Fm.R.bind_ok] at h
      intro ps g1 H1 l1 n1 R2 r2
      obtain ⟨R3, hH, hS, hrc, hro⟩ := R2.bare q0 qS qc
      obtain ⟨ws, rfl, r2⟩ := r2
      split at h
      · rename_i h15
        refine ⟨hH, ws, rfl, by rw [← RepK.length r2]; exact h15, ?_⟩
        have R4 := R3.free (u := .dK (mergeK [] ws)) hS hrc hro q0
        exact h (.ref p) g1 _ l1 n1 R4 ⟨p, rfl, hS, hrc, hro, q0, R3.toRlH.la_ne' hS hrc, ⟨_, RepK.merge .nil r2, .inl upd_same⟩, fun fs z => by cases z⟩
      · exact h.elim
@[simp] def mDnew : M := fun _ s => .ok (.fr (.dct [])) s
theorem de_dnew : DE X G (.Dict [] [] pos) mDnew :=
  pe_dnewK.wk fun σ H Q ⟨g, sl, s, R, h⟩ p hp => by
    have q0 := R.H0_none hp
    exact h (.ref p) g _ .rfl (Nat.le_refl _) (R.new hp) ⟨p, rfl, R.S_none hp, R.rc_ne hp, R.ro_ne hp, q0, R.toRlH.la_ne' (R.S_none hp) (R.rc_ne hp), ⟨[], .nil, .inl upd_same⟩, fun fs z => by cases z⟩
end
end Fm

/-! FM: comprehensions. -/
namespace Fm
open PySem L2
def compF (i : Nat) (t e : M) : List F → List Sl → Sto → R (List F)
  | [], _, s => .ok [] s
  | x :: xs, sl, s => (t (sl.set i (.v (.f x))) s).bind fun y s1 => match y with
    | .w (.f (.bl true)) => (e (sl.set i (.v (.f x))) s1).bind fun z s2 => match frz z with
      | .f z => (compF i t e xs sl s2).bind fun zs s3 => .ok (z :: zs) s3
      | _ => .bad
    | .w (.f (.bl false)) => compF i t e xs sl s1
    | _ => .bad
@[simp] def slNoOwn : Option Sl → Bool
  | some (.own _) => false
  | some _ => true
  | none => false
def mLc (i : Nat) (it : MI) (t e : M) : M := fun sl s => if slNoOwn sl[i]? then (it sl s).bind fun xs s1 => match compF i t e xs (sl.set i .no) s1 with
    | .ok zs s2 => if zs.length ≤ sizeLine then .ok (.fr (.lst zs)) s2 else .bad
    | _ => .bad
  else .bad
theorem bind_ok {α β : Type} {r : R α} {k : α → Sto → R β} {b : β} {s : Sto} (h : r.bind k = .ok b s) : ∃ a s1, r = .ok a s1 ∧ k a s1 = .ok b s := by
  cases r with
  | ok a s1 => exact ⟨a, s1, rfl, h⟩
  | exc c s1 => cases h
  | bad => cases h
theorem compF_cons {i : Nat} {t e : M} {x : F} {xs : List F} {sl : List Sl} {s s2 : Sto} {zs : List F} (h : compF i t e (x :: xs) sl s = .ok zs s2) : (∃ s1, t (sl.set i (.v (.f x))) s = .ok (.w (.f (.bl false))) s1 ∧ compF i t e xs sl s1 = .ok zs s2) ∨
    ∃ s1 z s3 zf zr, t (sl.set i (.v (.f x))) s = .ok (.w (.f (.bl true))) s1 ∧ e (sl.set i (.v (.f x))) s1 = .ok z s3 ∧ frz z = .f zf ∧ compF i t e xs sl s3 = .ok zr s2 ∧ zs = zf :: zr := by
  unfold compF at h
  obtain ⟨y, s1, h1, h⟩ := bind_ok h
  split at h
  · obtain ⟨z, s3, h2, h⟩ := bind_ok h
    split at h
    · rename_i zf hz
      obtain ⟨zr, s4, h3, h⟩ := bind_ok h
      cases h
      exact .inr ⟨s1, z, s3, zf, zr, h1, h2, hz, h3, rfl⟩
    · cases h
  · exact .inl ⟨s1, h1, h⟩
  · cases h
section
variable {K : PySem.W.Frag} {G : Gc} {g g' : Gh} {sl : List Sl} {s s' : Sto} {σ : St} {H H' : Hp} {i : Nat} {W : WX}
theorem Rl.wish (R : Rl K G g sl s σ H) : Rl K { G with W := W } g sl s σ H :=
  { toRlH := R.toRlH, len := R.len, sok := R.sok, exs := R.exs, val := R.val, own := R.own, oni := R.oni, oin := R.oin, frm := R.frm, newS := R.newS, newC := R.newC, oldC := R.oldC, n0le := R.n0le, newO := R.newO, dom := R.dom, subS := R.subS }
theorem Rl.wish' (R : Rl K { G with W := W } g sl s σ H) : Rl K G g sl s σ H :=
  { toRlH := R.toRlH, len := R.len, sok := R.sok, exs := R.exs, val := R.val, own := R.own, oni := R.oni, oin := R.oin, frm := R.frm, newS := R.newS, newC := R.newC, oldC := R.oldC, n0le := R.n0le, newO := R.newO, dom := R.dom, subS := R.subS }
/-- the slot that was wiped is as ahead -/
theorem Rl.unwipe (R0 : Rl K G g sl s σ H) (no : slNoOwn sl[i]? = true) (l : LeO g g' s.O.length) (hn : s.O.length ≤ s'.O.length) (R : Rl K G g' (sl.set i .no) s' (σ.set i none) H') : Rl K G g' sl s' σ H' := by
  have ne : ∀ {j : Nat} {c : Ct}, sl[j]? = some (Sl.own c) → j ≠ i := fun {j c} e z => by rw [z] at e; rw [e] at no; cases no
  have up : ∀ {j : Nat} {c : Ct}, sl[j]? = some (Sl.own c) → (sl.set i .no)[j]? = some (Sl.own c) := fun {j c} e => by
    rw [List.getElem?_set_ne (fun z => ne e z.symm)]; exact e
  refine { toRlH := R.toRlH, len := R0.len, sok := R0.sok, exs := R0.exs, val := fun j w e => ?_, own := fun j c e => ?_, oni := R0.oni, oin := fun j k c d e e' => R.oin j k c d (up e) (up e'), frm := fun a u f => ?_, newS := R.newS, newC := R.newC, oldC := R.oldC, n0le := R.n0le, newO := fun j c e => R.newO j c (up e), dom := R.dom, subS := R.subS }
  · obtain ⟨v, e1, r1⟩ := R0.val j w e
    exact ⟨v, e1, r1.le l hn⟩
  · obtain ⟨h1, h2, h3, h4⟩ := R.own j c (up e)
    rw [List.getElem?_set_ne (fun z => ne e z.symm)] at h3
    exact ⟨h1, h2, h3, h4⟩
  · obtain ⟨h1, h2, h3, h4⟩ := R.frm a u f
    exact ⟨h1, h2, h3, fun j c e => h4 j c (up e)⟩
end
abbrev W0 : WX := fun _ _ _ _ => False
/-- under any G that wishes nothing of errors -/
def tE0 (K : PySem.W.Frag) (C : Addr) (cls : Str → Addr) (m : M) : TE := fun σ H Q => ∃ G : Gc, G.C = C ∧ G.cls = cls ∧ G.xs = none ∧ G.W = W0 ∧ tD K G m σ H Q
def tT0 (K : PySem.W.Frag) (C : Addr) (cls : Str → Addr) (m : M) : TT := fun σ H Q => ∃ G : Gc, G.C = C ∧ G.cls = cls ∧ G.xs = none ∧ G.W = W0 ∧ tDT K G m σ H Q
theorem gok0 {X : Cx} {C : Addr} {cls : Str → Addr} {G : Gc} (h1 : G.C = C) (h2 : G.cls = cls) (h3 : G.xs = none) (h4 : G.W = W0) : GOk X C cls G := ⟨h1, h2, h3, by rw [h4]; exact takes0⟩
theorem pe_tE0 {X : Cx} {C : Addr} {cls : Str → Addr} {e : Expr} {m : M} (h : ∀ G, GOk X C cls G → DE X G e m) : PE X e (tE0 X.K C cls m) := ⟨fun pins s σ H Q I ⟨G, a, b, c, d, q⟩ => (h G (gok0 a b c d)).run pins s σ H Q I q⟩
theorem pt_tT0 {X : Cx} {C : Addr} {cls : Str → Addr} {e : Expr} {m : M} (h : ∀ G, GOk X C cls G → DT X G e m) : PT X e (tT0 X.K C cls m) := ⟨fun pins s σ H Q I ⟨G, a, b, c, d, q⟩ => (h G (gok0 a b c d)).run pins s σ H Q I q⟩
/-- a clause's tests -/
def DTs (X : Cx) (C : Addr) (cls : Str → Addr) (ifs : List Expr) (m : M) : Prop := PTs X ifs (tT0 X.K C cls m)
theorem dts_nil {X : Cx} {C : Addr} {cls : Str → Addr} : DTs X C cls [] (mC (.bl true)) := ⟨fun pins s σ H Q I ⟨G, a, b, c, d, g, sl, s1, R, h⟩ => pts_nil.run pins s σ H Q I (h g H .rfl (Nat.le_refl _) R)⟩
theorem dts_one {X : Cx} {C : Addr} {cls : Str → Addr} {e : Expr} {m : M} (h : ∀ G, GOk X C cls G → DT X G e m) : DTs X C cls [e] m := pts_one (pt_tT0 h)
section
variable {X : Cx} {G : Gc} {C : Addr} {cls : Str → Addr}
theorem set_get {α : Type} {l : List α} {i : Nat} {x y : α} : (l.set i x).set i y = l.set i y := List.set_set ..
theorem lc_go {tg iter : Expr} {it : MI} {mt me : M} {i : Nat} (o : GOk X C cls G) {σ : St} {H : Hp} {Q : VK} (h : tD X.K G (mLc i it mt me) σ H Q) : tLc (tDI X.K G it) (gName i) (tT0 X.K C cls mt) (tE0 X.K C cls me) [i] σ H Q := by
  obtain ⟨g, sl, s, R, h⟩ := h
  simp only [mLc] at h
  split at h
  case isFalse => exact h.elim
  rename_i no
  refine ⟨g, sl, s, R, ?_⟩
  cases e : it sl s with
  | bad => rw [e] at h; exact h
  | exc c s' => rw [e] at h; exact h
  | ok items s1 =>
    rw [e] at h
    simp only [Fm.R.bind_ok] at h
    intro J g1 H1 l1 n1 R1 ok D hD
    split at h
    case h_2 => exact h.elim
    rename_i zs s2 ez
    split at h
    case isFalse => exact h.elim
    rename_i hz
    have q0 := R1.H0_none hD
    have qS := R1.S0_none (R1.S_none hD)
    have qc := R1.rc0_ne (R1.rc_ne hD)
    have Rb : Rl X.K ({ G with W := W0 }.hide D (.lst [])) g1 (sl.set i .no) s1 (σ.set i none) (upd H1 D (.lst [])) := ((R1.setNo (i := i) (v := none) (Gc.fr_of o.xs)).wish (W := W0)).hide hD
    refine ⟨fun n m H => m = items.length - n ∧ n ≤ items.length ∧ ∃ g' s' acc as zs', LeO g1 g' s1.O.length ∧ s1.O.length ≤ s'.O.length ∧ Rl X.K ({ G with W := W0 }.hide D (.lst acc)) g' (sl.set i .no) s' (σ.set i none) H ∧ Reps X.K g'.S as acc ∧
      compF i mt me (items.drop n) (sl.set i .no) s' = .ok zs' s2 ∧ as ++ zs' = zs, ⟨items.length, by simp, Nat.zero_le _, g1, s1, [], [], zs, .rfl, Nat.le_refl _, Rb, .nil, by simpa using ez, rfl⟩, ?_⟩
    rintro n m H ⟨rfl, hn, g', s', acc, as, zs', l', n', R', ra, ec, ea⟩
    have ex := R'.ex l'.toLe
    by_cases hlt : n < items.length
    · refine .inr ⟨ok.go n g' H hlt ex, fun H => n + 1 ≤ items.length ∧ ∃ g' s' acc as zs', LeO g1 g' s1.O.length ∧ s1.O.length ≤ s'.O.length ∧ Rl X.K ({ G with W := W0 }.hide D (.lst acc)) g' (sl.set i .no) s' (σ.set i none) H ∧ Reps X.K g'.S as acc ∧
        compF i mt me (items.drop (n + 1)) (sl.set i .no) s' = .ok zs' s2 ∧ as ++ zs' = zs, fun H' z => ⟨items.length - (n + 1), by omega, rfl, z.1, z.2⟩, fun x H' y => ?_⟩
      obtain ⟨rfl, y, hy, ry⟩ := ok.yld n g' H x H' hlt ex y
      rw [drop_get hy] at ec
      have Rt : Rl X.K ({ G with W := W0 }.hide D (.lst acc)) g' ((sl.set i .no).set i (Sl.v (.f y))) s' ((σ.set i none).set i (some x)) H' := R'.setV (w := .f y) (Rep.sub l'.sub _ _ ry) rfl (Gc.fr_of o.xs)
      refine ⟨by show ((σ.set i none).set i (some x)).set i none = σ.set i none; rw [set_get, set_get], ({ G with W := W0 }.hide D (.lst acc)), o.c, o.l, o.xs, rfl, g', _, s', Rt, ?_⟩
      rcases compF_cons ec with ⟨s3, et, er⟩ | ⟨s3, z, s4, zf, zr, et, ee, ef, er, rfl⟩
      · rw [et]
        intro g2 H2 l2 n2 R2
        refine iteF ⟨hlt, g2, s3, acc, as, zs', l'.trans l2 n', Nat.le_trans n' n2, ?_, Reps.sub l2.sub _ _ ra, er, ea⟩
        have := R2.setNo (i := i) (v := none) (Gc.fr_of o.xs)
        rw [set_get, set_get, set_get, show List.set (wipe σ [i]) i none = σ.set i none from set_get] at this
        exact this
      · rw [et]
        intro g2 H2 l2 n2 R2
        refine iteT ⟨({ G with W := W0 }.hide D (.lst acc)), o.c, o.l, o.xs, rfl, g2, _, s3, R2, ?_⟩
        rw [ee]
        intro v g3 H3 l3 n3 R3 r3
        obtain ⟨g4, l4, R4, r4⟩ := R3.freeze r3
        rw [ef] at r4
        have R5 := R4.setNo (i := i) (v := none) (Gc.fr_of o.xs)
        rw [set_get, set_get, set_get, show List.set (wipe σ [i]) i none = σ.set i none from set_get] at R5
        obtain ⟨R6, hH, hS, hrc, hro⟩ := R5.bare q0 qS qc
        have l24 := l2.trans (l3.trans l4 n3) n2
        refine ⟨acc, hH, ?_, hlt, g4, s4, acc ++ [v], as ++ [zf], zr, l'.trans l24 n', Nat.le_trans n' (Nat.le_trans n2 n3), R6.watch hS hrc hro q0, (Reps.sub l24.sub _ _ ra).append (.one r4), er, by rw [← ea, List.append_assoc]; rfl⟩
        have : zs.length = as.length + (zr.length + 1) := by rw [← ea, List.length_append, List.length_cons]
        rw [← ra.length]; omega
    · have e9 : n = items.length := by omega
      subst e9
      rw [List.drop_length] at ec
      unfold compF at ec
      cases ec
      rw [List.append_nil] at ea
      subst ea
      obtain ⟨R6, hH, hS, hrc, hro⟩ := R'.bare q0 qS qc
      have R7 := R1.unwipe no l' n' (R6.wish')
      refine .inl ⟨ok.stop g' H ex, h (.ref D) g' H (l1.trans l' n1) (Nat.le_trans n1 n') R7 ⟨D, rfl, hS, hrc, ?_, q0, R6.toRlH.la_ne' hS hrc, ⟨acc, ra, hH⟩, fun fs z => by cases z⟩⟩
      intro j d ej
      have ne : j ≠ i := fun z => by rw [z] at ej; rw [ej] at no; cases no
      exact hro j d (by rw [List.getElem?_set_ne (fun z => ne z.symm)]; exact ej)
theorem de_lc {x : Str} {elt tg iter : Expr} {ifs : List Expr} {scope : Scope} {pos : Pos} {it : MI} {mt me : M} (i : Nat) (o : GOk X C cls G) (hc : X.calm = true) (hN : X.N.Nodup) (hi : DI X G tg iter it) (ok : BlkOk X.N X.env.scope scope [(x, i)])
    (hg : ∀ (s : Shared) (H : Hp) (Ca : Addr) (cl : List (Str × Addr)) (fp : List Addr), PG (X.blk s H scope (compEnvC scope cl Ca X.env) fp) tg (gName i))
    (ht : ∀ (s : Shared) (H : Hp) (Ca : Addr) (cl : List (Str × Addr)) (fp : List Addr), DTs (X.blk s H scope (compEnvC scope cl Ca X.env) fp) C cls ifs mt)
    (he : ∀ (s : Shared) (H : Hp) (Ca : Addr) (cl : List (Str × Addr)) (fp : List Addr) (G : Gc), GOk (X.blk s H scope (compEnvC scope cl Ca X.env) fp) C cls G → DE (X.blk s H scope (compEnvC scope cl Ca X.env) fp) G elt me)
    (hs : ∀ x, foldedSetIterable iter X.env x = pure x := by intro _; rfl) : DE X G (.ListComp elt [⟨tg, iter, ifs, 0⟩] scope pos) (mLc i it mt me) :=
  (pe_lc (tt := tT0 X.K C cls mt) (te := tE0 X.K C cls me) hc hN hi ok hg ht (fun s H Ca cl fp => pe_tE0 (he s H Ca cl fp)) hs).wk fun σ H Q h => lc_go (tg := tg) (iter := iter) o h
end
end Fm

/-! FN: objects change. -/
namespace Fm
open PySem L2
@[simp] def lkd (k : Nat) : List W → Bool
  | [] => false
  | .c j :: r => j == k || lkd k r
  | _ :: r => lkd k r
/-- the object of w has other content -/
@[simp] def poke (w : W) (c : Ct) (sl : List Sl) (s : Sto) : Option (List Sl × Sto) := match w with
  | .o i => match sl[i]? with
    | some (.own _) => some (sl.set i (.own c), s)
    | _ => none
  | .c k => if k < s.O.length && !lkd k s.lk then some (sl, { s with O := s.O.set k c }) else none
  | _ => none
section
variable {K : PySem.W.Frag} {G : Gc} {g g' : Gh} {sl sl' : List Sl} {s s' : Sto} {σ : St} {H H' : Hp} {n m : Nat} {C a p : Addr} {c c' : Ct} {u : HO} {i k : Nat} {w : W} {v : V}
theorem Rl.la_own (R : Rl K G g sl s σ H) (e : sl[i]? = some (.own c)) : ∀ x ∈ g.La, x.1 ≠ g.ro i := R.toRlH.la_ne' (R.own i c e).1 (R.own i c e).2.1
/-- what slot i owns changes -/
theorem Rl.pokeO (R : Rl K G g sl s σ H) (e : sl[i]? = some (.own c)) (hc : CelAt K G.C g s.O.length (upd H (g.ro i) u) (g.ro i) c') (hi : ∀ fs, c' ≠ .ins fs) : Rl K G g (sl.set i (.own c')) s σ (upd H (g.ro i) u) := by
  obtain ⟨h1, h2, h3, h4⟩ := R.own i c e
  have lt := (List.getElem?_eq_some_iff.mp e).1
  have dn : ∀ a, G.H0 a ≠ none → a ≠ g.ro i := fun a h z => by rw [z, R.newO i c e] at h; exact h rfl
  refine { toRlH := R.toRlH.free h1 h2, len := by simpa using R.len, sok := fun j w q => ?_, exs := R.exs, val := fun j w q => ?_, own := fun j d q => ?_, oni := fun j fs q => ?_, oin := fun j k d d' q q' => ?_, frm := fun a w f => ?_, newS := R.newS, newC := R.newC, oldC := R.oldC, n0le := R.n0le, newO := fun j d q => ?_, dom := fun a h => ?_, subS := R.subS }
  · rcases slv q with ⟨_, _, z⟩ | ⟨_, z⟩
    · cases z
    · exact R.sok j w z
  · rcases slv q with ⟨_, _, z⟩ | ⟨_, z⟩
    · cases z
    · exact R.val j w z
  · rcases slv q with ⟨rfl, _, z⟩ | ⟨ne, z⟩
    · cases z; exact ⟨h1, h2, h3, hc⟩
    · obtain ⟨q1, q2, q3, q4⟩ := R.own j d z
      exact ⟨q1, q2, q3, q4.heap fun w hw => by rw [upd_ne fun t => ne (R.oin j i d c z e t)]; exact hw⟩
  · rcases slv q with ⟨_, _, z⟩ | ⟨_, z⟩
    · exact hi fs (Sl.own.inj z).symm
    · exact R.oni j fs z
  · rcases slv q with ⟨rfl, _, _⟩ | ⟨ne, z⟩
    · rcases slv q' with ⟨rfl, _, _⟩ | ⟨ne', z'⟩
      · intro _; rfl
      · exact R.oin j k c d' e z'
    · rcases slv q' with ⟨rfl, _, _⟩ | ⟨ne', z'⟩
      · exact R.oin j k d c z e
      · exact R.oin j k d d' z z'
  · obtain ⟨q1, q2, q3, q4⟩ := R.frm a w f
    have : a ≠ g.ro i := dn a (by rw [f.1]; simp)
    refine ⟨by rw [upd_ne this]; exact q1, q2, q3, fun j d q => ?_⟩
    rcases slv q with ⟨rfl, _, _⟩ | ⟨ne, z⟩
    · exact this.symm
    · exact q4 j d z
  · rcases slv q with ⟨rfl, _, _⟩ | ⟨ne, z⟩
    · exact R.newO j c e
    · exact R.newO j d z
  · rw [upd_ne (dn a h)]; exact R.dom a h
theorem lkd_mem : ∀ {l : List W}, lkd k l = false → W.c k ∉ l
  | [], _, h => by cases h
  | .c j :: r, e, h => by
    simp only [lkd, Bool.or_eq_false_iff] at e
    rcases List.mem_cons.mp h with h | h
    · cases h; simp at e
    · exact lkd_mem e.2 h
  | .f _ :: r, e, h => by
    rcases List.mem_cons.mp h with h | h
    · cases h
    · exact lkd_mem (l := r) e h
  | .o _ :: r, e, h => by
    rcases List.mem_cons.mp h with h | h
    · cases h
    · exact lkd_mem (l := r) e h
  | .x _ :: r, e, h => by
    rcases List.mem_cons.mp h with h | h
    · cases h
    · exact lkd_mem (l := r) e h
  | .u :: r, e, h => by
    rcases List.mem_cons.mp h with h | h
    · cases h
    · exact lkd_mem (l := r) e h
theorem RlH.la_cel (R : RlH K C g s H) (e : s.O[k]? = some c) (hl : lkd k s.lk = false) : ∀ x ∈ g.La, x.1 ≠ g.rc k := fun x hx z => by
  obtain ⟨w, hw, q⟩ := paired_mem R.lkw x hx
  unfold LkW at q
  split at q
  · obtain ⟨q1, _⟩ := q
    rw [z, (R.cel k c e).1] at q1; cases q1
  · rename_i j
    have := R.cin j k q.1 (List.getElem?_eq_some_iff.mp e).1 (q.2.trans z)
    subst this
    exact lkd_mem hl hw
  · exact q
/-- a cell changes -/
theorem Rl.pokeC (R : Rl K G g sl s σ H) (e : s.O[k]? = some c) (hl : lkd k s.lk = false) (hc : CelAt K G.C g s.O.length (upd H (g.rc k) u) (g.rc k) c') : Rl K G g sl { s with O := s.O.set k c' } σ (upd H (g.rc k) u) := by
  obtain ⟨h1, h4⟩ := R.cel k c e
  have lt := (List.getElem?_eq_some_iff.mp e).1
  have la := R.toRlH.la_cel e hl
  have nS : ∀ {a w}, g.S a = some w → a ≠ g.rc k := fun {a w} e z => by rw [z, h1] at e; cases e
  have ln : (s.O.set k c').length = s.O.length := List.length_set
  have hk : ∀ {j : Nat} {d : Ct}, (s.O.set k c')[j]? = some d → (j = k ∧ d = c') ∨ (j ≠ k ∧ s.O[j]? = some d) := fun {j d} q => by
    by_cases z : j = k
    · subst z
      rw [List.getElem?_set_self lt] at q; cases q; exact .inl ⟨rfl, rfl⟩
    · rw [List.getElem?_set_ne (fun t => z t.symm)] at q; exact .inr ⟨z, q⟩
  have hne : ∀ a, H a ≠ none → a = a := fun a _ => rfl
  refine { see := fun a w e => ?_, exa := fun a kvs e hl => by rw [upd_ne (nS e)]; exact R.exa a kvs e hl, cel := fun j d q => ?_, cin := fun j l hj hl => by rw [ln] at hj hl; exact R.cin j l hj hl, lck := fun x hx => by rw [upd_ne (la x hx)]; exact R.lck x hx, lkw := paired_imp R.lkw fun w x z => ?_, lnd := R.lnd, len := R.len, sok := R.sok, exs := R.exs, val := fun j w q => ?_, own := fun j d q => ?_, oni := R.oni, oin := R.oin, frm := fun a w f => ?_, newS := R.newS, newC := fun j a b => R.newC j a (by rw [ln] at b; exact b), oldC := R.oldC, n0le := by rw [ln]; exact R.n0le, newO := R.newO, dom := fun a h => ?_, subS := R.subS }
  · have z := R.see a w e
    have q : upd H (g.rc k) u a = H a := upd_ne (nS e)
    unfold Sees Rd at z ⊢
    rw [q]; exact z
  · rw [ln]
    rcases hk q with ⟨rfl, rfl⟩ | ⟨ne, q⟩
    · exact ⟨h1, hc⟩
    · obtain ⟨q1, q2⟩ := R.cel j d q
      exact ⟨q1, q2.heap fun w hw => by rw [upd_ne fun t => ne (R.cin j k (List.getElem?_eq_some_iff.mp q).1 lt t)]; exact hw⟩
  · rw [ln]; exact z
  · rw [ln]; exact R.val j w q
  · rw [ln]
    obtain ⟨q1, q2, q3, q4⟩ := R.own j d q
    exact ⟨q1, q2, q3, q4.heap fun w hw => by rw [upd_ne fun t => q2 k lt t.symm]; exact hw⟩
  · obtain ⟨q1, q2, q3, q4⟩ := R.frm a w f
    exact ⟨by rw [upd_ne (q3 k lt).symm]; exact q1, q2, fun j hj => q3 j (by rw [ln] at hj; exact hj), q4⟩
  · by_cases z : a = g.rc k
    · subst z; rw [upd_same]; simp
    · rw [upd_ne z]; exact R.dom a h
/-- .. of a value -/
theorem Rl.poke_lst {xs xs' : List F} {vs' : List V} (R : Rl K G g sl s σ H) (r : RepW K g s.O.length w v) (e : pk sl s w = some (.lst xs)) (h : poke w (.lst xs') sl s = some (sl', s')) (r' : Reps K g.S xs' vs') : ∃ a vs, v = .ref a ∧ H a = some (.lst vs) ∧ Reps K g.S xs vs ∧ Rl K G g sl' s' σ (upd H a (.lst vs')) ∧ s'.O.length = s.O.length := by
  obtain ⟨a, vs, rfl, ha, hr⟩ := R.peek r e
  cases w with
  | f y => cases h
  | x y => cases h
  | u => cases h
  | o i =>
    simp only [poke] at h
    split at h
    · rename_i d ed
      cases h
      cases (show V.ref a = .ref (g.ro i) from r)
      exact ⟨_, vs, rfl, ha, hr, R.pokeO ed ⟨vs', r', upd_same⟩ (fun fs z => by cases z), rfl⟩
    · cases h
  | c k =>
    simp only [poke] at h
    split at h
    · rename_i hh
      cases h
      simp only [Bool.and_eq_true, decide_eq_true_eq, Bool.not_eq_true'] at hh
      cases (show V.ref a = .ref (g.rc k) from r.2)
      exact ⟨_, vs, rfl, ha, hr, R.pokeC (List.getElem?_eq_getElem hh.1) hh.2 ⟨vs', r', upd_same⟩, List.length_set⟩
    · cases h
theorem Rl.poke_dct {xs xs' : List (Key × F)} {vs' : List (Key × V)} (R : Rl K G g sl s σ H) (r : RepW K g s.O.length w v) (e : pk sl s w = some (.dct xs)) (h : poke w (.dct xs') sl s = some (sl', s')) (r' : RepK K g.S xs' vs') : ∃ a, v = .ref a ∧ Rl K G g sl' s' σ (upd H a (.dK vs')) ∧ s'.O.length = s.O.length := by
  cases w with
  | f y => cases h
  | x y => cases h
  | u => cases h
  | o i =>
    simp only [poke] at h
    split at h
    · rename_i d ed
      cases h
      exact ⟨_, r, R.pokeO ed ⟨vs', r', .inl upd_same⟩ (fun fs z => by cases z), rfl⟩
    · cases h
  | c k =>
    simp only [poke] at h
    split at h
    · rename_i hh
      cases h
      simp only [Bool.and_eq_true, decide_eq_true_eq, Bool.not_eq_true'] at hh
      exact ⟨_, r.2, R.pokeC (List.getElem?_eq_getElem hh.1) hh.2 ⟨vs', r', .inl upd_same⟩, List.length_set⟩
    · cases h
/-- a dict that may change is not locked -/
theorem Rl.plain_dct {xs : List (Key × F)} {c' : Ct} (R : Rl K G g sl s σ H) (r : RepW K g s.O.length w v) (e : pk sl s w = some (.dct xs)) (h : poke w c' sl s = some (sl', s')) : ∃ a vs, v = .ref a ∧ H a = some (.dK vs) ∧ RepK K g.S xs vs := by
  cases w with
  | f y => cases h
  | x y => cases h
  | u => cases h
  | o i =>
    simp only [pk] at e
    split at e
    · cases e
    · rename_i d ed
      cases e
      obtain ⟨_, _, _, vs, hr, hd | ⟨od, hd⟩⟩ := R.own i _ ed
      · exact ⟨_, vs, r, hd, hr⟩
      · exact absurd rfl (R.la_own ed _ hd)
    · cases e
  | c k =>
    simp only [poke] at h
    split at h
    · rename_i hh
      simp only [Bool.and_eq_true, decide_eq_true_eq, Bool.not_eq_true'] at hh
      simp only [pk] at e
      split at e
      · cases e
      · rename_i d ed
        cases e
        obtain ⟨_, vs, hr, hd | ⟨od, hd⟩⟩ := R.cel k _ ed
        · exact ⟨_, vs, r.2, hd, hr⟩
        · exact absurd rfl (R.toRlH.la_cel ed hh.2 _ hd)
      · cases e
    · cases h
end
/-! ### statements that change an object -/
@[simp] def nxP : Option (List Sl × Sto) → RS
  | some (sl, s) => .nx sl s
  | none => .bad
/-- a value, then more of the statement -/
def sW (m : M) (k : W → MS) : MS := fun sl s => (m sl s).st sl fun y s1 => k (frz y) sl s1
@[simp] def putL (wo wi wv : W) : MS := fun sl s => match wv, wi, pk sl s wo with
  | .f x, .f (.int i), some (.lst xs) => match ixN xs.length i with
    | some j => nxP (poke wo (.lst (xs.set j x)) sl s)
    | none => .bad
  | _, _, _ => .bad
/-- o[i] = v, o a list -/
def sPutL (mo mi mv : M) : MS := fun sl s => (sW mv fun wv => sW mo fun wo => sW mi fun wi => putL wo wi wv) sl s
@[simp] def putD (wo wi wv : W) : MS := fun sl s => match wv, wi, pk sl s wo with
  | .f x, .f y, some (.dct kvs) => match kOf y with
    | some k => if kvs.length < sizeLine then nxP (poke wo (.dct (pK kvs k x)) sl s) else .bad
    | none => .bad
  | _, _, _ => .bad
/-- o[i] = v, o a dict -/
def sPutD (mo mi mv : M) : MS := fun sl s => (sW mv fun wv => sW mo fun wo => sW mi fun wi => putD wo wi wv) sl s
def chkL (w : W) (m : MS) : MS := fun sl s => match pk sl s w with
  | some (.lst _) => m sl s
  | _ => .bad
def chkD (w : W) (m : MS) : MS := fun sl s => match pk sl s w with
  | some (.dct _) => m sl s
  | _ => .bad
@[simp] def appL (wo we : W) : MS := fun sl s => match we, pk sl s wo with
  | .f x, some (.lst xs) => if xs.length < sizeLine then nxP (poke wo (.lst (xs ++ [x])) sl s) else .bad
  | _, _ => .bad
/-- o.append(e) -/
def sAppL (mo me : M) : MS := fun sl s => (sW mo fun wo => chkL wo (sW me fun we => appL wo we)) sl s
@[simp] def popD (wo wk : W) : MS := fun sl s => match wk, pk sl s wo with
  | .f y, some (.dct kvs) => match kOf y with
    | some k => if (vK kvs k).isSome then nxP (poke wo (.dct (dK kvs k)) sl s) else .bad
    | none => .bad
  | _, _ => .bad
/-- o.pop(k) -/
def sPopD (mo mk : M) : MS := fun sl s => (sW mo fun wo => chkD wo (sW mk fun wk => popD wo wk)) sl s
/-- o.clear(), a dict; a list -/
def sClrD (mo : M) : MS := fun sl s => sW mo (fun wo sl s => match pk sl s wo with
  | some (.dct _) => nxP (poke wo (.dct []) sl s)
  | _ => .bad) sl s
def sClrL (mo : M) : MS := fun sl s => sW mo (fun wo sl s => match pk sl s wo with
  | some (.lst _) => nxP (poke wo (.lst []) sl s)
  | _ => .bad) sl s
section
variable {K : PySem.W.Frag} {G : Gc} {g : Gh} {sl : List Sl} {s : Sto} {σ : St} {H : Hp} {D : Ends} {w : W} {v : V}
theorem tD.sw {m : M} {k : W → MS} (R : Rl K G g sl s σ H) (h : OkS K G g s D (sW m k sl s)) {P : VK}
    (hk : ∀ v w g' s' H', LeO g g' s.O.length → s.O.length ≤ s'.O.length → Rl K G g' sl s' σ H' → RepW K g' s'.O.length w v → OkS K G g' s' D (k w sl s') → P v H') : tD K G m σ H P :=
  tD.st R h fun v y g1 s1 H1 l1 n1 R1 r1 h1 => by
    obtain ⟨g2, l2, R2, r2⟩ := R1.freeze r1
    exact hk v (frz y) g2 s1 H1 (l1.trans l2 n1) n1 R2 r2 (OkS.back h1 l2.toLe (Nat.le_refl _))
theorem okS_poke {c : Ct} {P : Hp → Prop} {H' : Hp} (h : OkS K G g s D (nxP (poke w c sl s))) (k : ∀ sl' s', poke w c sl s = some (sl', s') → Rl K G g sl' s' σ H' ∧ s'.O.length = s.O.length) : D.nx σ H' := by
  cases e : poke w c sl s with
  | none => rw [e] at h; exact h.elim
  | some p =>
    obtain ⟨sl', s'⟩ := p
    rw [e] at h
    obtain ⟨R, hl⟩ := k sl' s' e
    exact h g σ H' .rfl (Nat.le_of_eq hl.symm) R
theorem nx_some {c : Ct} (h : OkS K G g s D (nxP (poke w c sl s))) : ∃ sl' s', poke w c sl s = some (sl', s') := by
  cases e : poke w c sl s with
  | none => rw [e] at h; exact h.elim
  | some p => exact ⟨_, _, rfl⟩
end
section
variable {X : Cx} {G : Gc} {o i e : Expr} {mo mi me : M} {pos p2 apos cpos : Pos}
theorem ds_putL (ho : DE X G o mo) (hi : DE X G i mi) (he : DE X G e me)
    (ha : ∀ v, assign (.Subscript o i p2) X.env v = (do
      let ov ← holding [v] (eval o X.env)
      let iv ← holding [v, ov] (eval i X.env)
      standAt p2
      holding [v, ov, iv] (setItem ov iv v)
      release [v, ov, iv] []) := by intro _; rfl)
    (hs : swapsWithSole [.Subscript o i p2] e pos.line X.env = pure false := by rfl) (hw : swappedStores [.Subscript o i p2] e X.env = pure none := by rfl)
    (h1 : (assignEach [.Subscript o i p2] X.env).map (·.2) = [assign (.Subscript o i p2) X.env] := by rfl) : DS X G (.Assign [.Subscript o i p2] e pos) (sPutL mo mi me) :=
  (ps_asg he (pg_sub ho hi set_list ha) hs hw h1).wk fun D σ H ⟨g, sl, s, R, h⟩ => tD.sw R h fun v wv g1 s1 H1 l1 n1 R1 r1 h1 => tD.sw R1 h1 fun ov wo g2 s2 H2 l2 n2 R2 r2 h2 => tD.sw R2 h2 fun iv wi g3 s3 H3 l3 n3 R3 r3 h3 => by
    simp only [putL] at h3
    split at h3
    · rename_i x i xs e1
      split at h3
      · rename_i j ej
        obtain ⟨sl', s', ep⟩ := nx_some h3
        have rv := (r1.le l2 n2).le l3 n3
        have ro := r2.le l3 n3
        obtain ⟨a, vs, rfl, ha, hr⟩ := R3.peek ro e1
        obtain ⟨a', vs', ea, ha', _, R4, hl⟩ := R3.poke_lst ro e1 ep (Reps.set (v := v) rv j hr)
        cases ea
        rw [ha] at ha'; cases ha'
        rw [ep] at h3
        refine ⟨a, vs, i, j, rfl, int_of r3, ha, by rw [← hr.length]; exact ej, ?_⟩
        exact h3 g3 σ _ .rfl (Nat.le_of_eq hl.symm) R4
      · exact h3.elim
    · exact h3.elim
theorem ds_putD (hu : X.A.units + 1 < cLine) (ho : DE X G o mo) (hi : DE X G i mi) (he : DE X G e me) (hs : swapsWith e (some (.Subscript o i p2)) pos.line X.env = pure false := by rfl) : DS X G (.Assign [.Subscript o i p2] e pos) (sPutD mo mi me) :=
  (ps_dput hu ho hi he hs).wk fun D σ H ⟨g, sl, s, R, h⟩ => tD.sw R h fun v wv g1 s1 H1 l1 n1 R1 r1 h1 => tD.sw R1 h1 fun ov wo g2 s2 H2 l2 n2 R2 r2 h2 => tD.sw R2 h2 fun iv wi g3 s3 H3 l3 n3 R3 r3 h3 => by
    simp only [putD] at h3
    split at h3
    · rename_i x y kvs e1
      split at h3
      · rename_i k ek
        split at h3
        · rename_i hz
          obtain ⟨sl', s', ep⟩ := nx_some h3
          have rv : RepW X.K g3 s3.O.length (.f x) v := (r1.le l2 n2).le l3 n3
          have ro := r2.le l3 n3
          obtain ⟨a, vs, rfl, ha, hr⟩ := R3.plain_dct ro e1 ep
          obtain ⟨a', ea, R4, hl⟩ := R3.poke_dct ro e1 ep (RepK.put k rv hr)
          cases ea
          rw [ep] at h3
          have ey := kOf_rep' ek (S := g3.S) (K := X.K) r3
          exact ⟨a, _, rfl, .inl ⟨vs, k, ha, ey, by rw [← hr.length]; exact hz, rfl⟩, h3 g3 σ _ .rfl (Nat.le_of_eq hl.symm) R4⟩
        · exact h3.elim
      · exact h3.elim
    · exact h3.elim
theorem ds_appL (ho : DE X G o mo) (he : DE X G e me) (hbase : attributeBase o "append" X.env (eval o X.env) = eval o X.env := by rfl)
    (hfew : ((backTo cpos (starEach [e] X.env)).all (fun x => !x.1) && (backToKw cpos (keywordEach [] X.env)).all (fun x => x.1.isSome)
      && decide (([e] : List Expr).length + ([] : List Keyword).length + (if ([] : List Keyword).isEmpty then 0 else 1) < 30)) = true := by rfl)
    (hline : (apos.endLine == cpos.line) = true := by rfl) (hs : starEach [e] X.env = (false, eval e X.env) :: starEach [] X.env := by rfl) (hsw : swapsWith (.Call (.Attribute o "append" apos) [e] [] cpos) none pos.line X.env = pure false := by rfl) :
    DS X G (.Expr (.Call (.Attribute o "append" apos) [e] [] cpos) pos) (sAppL mo me) :=
  (ps_expr (pe_bm PySem.F.plainAttrs_list PySem.F.slot_list_append PySem.F.type_list_append mt_append ho (pa_cons he pa_nil hs) hbase hfew hline hs rfl) hsw).wk fun D σ H ⟨g, sl, s, R, h⟩ => tD.sw R h fun v wo g1 s1 H1 l1 n1 R1 r1 h1 => by
    simp only [chkL] at h1
    split at h1
    · rename_i xs0 e0
      obtain ⟨a, vs0, rfl, ha0, _⟩ := R1.peek r1 e0
      refine ⟨.inl ⟨rfl, _, .of ha0⟩, tD.sw R1 h1 fun u we g2 s2 H2 l2 n2 R2 r2 h2 => ?_⟩
      simp only [appL] at h2
      split at h2
      · rename_i x xs e1
        split at h2
        · rename_i hz
          obtain ⟨sl', s', ep⟩ := nx_some h2
          have ro := r1.le l2 n2
          obtain ⟨a', vs, ea, ha, hr⟩ := R2.peek ro e1
          cases ea
          obtain ⟨a', vs', ea, ha', _, R4, hl⟩ := R2.poke_lst ro e1 ep (Reps.append hr (.one r2))
          cases ea
          rw [ep] at h2
          exact ⟨a, vs, u, rfl, rfl, ha, by rw [← hr.length]; exact hz, h2 g2 σ _ .rfl (Nat.le_of_eq hl.symm) R4⟩
        · exact h2.elim
      · exact h2.elim
    · exact h1.elim
theorem ds_popD {k : Expr} {mk : M} (ho : DE X G o mo) (he : DE X G k mk) (m : M1 X o "pop" apos k cpos) (hsw : swapsWith (.Call (.Attribute o "pop" apos) [k] [] cpos) none pos.line X.env = pure false := by rfl) :
    DS X G (.Expr (.Call (.Attribute o "pop" apos) [k] [] cpos) pos) (sPopD mo mk) :=
  (ps_expr (pe_dpop1 ho he m) hsw).wk fun D σ H ⟨g, sl, s, R, h⟩ => tD.sw R h fun v wo g1 s1 H1 l1 n1 R1 r1 h1 => by
    simp only [chkD] at h1
    split at h1
    · rename_i xs0 e0
      obtain ⟨a, vs0, rfl, ha0, _⟩ := R1.peek r1 e0
      refine ⟨a, rfl, .inl ⟨_, ha0⟩, tD.sw R1 h1 fun u wk g2 s2 H2 l2 n2 R2 r2 h2 => ?_⟩
      simp only [popD] at h2
      split at h2
      · rename_i y kvs e1
        split at h2
        · rename_i k ek
          split at h2
          · rename_i hz
            obtain ⟨sl', s', ep⟩ := nx_some h2
            have ro := r1.le l2 n2
            obtain ⟨a', vs, ea, ha, hr⟩ := R2.plain_dct ro e1 ep
            cases ea
            obtain ⟨a', ea, R4, hl⟩ := R2.poke_dct ro e1 ep (RepK.drp k hr)
            cases ea
            rw [ep] at h2
            rw [hr.isS] at hz
            obtain ⟨z, hz⟩ := Option.isSome_iff_exists.mp hz
            exact ⟨vs, k, z, ha, kOf_rep' ek (S := g2.S) (K := X.K) r2, hz, h2 g2 σ _ .rfl (Nat.le_of_eq hl.symm) R4⟩
          · exact h2.elim
        · exact h2.elim
      · exact h2.elim
    · exact h1.elim
theorem ds_clrD (ho : DE X G o mo) (hbase : attributeBase o "clear" X.env (eval o X.env) = eval o X.env := by rfl) (hline : (apos.endLine == cpos.line) = true := by rfl) (hsw : swapsWith (.Call (.Attribute o "clear" apos) [] [] cpos) none pos.line X.env = pure false := by rfl) :
    DS X G (.Expr (.Call (.Attribute o "clear" apos) [] [] cpos) pos) (sClrD mo) :=
  (ps_expr (pe_dclear ho hbase hline) hsw).wk fun D σ H ⟨g, sl, s, R, h⟩ => tD.sw R h fun v wo g1 s1 H1 l1 n1 R1 r1 h1 => by
    split at h1
    · rename_i xs0 e0
      obtain ⟨sl', s', ep⟩ := nx_some h1
      obtain ⟨a, vs, rfl, ha, hr⟩ := R1.plain_dct r1 e0 ep
      obtain ⟨a', ea, R4, hl⟩ := R1.poke_dct r1 e0 ep .nil
      cases ea
      rw [ep] at h1
      exact ⟨.inr (.inr (.inl ⟨rfl, .inl ⟨_, ha⟩⟩)), a, vs, rfl, rfl, ha, h1 g1 σ _ .rfl (Nat.le_of_eq hl.symm) R4⟩
    · exact h1.elim
theorem ds_clrL (ho : DE X G o mo) (hbase : attributeBase o "clear" X.env (eval o X.env) = eval o X.env := by rfl) (hline : (apos.endLine == cpos.line) = true := by rfl) (hsw : swapsWith (.Call (.Attribute o "clear" apos) [] [] cpos) none pos.line X.env = pure false := by rfl) :
    DS X G (.Expr (.Call (.Attribute o "clear" apos) [] [] cpos) pos) (sClrL mo) :=
  (ps_expr (pe_bm0 PySem.F.plainAttrs_list PySem.F.slot_list_clear PySem.F.type_list_clear mt_clear ho hbase hline) hsw).wk fun D σ H ⟨g, sl, s, R, h⟩ => tD.sw R h fun v wo g1 s1 H1 l1 n1 R1 r1 h1 => by
    split at h1
    · rename_i xs0 e0
      obtain ⟨sl', s', ep⟩ := nx_some h1
      obtain ⟨a', vs', rfl, ha', _, R4, hl⟩ := R1.poke_lst r1 e0 ep .nil
      rw [ep] at h1
      exact ⟨.inl ⟨rfl, _, .of ha'⟩, a', vs', rfl, rfl, ha', h1 g1 σ _ .rfl (Nat.le_of_eq hl.symm) R4⟩
    · exact h1.elim
end
end Fm

/-! FO: the derivations' frame; the end. -/
namespace Fm
open PySem L2
section
variable {X : Cx} {G : Gc} {C : Addr} {cls : Str → Addr} {k : Nat} {f : Addr} {ps : List Str} {psi : Psi} {x m : Str} {p pos apos : Pos} {e o : Expr} {es : List Expr} {ma : MA} {mo : M}
theorem xe_call (k : Nat) {k0 : Nat} (r : GOk X C cls G) (D : Dfn X.prog X.w X.K X.mg X.base C cls k f ps psi) (hr : Room k0 X.A) (hk0 : k ≤ k0) (hg : Gl X x) (hm : X.mg x = some (.ref f)) (hk : PySem.W.keepIn X.K (.ref f) = true) (hl : (e :: es).length = ps.length) (ha : DA X G (e :: es) ma)
    (hdb : (x == ("__debug__" : Str)) = false := by decide) (he : starEach (e :: es) X.env = (false, eval e X.env) :: starEach es X.env := by rfl) (hpl : (backTo pos (starEach es X.env)).any (·.1) = false := by rfl) (hla : LA ma ps.length := by repeat (first | exact la_nil | refine la_cons ?_)) : DE X G (.Call (.Name x p) (e :: es) [] pos) (mCall psi ma) := by
  obtain ⟨rfl, rfl, _, tk⟩ := r
  exact de_call D (hr.mono hk0) tk hg hm hk hl ha hdb he hpl hla
theorem xe_call0 (k : Nat) {k0 : Nat} (r : GOk X C cls G) (D : Dfn X.prog X.w X.K X.mg X.base C cls k f ps psi) (hr : Room k0 X.A) (hk0 : k ≤ k0) (hg : Gl X x) (hm : X.mg x = some (.ref f)) (hk : PySem.W.keepIn X.K (.ref f) = true) (hl : 0 = ps.length)
    (hdb : (x == ("__debug__" : Str)) = false := by decide) : DE X G (.Call (.Name x p) [] [] pos) (mCall psi aNil) := by
  obtain ⟨rfl, rfl, _, tk⟩ := r
  exact de_call0 D (hr.mono hk0) tk hg hm hk hl hdb
end
/-- a def's body, read -/
def BodyK (P : Program) (w : World) (K : PySem.W.Frag) (mg : Str → Option Value) (base : Heap) (C : Addr) (cls : Str → Addr) (k : Nat) (f : Addr) (N : List Str) (qual : Str) (st : Stmt) (body : MS) : Prop :=
  ∀ (cdv : Value) (A : Around) (outer : List Env) (s : Shared) (H : Hp) (E : XK) (G : Gc), GOk (cxOf (L2.CX P w) P w K mg base N qual (defScope st) f cdv A outer s H E) C cls G → Room k (A.deeper (PyProof.Rows.envOfC qual (defScope st) s.heap.objs.size f cdv)) →
    PassesOwn (model P w) (A.deeper (PyProof.Rows.envOfC qual (defScope st) s.heap.objs.size f cdv)) (PyProof.Rows.envOfC qual (defScope st) s.heap.objs.size f cdv) (cxOf (L2.CX P w) P w K mg base N qual (defScope st) f cdv A outer s H E).xe →
    DSs (cxOf (L2.CX P w) P w K mg base N qual (defScope st) f cdv A outer s H E) G (defBody st) body
section
variable {P : Program} {w : World} {K : PySem.W.Frag} {mg : Str → Option Value} {base : Heap} {C f : Addr} {cls : Str → Addr} {k : Nat} {x qual : Str} {st : Stmt} {N ps : List Str} {body : MS} {fd : FuncData}
theorem BodyK.ok (B : BodyK P w K mg base C cls k f N qual st body) : BodyOk P w K mg base C cls k f N qual st body := fun cdv A outer s H E G h1 h2 h3 hr tk hp => B cdv A outer s H E G ⟨h1, h2, h3, tk⟩ hr hp
theorem fnA (F : Fun K x qual st f fd) (S : FnScope N ps (defScope st)) (B : BodyK P w K mg base C cls k f N qual st body) : FnOk P w K mg base (L2.CX P w) (k + 1) f fd ps (spD K C cls ps.length (runA N.length body)) := fn_okA0 F S B.ok
theorem dfnA (F : Fun K x qual st f fd) (S : FnScope N ps (defScope st)) (hb : Binds K fd ps []) (B : BodyK P w K mg base C cls k f N qual st body) : Dfn P w K mg base C cls (k + 1) f ps (runA N.length body) := fn_okA F S hb B.ok
theorem dfnB (F : Fun K x qual st f fd) (S : FnScope N ps (defScope st)) (hb : Binds K fd ps []) (B : BodyK P w K mg base C cls k f N qual st body) : Dfn P w K mg base C cls (k + 1) f ps (runB N.length body) := fn_okB F S hb B.ok
end
/-- the script at the start -/
theorem law_start {K : PySem.W.Frag} {C : Addr} {cls : Str → Addr} {psi : Psi} {H : Hp} {a : Addr} {ns : List Int} {s' : Sto} (hS : SqL K H a (ns.map V.int)) (h : psi [.f (.scr ns)] ⟨[], []⟩ = .ok (.w (.f (.bl true))) s') :
    spD K C cls 1 psi [.ref a] H (fun v _ => v = .bl true) fun _ _ _ => False := by
  have go : ∀ S : Hp, Lk S H → (∀ b kvs, S b ≠ some (.dK kvs)) → SqL K S a (ns.map V.int) → spD K C cls 1 psi [.ref a] H (fun v _ => v = .bl true) fun _ _ _ => False := fun S lk nd sq => by
    refine ⟨⟨S, fun _ => 0, fun _ => 0, []⟩, ⟨[], []⟩, [.f (.scr ns)], rfl, ⟨lk, fun b kvs e => absurd e (nd b kvs), fun k c e => (by simp at e), fun j k hj => (by cases hj), fun x hx => (by cases hx), .nil, .nil⟩, .cons ?_ .nil, rfl, ?_⟩
    · show Rep K S (.scr ns) (.ref a)
      simp only [Rep]
      exact ⟨a, rfl, sq⟩
    · rw [h]
      intro v g' H' _ r
      have r : Rep K g'.S (.bl true) v := r
      simp only [Rep] at r
      exact r
  have one : ∀ u, H a = some u → Sees H a u → Lk (fun b => if b = a then some u else none) H := fun u hu z b w e => by
    by_cases q : b = a
    · subst q
      have e : (if b = b then some u else none) = some w := e
      rw [if_pos rfl] at e; cases e; exact z
    · have e : (if b = a then some u else none) = some w := e
      rw [if_neg q] at e; cases e
  rcases hS with (hS | ⟨o, hS⟩) | hS
  · exact go _ (one _ hS hS) (fun b kvs e => by have e : (if b = a then _ else _) = _ := e; split at e <;> cases e) (.inl (.inl (if_pos rfl)))
  · exact go _ (one _ hS hS) (fun b kvs e => by have e : (if b = a then _ else _) = _ := e; split at e <;> cases e) (.inl (.inr ⟨o, if_pos rfl⟩))
  · exact go (fun _ => none) (fun b u e => by cases e) (fun b kvs e => by cases e) (.inr hS)
/-- no error comes out of law -/
theorem cx_no {P : Program} {w : World} {H : Hp} {s : Shared} {e : Value} {s' : Shared} (h : L2.CX P w [] H s (fun _ _ _ => False) e s') : False := by
  obtain ⟨_, _, _, _, _, _, _, _, _, _, _, _, z⟩ := h
  exact z
theorem walk_law {l : PySem.W.OpenLaw} {q : Program} {loose : List Str} {XP : (Str → Option Value) → Heap → Prop} {YP : World → Heap → Prop} {d : DefRec} {K : Params → PySem.W.Frag} {psi : Psi} {x : Str} {k : Nat} (hk : Room k callerA) (hn : l.most = some 63) (hdf : d.params.defaults = [])
    (hY : ∀ (w : World) (h : Heap), YP w h → (K w.params).In h) (hlaw : ∀ ns : List Int, ns.length ≤ 63 → ∃ s', psi [.f (.scr ns)] ⟨[], []⟩ = .ok (.w (.f (.bl true))) s')
    (F : ∀ (w : World) (mg : Str → Option Value) (fa : Addr) (h : Heap), (K w.params).In h → h.Ns mainGlobals mg → mg d.name = some (.ref fa) →
      ∃ (C : Addr) (cls : Str → Addr) (fd : FuncData), (∀ (s : Shared) (u : Value), BindsTo s fd ⟨[u], []⟩ [(x, u)]) ∧ ∀ base : Heap, (K w.params).In base → base.Ns mainGlobals mg → FnOk l.prog w (K w.params) mg base (L2.CX l.prog w) k fa fd [x] (spD (K w.params) C cls 1 psi)) :
    PySem.W.WalkO q loose XP YP l.row.toRowW d [] (fun f vs => PySem.call f vs) :=
  L2.walk_of (n := 63) (k := k) (x := x) (CX := fun w => L2.CX l.prog w) (sp := fun w vs H Q E => ∀ (C : Addr) (cls : Str → Addr), spD (K w.params) C cls 1 psi vs H Q E) hn (by decide) hdf hk hY (fun w mg fa h h1 h2 h3 => by
    obtain ⟨C, cls, fd, hb, hf⟩ := F w mg fa h h1 h2 h3
    exact ⟨fd, hb, fun base b1 b2 => (hf base b1 b2).imp fun vs H Q E h => h C cls⟩) (fun _ _ a ns hl _ hS C cls => let ⟨_, h⟩ := hlaw ns hl; law_start hS h) fun _ _ _ _ _ z => cx_no z
end Fm

/-! FP: y = [.. for ..]. -/
namespace Fm
open PySem L2
section
variable {X : Cx} {G : Gc} {C : Addr} {cls : Str → Addr} {x y : Str} {py : Pos} {elt tg iter : Expr} {ifs : List Expr} {scope : Scope} {pos spos : Pos} {it : MI} {mt me : M}
theorem ds_lcAny {ms : MS} (j i : Nat) (r : GOk X C cls G) (hc : X.calm = true) (hN : X.N.Nodup) (hy : X.N[j]? = some y) (hyl : X.env.scope.names.lookup y = some .local)
    (hsw : swapsWith (.ListComp elt [⟨tg, iter, ifs, 0⟩] scope pos) (some (.Name y py)) spos.line X.env = pure true) (hi : DI X G tg iter it) (ok : BlkOk X.N X.env.scope scope [(x, i)])
    (hg : ∀ (s : Shared) (H : Hp) (Ca : Addr) (cl : List (Str × Addr)) (fp : List Addr), PG (X.blk s H scope (compEnvC scope cl Ca X.env) fp) tg (gName i))
    (ht : ∀ (s : Shared) (H : Hp) (Ca : Addr) (cl : List (Str × Addr)) (fp : List Addr), DTs (X.blk s H scope (compEnvC scope cl Ca X.env) fp) C cls ifs mt)
    (he : ∀ (s : Shared) (H : Hp) (Ca : Addr) (cl : List (Str × Addr)) (fp : List Addr) (G : Gc), GOk (X.blk s H scope (compEnvC scope cl Ca X.env) fp) C cls G → DE (X.blk s H scope (compEnvC scope cl Ca X.env) fp) G elt me)
    (hs : ∀ x, foldedSetIterable iter X.env x = pure x)
    (k : ∀ D σ H, tDS X.K G ms D σ H → tD X.K G (mLc i it mt me) σ H fun v H1 => gName j v σ H1 D.nx) : DS X G (.Assign [.Name y py] (.ListComp elt [⟨tg, iter, ifs, 0⟩] scope pos) spos) ms :=
  (ps_setLc (own := [(x, i)]) (tt := tT0 X.K C cls mt) (te := tE0 X.K C cls me) hc hN hy hyl hsw hi ok hg ht (fun s H Ca cl fp => pe_tE0 (he s H Ca cl fp)) hs).wk fun D σ H h => lc_go (tg := tg) (iter := iter) r (k D σ H h)
theorem ds_setLc (j i : Nat) (r : GOk X C cls G) (hc : X.calm = true) (hN : X.N.Nodup) (hy : X.N[j]? = some y) (hyl : X.env.scope.names.lookup y = some .local)
    (hsw : swapsWith (.ListComp elt [⟨tg, iter, ifs, 0⟩] scope pos) (some (.Name y py)) spos.line X.env = pure true) (hi : DI X G tg iter it) (ok : BlkOk X.N X.env.scope scope [(x, i)])
    (hg : ∀ (s : Shared) (H : Hp) (Ca : Addr) (cl : List (Str × Addr)) (fp : List Addr), PG (X.blk s H scope (compEnvC scope cl Ca X.env) fp) tg (gName i))
    (ht : ∀ (s : Shared) (H : Hp) (Ca : Addr) (cl : List (Str × Addr)) (fp : List Addr), DTs (X.blk s H scope (compEnvC scope cl Ca X.env) fp) C cls ifs mt)
    (he : ∀ (s : Shared) (H : Hp) (Ca : Addr) (cl : List (Str × Addr)) (fp : List Addr) (G : Gc), GOk (X.blk s H scope (compEnvC scope cl Ca X.env) fp) C cls G → DE (X.blk s H scope (compEnvC scope cl Ca X.env) fp) G elt me)
    (hs : ∀ x, foldedSetIterable iter X.env x = pure x := by intro _; rfl) : DS X G (.Assign [.Name y py] (.ListComp elt [⟨tg, iter, ifs, 0⟩] scope pos) spos) (sSet j (mLc i it mt me)) :=
  ds_lcAny j i r hc hN hy hyl hsw hi ok hg ht he hs fun D σ H ⟨g, sl, s, R, h⟩ => tD.st R h fun v y g1 s1 H1 l1 n1 R1 r1 h1 => by
    obtain ⟨g2, l2, R2, r2⟩ := R1.freeze r1
    split at h1
    · rename_i hw
      exact h1 g2 _ H1 l2.toLe (Nat.le_refl _) (R2.setV r2 hw (Gc.fr_of r.xs))
    · exact h1.elim
theorem ds_ownLc (j i : Nat) (r : GOk X C cls G) (hc : X.calm = true) (hN : X.N.Nodup) (hy : X.N[j]? = some y) (hyl : X.env.scope.names.lookup y = some .local)
    (hsw : swapsWith (.ListComp elt [⟨tg, iter, ifs, 0⟩] scope pos) (some (.Name y py)) spos.line X.env = pure true) (hi : DI X G tg iter it) (ok : BlkOk X.N X.env.scope scope [(x, i)])
    (hg : ∀ (s : Shared) (H : Hp) (Ca : Addr) (cl : List (Str × Addr)) (fp : List Addr), PG (X.blk s H scope (compEnvC scope cl Ca X.env) fp) tg (gName i))
    (ht : ∀ (s : Shared) (H : Hp) (Ca : Addr) (cl : List (Str × Addr)) (fp : List Addr), DTs (X.blk s H scope (compEnvC scope cl Ca X.env) fp) C cls ifs mt)
    (he : ∀ (s : Shared) (H : Hp) (Ca : Addr) (cl : List (Str × Addr)) (fp : List Addr) (G : Gc), GOk (X.blk s H scope (compEnvC scope cl Ca X.env) fp) C cls G → DE (X.blk s H scope (compEnvC scope cl Ca X.env) fp) G elt me)
    (hs : ∀ x, foldedSetIterable iter X.env x = pure x := by intro _; rfl) : DS X G (.Assign [.Name y py] (.ListComp elt [⟨tg, iter, ifs, 0⟩] scope pos) spos) (sOwn j (mLc i it mt me)) :=
  ds_lcAny j i r hc hN hy hyl hsw hi ok hg ht he hs fun D σ H ⟨g, sl, s, R, h⟩ => tD.st R h fun v y g1 s1 H1 l1 n1 R1 r1 h1 => by
    split at h1
    · obtain ⟨p, rfl, f⟩ := r1
      exact h1 { g1 with ro := fun k => if k = j then p else g1.ro k } _ H1 ⟨Sub.rfl, fun _ _ => rfl, rfl⟩ (Nat.le_refl _) (R1.setO f (Gc.fr_of r.xs))
    · exact h1.elim
theorem ds_celLc (j i : Nat) (r : GOk X C cls G) (hc : X.calm = true) (hN : X.N.Nodup) (hy : X.N[j]? = some y) (hyl : X.env.scope.names.lookup y = some .local)
    (hsw : swapsWith (.ListComp elt [⟨tg, iter, ifs, 0⟩] scope pos) (some (.Name y py)) spos.line X.env = pure true) (hi : DI X G tg iter it) (ok : BlkOk X.N X.env.scope scope [(x, i)])
    (hg : ∀ (s : Shared) (H : Hp) (Ca : Addr) (cl : List (Str × Addr)) (fp : List Addr), PG (X.blk s H scope (compEnvC scope cl Ca X.env) fp) tg (gName i))
    (ht : ∀ (s : Shared) (H : Hp) (Ca : Addr) (cl : List (Str × Addr)) (fp : List Addr), DTs (X.blk s H scope (compEnvC scope cl Ca X.env) fp) C cls ifs mt)
    (he : ∀ (s : Shared) (H : Hp) (Ca : Addr) (cl : List (Str × Addr)) (fp : List Addr) (G : Gc), GOk (X.blk s H scope (compEnvC scope cl Ca X.env) fp) C cls G → DE (X.blk s H scope (compEnvC scope cl Ca X.env) fp) G elt me)
    (hs : ∀ x, foldedSetIterable iter X.env x = pure x := by intro _; rfl) : DS X G (.Assign [.Name y py] (.ListComp elt [⟨tg, iter, ifs, 0⟩] scope pos) spos) (sCel j (mLc i it mt me)) :=
  ds_lcAny j i r hc hN hy hyl hsw hi ok hg ht he hs fun D σ H ⟨g, sl, s, R, h⟩ => tD.st R h fun v y g1 s1 H1 l1 n1 R1 r1 h1 => by
    split at h1
    · obtain ⟨p, rfl, f⟩ := r1
      obtain ⟨R2, l2⟩ := R1.push f
      refine h1 _ _ H1 l2.toLe (by simp) (R2.setV (w := .c s1.O.length) ⟨by simp, ?_⟩ rfl (Gc.fr_of r.xs))
      show V.ref p = .ref (if s1.O.length = s1.O.length then p else g1.rc s1.O.length)
      rw [if_pos rfl]
    · exact h1.elim
end
/-- what is never reached -/
def sBad : MS := fun _ _ => .bad
theorem ds_bad {X : Cx} {G : Gc} {st : Stmt} : DS X G st sBad := ⟨fun pins s σ H D I ⟨g, sl, s0, R, h⟩ => h.elim⟩
end Fm

/-! FQ: plain facts of the interpreter. -/
namespace Fm
open PySem L2
theorem runA_rt {N : Nat} {body : MS} {ws : List W} {s : Sto} {x : F} (hs : insOk s) (h : body (slots N ws) s = .rt (.w (.f x)) s) : runA N body ws s = .ok (.w (.f x)) s := by
  unfold runA
  rw [h]
  simp [bOk_self hs, back_self]
theorem runA_fr {N : Nat} {body : MS} {ws : List W} {s : Sto} {c : Ct} (hs : insOk s) (h : body (slots N ws) s = .rt (.fr c) s) (hp : c.ptrs = [] := by rfl) : runA N body ws s = .ok (.fr c) s := by
  unfold runA
  rw [h]
  simp [bOk_self hs, back_self, hp]
theorem runA_exc {N : Nat} {body : MS} {ws : List W} {s : Sto} {c : Str} {sl : List Sl} (hs : insOk s) (h : body (slots N ws) s = .exc c sl s) : runA N body ws s = .exc c s := by
  unfold runA
  rw [h]
  simp [bOk_self hs, back_self]
theorem runA_nx {N : Nat} {body : MS} {ws : List W} {s : Sto} {sl : List Sl} (hs : insOk s) (h : body (slots N ws) s = .nx sl s) : runA N body ws s = .ok (.w (.f .non)) s := by
  unfold runA
  rw [h]
  simp [bOk_self hs, back_self]
theorem insOk0 {l : List W} : insOk ⟨[], l⟩ := fun k fs h => by simp at h
/-- a loop whose turns all go through -/
theorem loopF_all {i : Nat} {body : MS} {s : Sto} {P : List Sl → Prop} : ∀ (xs : List F) (sl : List Sl), P sl → (∀ x ∈ xs, ∀ sl, P sl → ∃ sl', body (sl.set i (.v (.f x))) s = .nx sl' s ∧ P sl') → ∃ sl', loopF i body xs sl s = .nx sl' s ∧ P sl'
  | [], sl, hp, _ => ⟨sl, rfl, hp⟩
  | x :: xs, sl, hp, h => by
    obtain ⟨sl1, e, h1⟩ := h x List.mem_cons_self sl hp
    obtain ⟨sl2, e2, h2⟩ := loopF_all xs sl1 h1 fun y hy => h y (List.mem_cons_of_mem _ hy)
    exact ⟨sl2, by unfold loopF; rw [e]; exact e2, h2⟩
/-- a loop that tests: through, or out at the first that fails -/
theorem loopF_test {i : Nat} {body : MS} {s : Sto} {P : List Sl → Prop} {p : F → Bool} {y : Y} : ∀ (xs : List F) (sl : List Sl), P sl → (∀ x ∈ xs, ∀ sl, P sl → if p x = true then ∃ sl', body (sl.set i (.v (.f x))) s = .nx sl' s ∧ P sl' else body (sl.set i (.v (.f x))) s = .rt y s) →
    (xs.all p = true ∧ ∃ sl', loopF i body xs sl s = .nx sl' s ∧ P sl') ∨ (xs.all p = false ∧ loopF i body xs sl s = .rt y s)
  | [], sl, hp, _ => .inl ⟨rfl, sl, rfl, hp⟩
  | x :: xs, sl, hp, h => by
    have h0 := h x List.mem_cons_self sl hp
    cases hx : p x with
    | true =>
      rw [if_pos hx] at h0
      obtain ⟨sl1, e, h1⟩ := h0
      rcases loopF_test xs sl1 h1 fun y hy => h y (List.mem_cons_of_mem _ hy) with ⟨q1, sl2, e2, h2⟩ | ⟨q1, e2⟩
      · exact .inl ⟨by rw [List.all_cons, hx, q1]; rfl, sl2, by unfold loopF; rw [e]; exact e2, h2⟩
      · exact .inr ⟨by rw [List.all_cons, hx, q1]; rfl, by unfold loopF; rw [e]; exact e2⟩
    | false =>
      rw [if_neg (by rw [hx]; exact Bool.false_ne_true)] at h0
      exact .inr ⟨by rw [List.all_cons, hx]; rfl, by unfold loopF; rw [h0]⟩
/-- a comprehension of values -/
theorem compF_pure {i : Nat} {t e : M} {s : Sto} {sl : List Sl} {p : F → Bool} {f : F → F} : ∀ (xs : List F), (∀ x ∈ xs, t (sl.set i (.v (.f x))) s = .ok (.w (.f (.bl (p x)))) s) → (∀ x ∈ xs, p x = true → ∃ y, e (sl.set i (.v (.f x))) s = .ok y s ∧ frz y = .f (f x)) →
    compF i t e xs sl s = .ok ((xs.filter p).map f) s
  | [], _, _ => rfl
  | x :: xs, ht, he => by
    have ih := compF_pure xs (fun y hy => ht y (List.mem_cons_of_mem _ hy)) (fun y hy => he y (List.mem_cons_of_mem _ hy))
    unfold compF
    rw [ht x List.mem_cons_self]
    cases hx : p x with
    | true =>
      obtain ⟨y, e1, e2⟩ := he x List.mem_cons_self hx
      simp only [Fm.R.bind_ok, e1, e2, ih, List.filter_cons, hx, if_true, List.map_cons]
    | false => simp [ih, hx]
theorem compF_map {i : Nat} {e : M} {s : Sto} {sl : List Sl} {f : F → F} (xs : List F) (he : ∀ x ∈ xs, ∃ y, e (sl.set i (.v (.f x))) s = .ok y s ∧ frz y = .f (f x)) : compF i (mC (.bl true)) e xs sl s = .ok (xs.map f) s := by
  have := compF_pure (t := mC (.bl true)) (p := fun _ => true) (f := f) (e := e) (s := s) (sl := sl) (i := i) xs (fun x _ => rfl) (fun x hx _ => he x hx)
  rw [this, List.filter_eq_self.mpr fun _ _ => rfl]
theorem rgF_mem {a : Int} {n : Nat} {x : F} (h : x ∈ rgF a 1 n) : ∃ k : Nat, k < n ∧ x = .int (a + k) := by
  unfold rgF at h
  obtain ⟨k, hk, e⟩ := List.mem_map.mp h
  exact ⟨k, List.mem_range.mp hk, by rw [← e, Int.mul_one]⟩
@[simp] theorem strBeq (a b : Str) : (a == b) = decide (a = b) := by
  rw [Bool.eq_iff_iff]; simp
@[simp] theorem intBeq (a b : Int) : (a == b) = decide (a = b) := by
  rw [Bool.eq_iff_iff]; simp
@[simp] theorem eqT_int (i j : Int) : eqT (.int i) (.int j) = some (i == j) := rfl
@[simp] theorem eqT_str (i j : Str) : eqT (.str i) (.str j) = some (i == j) := rfl
@[simp] theorem eqT_bl (i j : Bool) : eqT (.bl i) (.bl j) = some (i == j) := rfl
@[simp] theorem eqT_nil (xs : List F) : eqT (.lst xs) (.lst []) = some xs.isEmpty := by
  cases xs <;> simp [eqT, eqN, allO]
/-- s[i], a sign -/
theorem atI_nat {α : Type} {xs : List α} {k : Nat} (h : k < xs.length) : L2.atI xs (k : Int) = some xs[k] := by
  unfold L2.atI L2.ixN
  simp [h]
theorem atI_in {α : Type} {xs : List α} {i : Int} (h0 : 0 ≤ i) (h : i.toNat < xs.length) : ∃ x, L2.atI xs i = some x ∧ x ∈ xs := by
  obtain ⟨k, rfl⟩ := Int.eq_ofNat_of_zero_le h0
  simp only [Int.toNat_natCast] at h
  exact ⟨_, atI_nat h, List.getElem_mem h⟩
/-- one sign -/
@[simp] def sg (c : Nat) : Str := ⟨#[c]⟩
theorem glued_sg (l : List Nat) : ∀ acc : Array Nat, ((l.map sg).foldl (fun acc p => acc ++ (Str.ofString "").cps ++ p.cps) acc) = acc ++ l.toArray := by
  have z : (Str.ofString "").cps = #[] := by decide
  induction l with
  | nil => intro acc; simp
  | cons c l ih =>
    intro acc
    rw [List.map_cons, List.foldl_cons, ih, z]
    obtain ⟨a⟩ := acc
    simp
theorem join_sg (l : List Nat) : Txt.join (Str.ofString "") (l.map sg) = ⟨l.toArray⟩ := by
  show Builtin.Str.glued _ _ = _
  unfold Builtin.Str.glued
  cases l with
  | nil => rfl
  | cons c l =>
    rw [List.map_cons, List.drop_one, List.tail_cons, glued_sg]
    simp
theorem strsF_map (ys : List Str) : strsF (ys.map F.str) = some ys := by
  induction ys with
  | nil => rfl
  | cons y ys ih => rw [List.map_cons]; unfold strsF; rw [ih]
/-- ''.join of signs -/
theorem joinA_sg (l : List Nat) (h : l.length ≤ 16777216) : joinA (Str.ofString "") (.lst (l.map fun c => F.str ⟨#[c]⟩)) = .val (.str ⟨l.toArray⟩) := by
  have e : (l.map fun c => F.str ⟨#[c]⟩) = (l.map sg).map F.str := by rw [List.map_map]; rfl
  have z : (Str.ofString "").length = 0 := by decide
  have sm : ∀ l : List Nat, ((l.map sg).map (·.length)).sum = l.length := fun l => by
    induction l with
    | nil => rfl
    | cons c l ih =>
      rw [List.map_cons, List.map_cons, List.sum_cons, ih]
      show 1 + l.length = _
      rw [List.length_cons]; omega
  rw [e]
  simp only [joinA, strsF_map, sm, z, Nat.mul_zero, Nat.add_zero, if_pos h, join_sg]
theorem fmod_lt' (i : Int) {n : Int} (h : 0 < n) : 0 ≤ i.fmod n ∧ i.fmod n < n := ⟨Int.fmod_nonneg_of_pos i h, Int.fmod_lt_of_pos i h⟩
theorem mLc_eq {i : Nat} {it : MI} {t e : M} {sl : List Sl} {s s1 s2 : Sto} {xs zs : List F} (no : slNoOwn sl[i]? = true) (hi : it sl s = .ok xs s1) (hc : compF i t e xs (sl.set i .no) s1 = .ok zs s2) (hl : zs.length ≤ sizeLine) : mLc i it t e sl s = .ok (.fr (.lst zs)) s2 := by
  unfold mLc
  rw [if_pos no, hi]
  show (match compF i t e xs (sl.set i .no) s1 with | .ok zs s2 => _ | _ => _) = _
  rw [hc]
  exact if_pos hl
@[simp] theorem at0 {α : Type} {x : α} {xs : List α} : L2.atI (x :: xs) 0 = some x := by
  simp [L2.atI, L2.ixN]
@[simp] theorem at1 {α : Type} {x y : α} {xs : List α} : L2.atI (x :: y :: xs) 1 = some y := by
  have : (1 : Int) < xs.length + 1 + 1 := by omega
  simp [L2.atI, L2.ixN, this]
@[simp] theorem at2 {α : Type} {x y z : α} {xs : List α} : L2.atI (x :: y :: z :: xs) 2 = some z := by
  have : (2 : Int) < xs.length + 1 + 1 + 1 := by omega
  simp [L2.atI, L2.ixN, this]
@[simp] theorem at3 {α : Type} {x y z u : α} {xs : List α} : L2.atI (x :: y :: z :: u :: xs) 3 = some u := by
  have : (3 : Int) < xs.length + 1 + 1 + 1 + 1 := by omega
  simp [L2.atI, L2.ixN, this]
@[simp] theorem at4 {α : Type} {x y z u v : α} {xs : List α} : L2.atI (x :: y :: z :: u :: v :: xs) 4 = some v := by
  have : (4 : Int) < xs.length + 1 + 1 + 1 + 1 + 1 := by omega
  simp [L2.atI, L2.ixN, this]
theorem ne_0_1 : ¬ Str.ofString "drop" = Str.ofString "turn" := by decide +kernel
@[simp] theorem nf_0_1 : (Str.ofString "drop" = Str.ofString "turn") = False := eq_false ne_0_1
theorem ne_0_2 : ¬ Str.ofString "drop" = Str.ofString "add" := by decide +kernel
@[simp] theorem nf_0_2 : (Str.ofString "drop" = Str.ofString "add") = False := eq_false ne_0_2
theorem ne_0_3 : ¬ Str.ofString "drop" = Str.ofString "shift" := by decide +kernel
@[simp] theorem nf_0_3 : (Str.ofString "drop" = Str.ofString "shift") = False := eq_false ne_0_3
theorem ne_0_4 : ¬ Str.ofString "drop" = Str.ofString "name" := by decide +kernel
@[simp] theorem nf_0_4 : (Str.ofString "drop" = Str.ofString "name") = False := eq_false ne_0_4
theorem ne_0_5 : ¬ Str.ofString "drop" = Str.ofString "part" := by decide +kernel
@[simp] theorem nf_0_5 : (Str.ofString "drop" = Str.ofString "part") = False := eq_false ne_0_5
theorem ne_0_6 : ¬ Str.ofString "drop" = Str.ofString "join" := by decide +kernel
@[simp] theorem nf_0_6 : (Str.ofString "drop" = Str.ofString "join") = False := eq_false ne_0_6
theorem ne_0_7 : ¬ Str.ofString "drop" = Str.ofString "n" := by decide +kernel
@[simp] theorem nf_0_7 : (Str.ofString "drop" = Str.ofString "n") = False := eq_false ne_0_7
theorem ne_0_8 : ¬ Str.ofString "drop" = Str.ofString "ni" := by decide +kernel
@[simp] theorem nf_0_8 : (Str.ofString "drop" = Str.ofString "ni") = False := eq_false ne_0_8
theorem ne_0_9 : ¬ Str.ofString "drop" = Str.ofString "nn" := by decide +kernel
@[simp] theorem nf_0_9 : (Str.ofString "drop" = Str.ofString "nn") = False := eq_false ne_0_9
theorem ne_0_10 : ¬ Str.ofString "drop" = Str.ofString "nnns" := by decide +kernel
@[simp] theorem nf_0_10 : (Str.ofString "drop" = Str.ofString "nnns") = False := eq_false ne_0_10
theorem ne_0_11 : ¬ Str.ofString "drop" = Str.ofString "i" := by decide +kernel
@[simp] theorem nf_0_11 : (Str.ofString "drop" = Str.ofString "i") = False := eq_false ne_0_11
theorem ne_0_12 : ¬ Str.ofString "drop" = Str.ofString "s" := by decide +kernel
@[simp] theorem nf_0_12 : (Str.ofString "drop" = Str.ofString "s") = False := eq_false ne_0_12
theorem ne_0_13 : ¬ Str.ofString "drop" = Str.ofString "" := by decide +kernel
@[simp] theorem nf_0_13 : (Str.ofString "drop" = Str.ofString "") = False := eq_false ne_0_13
theorem ne_1_0 : ¬ Str.ofString "turn" = Str.ofString "drop" := by decide +kernel
@[simp] theorem nf_1_0 : (Str.ofString "turn" = Str.ofString "drop") = False := eq_false ne_1_0
theorem ne_1_2 : ¬ Str.ofString "turn" = Str.ofString "add" := by decide +kernel
@[simp] theorem nf_1_2 : (Str.ofString "turn" = Str.ofString "add") = False := eq_false ne_1_2
theorem ne_1_3 : ¬ Str.ofString "turn" = Str.ofString "shift" := by decide +kernel
@[simp] theorem nf_1_3 : (Str.ofString "turn" = Str.ofString "shift") = False := eq_false ne_1_3
theorem ne_1_4 : ¬ Str.ofString "turn" = Str.ofString "name" := by decide +kernel
@[simp] theorem nf_1_4 : (Str.ofString "turn" = Str.ofString "name") = False := eq_false ne_1_4
theorem ne_1_5 : ¬ Str.ofString "turn" = Str.ofString "part" := by decide +kernel
@[simp] theorem nf_1_5 : (Str.ofString "turn" = Str.ofString "part") = False := eq_false ne_1_5
theorem ne_1_6 : ¬ Str.ofString "turn" = Str.ofString "join" := by decide +kernel
@[simp] theorem nf_1_6 : (Str.ofString "turn" = Str.ofString "join") = False := eq_false ne_1_6
theorem ne_1_7 : ¬ Str.ofString "turn" = Str.ofString "n" := by decide +kernel
@[simp] theorem nf_1_7 : (Str.ofString "turn" = Str.ofString "n") = False := eq_false ne_1_7
theorem ne_1_8 : ¬ Str.ofString "turn" = Str.ofString "ni" := by decide +kernel
@[simp] theorem nf_1_8 : (Str.ofString "turn" = Str.ofString "ni") = False := eq_false ne_1_8
theorem ne_1_9 : ¬ Str.ofString "turn" = Str.ofString "nn" := by decide +kernel
@[simp] theorem nf_1_9 : (Str.ofString "turn" = Str.ofString "nn") = False := eq_false ne_1_9
theorem ne_1_10 : ¬ Str.ofString "turn" = Str.ofString "nnns" := by decide +kernel
@[simp] theorem nf_1_10 : (Str.ofString "turn" = Str.ofString "nnns") = False := eq_false ne_1_10
theorem ne_1_11 : ¬ Str.ofString "turn" = Str.ofString "i" := by decide +kernel
@[simp] theorem nf_1_11 : (Str.ofString "turn" = Str.ofString "i") = False := eq_false ne_1_11
theorem ne_1_12 : ¬ Str.ofString "turn" = Str.ofString "s" := by decide +kernel
@[simp] theorem nf_1_12 : (Str.ofString "turn" = Str.ofString "s") = False := eq_false ne_1_12
theorem ne_1_13 : ¬ Str.ofString "turn" = Str.ofString "" := by decide +kernel
@[simp] theorem nf_1_13 : (Str.ofString "turn" = Str.ofString "") = False := eq_false ne_1_13
theorem ne_2_0 : ¬ Str.ofString "add" = Str.ofString "drop" := by decide +kernel
@[simp] theorem nf_2_0 : (Str.ofString "add" = Str.ofString "drop") = False := eq_false ne_2_0
theorem ne_2_1 : ¬ Str.ofString "add" = Str.ofString "turn" := by decide +kernel
@[simp] theorem nf_2_1 : (Str.ofString "add" = Str.ofString "turn") = False := eq_false ne_2_1
theorem ne_2_3 : ¬ Str.ofString "add" = Str.ofString "shift" := by decide +kernel
@[simp] theorem nf_2_3 : (Str.ofString "add" = Str.ofString "shift") = False := eq_false ne_2_3
theorem ne_2_4 : ¬ Str.ofString "add" = Str.ofString "name" := by decide +kernel
@[simp] theorem nf_2_4 : (Str.ofString "add" = Str.ofString "name") = False := eq_false ne_2_4
theorem ne_2_5 : ¬ Str.ofString "add" = Str.ofString "part" := by decide +kernel
@[simp] theorem nf_2_5 : (Str.ofString "add" = Str.ofString "part") = False := eq_false ne_2_5
theorem ne_2_6 : ¬ Str.ofString "add" = Str.ofString "join" := by decide +kernel
@[simp] theorem nf_2_6 : (Str.ofString "add" = Str.ofString "join") = False := eq_false ne_2_6
theorem ne_2_7 : ¬ Str.ofString "add" = Str.ofString "n" := by decide +kernel
@[simp] theorem nf_2_7 : (Str.ofString "add" = Str.ofString "n") = False := eq_false ne_2_7
theorem ne_2_8 : ¬ Str.ofString "add" = Str.ofString "ni" := by decide +kernel
@[simp] theorem nf_2_8 : (Str.ofString "add" = Str.ofString "ni") = False := eq_false ne_2_8
theorem ne_2_9 : ¬ Str.ofString "add" = Str.ofString "nn" := by decide +kernel
@[simp] theorem nf_2_9 : (Str.ofString "add" = Str.ofString "nn") = False := eq_false ne_2_9
theorem ne_2_10 : ¬ Str.ofString "add" = Str.ofString "nnns" := by decide +kernel
@[simp] theorem nf_2_10 : (Str.ofString "add" = Str.ofString "nnns") = False := eq_false ne_2_10
theorem ne_2_11 : ¬ Str.ofString "add" = Str.ofString "i" := by decide +kernel
@[simp] theorem nf_2_11 : (Str.ofString "add" = Str.ofString "i") = False := eq_false ne_2_11
theorem ne_2_12 : ¬ Str.ofString "add" = Str.ofString "s" := by decide +kernel
@[simp] theorem nf_2_12 : (Str.ofString "add" = Str.ofString "s") = False := eq_false ne_2_12
theorem ne_2_13 : ¬ Str.ofString "add" = Str.ofString "" := by decide +kernel
@[simp] theorem nf_2_13 : (Str.ofString "add" = Str.ofString "") = False := eq_false ne_2_13
theorem ne_3_0 : ¬ Str.ofString "shift" = Str.ofString "drop" := by decide +kernel
@[simp] theorem nf_3_0 : (Str.ofString "shift" = Str.ofString "drop") = False := eq_false ne_3_0
theorem ne_3_1 : ¬ Str.ofString "shift" = Str.ofString "turn" := by decide +kernel
@[simp] theorem nf_3_1 : (Str.ofString "shift" = Str.ofString "turn") = False := eq_false ne_3_1
theorem ne_3_2 : ¬ Str.ofString "shift" = Str.ofString "add" := by decide +kernel
@[simp] theorem nf_3_2 : (Str.ofString "shift" = Str.ofString "add") = False := eq_false ne_3_2
theorem ne_3_4 : ¬ Str.ofString "shift" = Str.ofString "name" := by decide +kernel
@[simp] theorem nf_3_4 : (Str.ofString "shift" = Str.ofString "name") = False := eq_false ne_3_4
theorem ne_3_5 : ¬ Str.ofString "shift" = Str.ofString "part" := by decide +kernel
@[simp] theorem nf_3_5 : (Str.ofString "shift" = Str.ofString "part") = False := eq_false ne_3_5
theorem ne_3_6 : ¬ Str.ofString "shift" = Str.ofString "join" := by decide +kernel
@[simp] theorem nf_3_6 : (Str.ofString "shift" = Str.ofString "join") = False := eq_false ne_3_6
theorem ne_3_7 : ¬ Str.ofString "shift" = Str.ofString "n" := by decide +kernel
@[simp] theorem nf_3_7 : (Str.ofString "shift" = Str.ofString "n") = False := eq_false ne_3_7
theorem ne_3_8 : ¬ Str.ofString "shift" = Str.ofString "ni" := by decide +kernel
@[simp] theorem nf_3_8 : (Str.ofString "shift" = Str.ofString "ni") = False := eq_false ne_3_8
theorem ne_3_9 : ¬ Str.ofString "shift" = Str.ofString "nn" := by decide +kernel
@[simp] theorem nf_3_9 : (Str.ofString "shift" = Str.ofString "nn") = False := eq_false ne_3_9
theorem ne_3_10 : ¬ Str.ofString "shift" = Str.ofString "nnns" := by decide +kernel
@[simp] theorem nf_3_10 : (Str.ofString "shift" = Str.ofString "nnns") = False := eq_false ne_3_10
theorem ne_3_11 : ¬ Str.ofString "shift" = Str.ofString "i" := by decide +kernel
@[simp] theorem nf_3_11 : (Str.ofString "shift" = Str.ofString "i") = False := eq_false ne_3_11
theorem ne_3_12 : ¬ Str.ofString "shift" = Str.ofString "s" := by decide +kernel
@[simp] theorem nf_3_12 : (Str.ofString "shift" = Str.ofString "s") = False := eq_false ne_3_12
theorem ne_3_13 : ¬ Str.ofString "shift" = Str.ofString "" := by decide +kernel
@[simp] theorem nf_3_13 : (Str.ofString "shift" = Str.ofString "") = False := eq_false ne_3_13
theorem ne_4_0 : ¬ Str.ofString "name" = Str.ofString "drop" := by decide +kernel
@[simp] theorem nf_4_0 : (Str.ofString "name" = Str.ofString "drop") = False := eq_false ne_4_0
theorem ne_4_1 : ¬ Str.ofString "name" = Str.ofString "turn" := by decide +kernel
@[simp] theorem nf_4_1 : (Str.ofString "name" = Str.ofString "turn") = False := eq_false ne_4_1
theorem ne_4_2 : ¬ Str.ofString "name" = Str.ofString "add" := by decide +kernel
@[simp] theorem nf_4_2 : (Str.ofString "name" = Str.ofString "add") = False := eq_false ne_4_2
theorem ne_4_3 : ¬ Str.ofString "name" = Str.ofString "shift" := by decide +kernel
@[simp] theorem nf_4_3 : (Str.ofString "name" = Str.ofString "shift") = False := eq_false ne_4_3
theorem ne_4_5 : ¬ Str.ofString "name" = Str.ofString "part" := by decide +kernel
@[simp] theorem nf_4_5 : (Str.ofString "name" = Str.ofString "part") = False := eq_false ne_4_5
theorem ne_4_6 : ¬ Str.ofString "name" = Str.ofString "join" := by decide +kernel
@[simp] theorem nf_4_6 : (Str.ofString "name" = Str.ofString "join") = False := eq_false ne_4_6
theorem ne_4_7 : ¬ Str.ofString "name" = Str.ofString "n" := by decide +kernel
@[simp] theorem nf_4_7 : (Str.ofString "name" = Str.ofString "n") = False := eq_false ne_4_7
theorem ne_4_8 : ¬ Str.ofString "name" = Str.ofString "ni" := by decide +kernel
@[simp] theorem nf_4_8 : (Str.ofString "name" = Str.ofString "ni") = False := eq_false ne_4_8
theorem ne_4_9 : ¬ Str.ofString "name" = Str.ofString "nn" := by decide +kernel
@[simp] theorem nf_4_9 : (Str.ofString "name" = Str.ofString "nn") = False := eq_false ne_4_9
theorem ne_4_10 : ¬ Str.ofString "name" = Str.ofString "nnns" := by decide +kernel
@[simp] theorem nf_4_10 : (Str.ofString "name" = Str.ofString "nnns") = False := eq_false ne_4_10
theorem ne_4_11 : ¬ Str.ofString "name" = Str.ofString "i" := by decide +kernel
@[simp] theorem nf_4_11 : (Str.ofString "name" = Str.ofString "i") = False := eq_false ne_4_11
theorem ne_4_12 : ¬ Str.ofString "name" = Str.ofString "s" := by decide +kernel
@[simp] theorem nf_4_12 : (Str.ofString "name" = Str.ofString "s") = False := eq_false ne_4_12
theorem ne_4_13 : ¬ Str.ofString "name" = Str.ofString "" := by decide +kernel
@[simp] theorem nf_4_13 : (Str.ofString "name" = Str.ofString "") = False := eq_false ne_4_13
theorem ne_5_0 : ¬ Str.ofString "part" = Str.ofString "drop" := by decide +kernel
@[simp] theorem nf_5_0 : (Str.ofString "part" = Str.ofString "drop") = False := eq_false ne_5_0
theorem ne_5_1 : ¬ Str.ofString "part" = Str.ofString "turn" := by decide +kernel
@[simp] theorem nf_5_1 : (Str.ofString "part" = Str.ofString "turn") = False := eq_false ne_5_1
theorem ne_5_2 : ¬ Str.ofString "part" = Str.ofString "add" := by decide +kernel
@[simp] theorem nf_5_2 : (Str.ofString "part" = Str.ofString "add") = False := eq_false ne_5_2
theorem ne_5_3 : ¬ Str.ofString "part" = Str.ofString "shift" := by decide +kernel
@[simp] theorem nf_5_3 : (Str.ofString "part" = Str.ofString "shift") = False := eq_false ne_5_3
theorem ne_5_4 : ¬ Str.ofString "part" = Str.ofString "name" := by decide +kernel
@[simp] theorem nf_5_4 : (Str.ofString "part" = Str.ofString "name") = False := eq_false ne_5_4
theorem ne_5_6 : ¬ Str.ofString "part" = Str.ofString "join" := by decide +kernel
@[simp] theorem nf_5_6 : (Str.ofString "part" = Str.ofString "join") = False := eq_false ne_5_6
theorem ne_5_7 : ¬ Str.ofString "part" = Str.ofString "n" := by decide +kernel
@[simp] theorem nf_5_7 : (Str.ofString "part" = Str.ofString "n") = False := eq_false ne_5_7
theorem ne_5_8 : ¬ Str.ofString "part" = Str.ofString "ni" := by decide +kernel
@[simp] theorem nf_5_8 : (Str.ofString "part" = Str.ofString "ni") = False := eq_false ne_5_8
theorem ne_5_9 : ¬ Str.ofString "part" = Str.ofString "nn" := by decide +kernel
@[simp] theorem nf_5_9 : (Str.ofString "part" = Str.ofString "nn") = False := eq_false ne_5_9
theorem ne_5_10 : ¬ Str.ofString "part" = Str.ofString "nnns" := by decide +kernel
@[simp] theorem nf_5_10 : (Str.ofString "part" = Str.ofString "nnns") = False := eq_false ne_5_10
theorem ne_5_11 : ¬ Str.ofString "part" = Str.ofString "i" := by decide +kernel
@[simp] theorem nf_5_11 : (Str.ofString "part" = Str.ofString "i") = False := eq_false ne_5_11
theorem ne_5_12 : ¬ Str.ofString "part" = Str.ofString "s" := by decide +kernel
@[simp] theorem nf_5_12 : (Str.ofString "part" = Str.ofString "s") = False := eq_false ne_5_12
theorem ne_5_13 : ¬ Str.ofString "part" = Str.ofString "" := by decide +kernel
@[simp] theorem nf_5_13 : (Str.ofString "part" = Str.ofString "") = False := eq_false ne_5_13
theorem ne_6_0 : ¬ Str.ofString "join" = Str.ofString "drop" := by decide +kernel
@[simp] theorem nf_6_0 : (Str.ofString "join" = Str.ofString "drop") = False := eq_false ne_6_0
theorem ne_6_1 : ¬ Str.ofString "join" = Str.ofString "turn" := by decide +kernel
@[simp] theorem nf_6_1 : (Str.ofString "join" = Str.ofString "turn") = False := eq_false ne_6_1
theorem ne_6_2 : ¬ Str.ofString "join" = Str.ofString "add" := by decide +kernel
@[simp] theorem nf_6_2 : (Str.ofString "join" = Str.ofString "add") = False := eq_false ne_6_2
theorem ne_6_3 : ¬ Str.ofString "join" = Str.ofString "shift" := by decide +kernel
@[simp] theorem nf_6_3 : (Str.ofString "join" = Str.ofString "shift") = False := eq_false ne_6_3
theorem ne_6_4 : ¬ Str.ofString "join" = Str.ofString "name" := by decide +kernel
@[simp] theorem nf_6_4 : (Str.ofString "join" = Str.ofString "name") = False := eq_false ne_6_4
theorem ne_6_5 : ¬ Str.ofString "join" = Str.ofString "part" := by decide +kernel
@[simp] theorem nf_6_5 : (Str.ofString "join" = Str.ofString "part") = False := eq_false ne_6_5
theorem ne_6_7 : ¬ Str.ofString "join" = Str.ofString "n" := by decide +kernel
@[simp] theorem nf_6_7 : (Str.ofString "join" = Str.ofString "n") = False := eq_false ne_6_7
theorem ne_6_8 : ¬ Str.ofString "join" = Str.ofString "ni" := by decide +kernel
@[simp] theorem nf_6_8 : (Str.ofString "join" = Str.ofString "ni") = False := eq_false ne_6_8
theorem ne_6_9 : ¬ Str.ofString "join" = Str.ofString "nn" := by decide +kernel
@[simp] theorem nf_6_9 : (Str.ofString "join" = Str.ofString "nn") = False := eq_false ne_6_9
theorem ne_6_10 : ¬ Str.ofString "join" = Str.ofString "nnns" := by decide +kernel
@[simp] theorem nf_6_10 : (Str.ofString "join" = Str.ofString "nnns") = False := eq_false ne_6_10
theorem ne_6_11 : ¬ Str.ofString "join" = Str.ofString "i" := by decide +kernel
@[simp] theorem nf_6_11 : (Str.ofString "join" = Str.ofString "i") = False := eq_false ne_6_11
theorem ne_6_12 : ¬ Str.ofString "join" = Str.ofString "s" := by decide +kernel
@[simp] theorem nf_6_12 : (Str.ofString "join" = Str.ofString "s") = False := eq_false ne_6_12
theorem ne_6_13 : ¬ Str.ofString "join" = Str.ofString "" := by decide +kernel
@[simp] theorem nf_6_13 : (Str.ofString "join" = Str.ofString "") = False := eq_false ne_6_13
theorem ne_7_0 : ¬ Str.ofString "n" = Str.ofString "drop" := by decide +kernel
@[simp] theorem nf_7_0 : (Str.ofString "n" = Str.ofString "drop") = False := eq_false ne_7_0
theorem ne_7_1 : ¬ Str.ofString "n" = Str.ofString "turn" := by decide +kernel
@[simp] theorem nf_7_1 : (Str.ofString "n" = Str.ofString "turn") = False := eq_false ne_7_1
theorem ne_7_2 : ¬ Str.ofString "n" = Str.ofString "add" := by decide +kernel
@[simp] theorem nf_7_2 : (Str.ofString "n" = Str.ofString "add") = False := eq_false ne_7_2
theorem ne_7_3 : ¬ Str.ofString "n" = Str.ofString "shift" := by decide +kernel
@[simp] theorem nf_7_3 : (Str.ofString "n" = Str.ofString "shift") = False := eq_false ne_7_3
theorem ne_7_4 : ¬ Str.ofString "n" = Str.ofString "name" := by decide +kernel
@[simp] theorem nf_7_4 : (Str.ofString "n" = Str.ofString "name") = False := eq_false ne_7_4
theorem ne_7_5 : ¬ Str.ofString "n" = Str.ofString "part" := by decide +kernel
@[simp] theorem nf_7_5 : (Str.ofString "n" = Str.ofString "part") = False := eq_false ne_7_5
theorem ne_7_6 : ¬ Str.ofString "n" = Str.ofString "join" := by decide +kernel
@[simp] theorem nf_7_6 : (Str.ofString "n" = Str.ofString "join") = False := eq_false ne_7_6
theorem ne_7_8 : ¬ Str.ofString "n" = Str.ofString "ni" := by decide +kernel
@[simp] theorem nf_7_8 : (Str.ofString "n" = Str.ofString "ni") = False := eq_false ne_7_8
theorem ne_7_9 : ¬ Str.ofString "n" = Str.ofString "nn" := by decide +kernel
@[simp] theorem nf_7_9 : (Str.ofString "n" = Str.ofString "nn") = False := eq_false ne_7_9
theorem ne_7_10 : ¬ Str.ofString "n" = Str.ofString "nnns" := by decide +kernel
@[simp] theorem nf_7_10 : (Str.ofString "n" = Str.ofString "nnns") = False := eq_false ne_7_10
theorem ne_7_11 : ¬ Str.ofString "n" = Str.ofString "i" := by decide +kernel
@[simp] theorem nf_7_11 : (Str.ofString "n" = Str.ofString "i") = False := eq_false ne_7_11
theorem ne_7_12 : ¬ Str.ofString "n" = Str.ofString "s" := by decide +kernel
@[simp] theorem nf_7_12 : (Str.ofString "n" = Str.ofString "s") = False := eq_false ne_7_12
theorem ne_7_13 : ¬ Str.ofString "n" = Str.ofString "" := by decide +kernel
@[simp] theorem nf_7_13 : (Str.ofString "n" = Str.ofString "") = False := eq_false ne_7_13
theorem ne_8_0 : ¬ Str.ofString "ni" = Str.ofString "drop" := by decide +kernel
@[simp] theorem nf_8_0 : (Str.ofString "ni" = Str.ofString "drop") = False := eq_false ne_8_0
theorem ne_8_1 : ¬ Str.ofString "ni" = Str.ofString "turn" := by decide +kernel
@[simp] theorem nf_8_1 : (Str.ofString "ni" = Str.ofString "turn") = False := eq_false ne_8_1
theorem ne_8_2 : ¬ Str.ofString "ni" = Str.ofString "add" := by decide +kernel
@[simp] theorem nf_8_2 : (Str.ofString "ni" = Str.ofString "add") = False := eq_false ne_8_2
theorem ne_8_3 : ¬ Str.ofString "ni" = Str.ofString "shift" := by decide +kernel
@[simp] theorem nf_8_3 : (Str.ofString "ni" = Str.ofString "shift") = False := eq_false ne_8_3
theorem ne_8_4 : ¬ Str.ofString "ni" = Str.ofString "name" := by decide +kernel
@[simp] theorem nf_8_4 : (Str.ofString "ni" = Str.ofString "name") = False := eq_false ne_8_4
theorem ne_8_5 : ¬ Str.ofString "ni" = Str.ofString "part" := by decide +kernel
@[simp] theorem nf_8_5 : (Str.ofString "ni" = Str.ofString "part") = False := eq_false ne_8_5
theorem ne_8_6 : ¬ Str.ofString "ni" = Str.ofString "join" := by decide +kernel
@[simp] theorem nf_8_6 : (Str.ofString "ni" = Str.ofString "join") = False := eq_false ne_8_6
theorem ne_8_7 : ¬ Str.ofString "ni" = Str.ofString "n" := by decide +kernel
@[simp] theorem nf_8_7 : (Str.ofString "ni" = Str.ofString "n") = False := eq_false ne_8_7
theorem ne_8_9 : ¬ Str.ofString "ni" = Str.ofString "nn" := by decide +kernel
@[simp] theorem nf_8_9 : (Str.ofString "ni" = Str.ofString "nn") = False := eq_false ne_8_9
theorem ne_8_10 : ¬ Str.ofString "ni" = Str.ofString "nnns" := by decide +kernel
@[simp] theorem nf_8_10 : (Str.ofString "ni" = Str.ofString "nnns") = False := eq_false ne_8_10
theorem ne_8_11 : ¬ Str.ofString "ni" = Str.ofString "i" := by decide +kernel
@[simp] theorem nf_8_11 : (Str.ofString "ni" = Str.ofString "i") = False := eq_false ne_8_11
theorem ne_8_12 : ¬ Str.ofString "ni" = Str.ofString "s" := by decide +kernel
@[simp] theorem nf_8_12 : (Str.ofString "ni" = Str.ofString "s") = False := eq_false ne_8_12
theorem ne_8_13 : ¬ Str.ofString "ni" = Str.ofString "" := by decide +kernel
@[simp] theorem nf_8_13 : (Str.ofString "ni" = Str.ofString "") = False := eq_false ne_8_13
theorem ne_9_0 : ¬ Str.ofString "nn" = Str.ofString "drop" := by decide +kernel
@[simp] theorem nf_9_0 : (Str.ofString "nn" = Str.ofString "drop") = False := eq_false ne_9_0
theorem ne_9_1 : ¬ Str.ofString "nn" = Str.ofString "turn" := by decide +kernel
@[simp] theorem nf_9_1 : (Str.ofString "nn" = Str.ofString "turn") = False := eq_false ne_9_1
theorem ne_9_2 : ¬ Str.ofString "nn" = Str.ofString "add" := by decide +kernel
@[simp] theorem nf_9_2 : (Str.ofString "nn" = Str.ofString "add") = False := eq_false ne_9_2
theorem ne_9_3 : ¬ Str.ofString "nn" = Str.ofString "shift" := by decide +kernel
@[simp] theorem nf_9_3 : (Str.ofString "nn" = Str.ofString "shift") = False := eq_false ne_9_3
theorem ne_9_4 : ¬ Str.ofString "nn" = Str.ofString "name" := by decide +kernel
@[simp] theorem nf_9_4 : (Str.ofString "nn" = Str.ofString "name") = False := eq_false ne_9_4
theorem ne_9_5 : ¬ Str.ofString "nn" = Str.ofString "part" := by decide +kernel
@[simp] theorem nf_9_5 : (Str.ofString "nn" = Str.ofString "part") = False := eq_false ne_9_5
theorem ne_9_6 : ¬ Str.ofString "nn" = Str.ofString "join" := by decide +kernel
@[simp] theorem nf_9_6 : (Str.ofString "nn" = Str.ofString "join") = False := eq_false ne_9_6
theorem ne_9_7 : ¬ Str.ofString "nn" = Str.ofString "n" := by decide +kernel
@[simp] theorem nf_9_7 : (Str.ofString "nn" = Str.ofString "n") = False := eq_false ne_9_7
theorem ne_9_8 : ¬ Str.ofString "nn" = Str.ofString "ni" := by decide +kernel
@[simp] theorem nf_9_8 : (Str.ofString "nn" = Str.ofString "ni") = False := eq_false ne_9_8
theorem ne_9_10 : ¬ Str.ofString "nn" = Str.ofString "nnns" := by decide +kernel
@[simp] theorem nf_9_10 : (Str.ofString "nn" = Str.ofString "nnns") = False := eq_false ne_9_10
theorem ne_9_11 : ¬ Str.ofString "nn" = Str.ofString "i" := by decide +kernel
@[simp] theorem nf_9_11 : (Str.ofString "nn" = Str.ofString "i") = False := eq_false ne_9_11
theorem ne_9_12 : ¬ Str.ofString "nn" = Str.ofString "s" := by decide +kernel
@[simp] theorem nf_9_12 : (Str.ofString "nn" = Str.ofString "s") = False := eq_false ne_9_12
theorem ne_9_13 : ¬ Str.ofString "nn" = Str.ofString "" := by decide +kernel
@[simp] theorem nf_9_13 : (Str.ofString "nn" = Str.ofString "") = False := eq_false ne_9_13
theorem ne_10_0 : ¬ Str.ofString "nnns" = Str.ofString "drop" := by decide +kernel
@[simp] theorem nf_10_0 : (Str.ofString "nnns" = Str.ofString "drop") = False := eq_false ne_10_0
theorem ne_10_1 : ¬ Str.ofString "nnns" = Str.ofString "turn" := by decide +kernel
@[simp] theorem nf_10_1 : (Str.ofString "nnns" = Str.ofString "turn") = False := eq_false ne_10_1
theorem ne_10_2 : ¬ Str.ofString "nnns" = Str.ofString "add" := by decide +kernel
@[simp] theorem nf_10_2 : (Str.ofString "nnns" = Str.ofString "add") = False := eq_false ne_10_2
theorem ne_10_3 : ¬ Str.ofString "nnns" = Str.ofString "shift" := by decide +kernel
@[simp] theorem nf_10_3 : (Str.ofString "nnns" = Str.ofString "shift") = False := eq_false ne_10_3
theorem ne_10_4 : ¬ Str.ofString "nnns" = Str.ofString "name" := by decide +kernel
@[simp] theorem nf_10_4 : (Str.ofString "nnns" = Str.ofString "name") = False := eq_false ne_10_4
theorem ne_10_5 : ¬ Str.ofString "nnns" = Str.ofString "part" := by decide +kernel
@[simp] theorem nf_10_5 : (Str.ofString "nnns" = Str.ofString "part") = False := eq_false ne_10_5
theorem ne_10_6 : ¬ Str.ofString "nnns" = Str.ofString "join" := by decide +kernel
@[simp] theorem nf_10_6 : (Str.ofString "nnns" = Str.ofString "join") = False := eq_false ne_10_6
theorem ne_10_7 : ¬ Str.ofString "nnns" = Str.ofString "n" := by decide +kernel
@[simp] theorem nf_10_7 : (Str.ofString "nnns" = Str.ofString "n") = False := eq_false ne_10_7
theorem ne_10_8 : ¬ Str.ofString "nnns" = Str.ofString "ni" := by decide +kernel
@[simp] theorem nf_10_8 : (Str.ofString "nnns" = Str.ofString "ni") = False := eq_false ne_10_8
theorem ne_10_9 : ¬ Str.ofString "nnns" = Str.ofString "nn" := by decide +kernel
@[simp] theorem nf_10_9 : (Str.ofString "nnns" = Str.ofString "nn") = False := eq_false ne_10_9
theorem ne_10_11 : ¬ Str.ofString "nnns" = Str.ofString "i" := by decide +kernel
@[simp] theorem nf_10_11 : (Str.ofString "nnns" = Str.ofString "i") = False := eq_false ne_10_11
theorem ne_10_12 : ¬ Str.ofString "nnns" = Str.ofString "s" := by decide +kernel
@[simp] theorem nf_10_12 : (Str.ofString "nnns" = Str.ofString "s") = False := eq_false ne_10_12
theorem ne_10_13 : ¬ Str.ofString "nnns" = Str.ofString "" := by decide +kernel
@[simp] theorem nf_10_13 : (Str.ofString "nnns" = Str.ofString "") = False := eq_false ne_10_13
theorem ne_11_0 : ¬ Str.ofString "i" = Str.ofString "drop" := by decide +kernel
@[simp] theorem nf_11_0 : (Str.ofString "i" = Str.ofString "drop") = False := eq_false ne_11_0
theorem ne_11_1 : ¬ Str.ofString "i" = Str.ofString "turn" := by decide +kernel
@[simp] theorem nf_11_1 : (Str.ofString "i" = Str.ofString "turn") = False := eq_false ne_11_1
theorem ne_11_2 : ¬ Str.ofString "i" = Str.ofString "add" := by decide +kernel
@[simp] theorem nf_11_2 : (Str.ofString "i" = Str.ofString "add") = False := eq_false ne_11_2
theorem ne_11_3 : ¬ Str.ofString "i" = Str.ofString "shift" := by decide +kernel
@[simp] theorem nf_11_3 : (Str.ofString "i" = Str.ofString "shift") = False := eq_false ne_11_3
theorem ne_11_4 : ¬ Str.ofString "i" = Str.ofString "name" := by decide +kernel
@[simp] theorem nf_11_4 : (Str.ofString "i" = Str.ofString "name") = False := eq_false ne_11_4
theorem ne_11_5 : ¬ Str.ofString "i" = Str.ofString "part" := by decide +kernel
@[simp] theorem nf_11_5 : (Str.ofString "i" = Str.ofString "part") = False := eq_false ne_11_5
theorem ne_11_6 : ¬ Str.ofString "i" = Str.ofString "join" := by decide +kernel
@[simp] theorem nf_11_6 : (Str.ofString "i" = Str.ofString "join") = False := eq_false ne_11_6
theorem ne_11_7 : ¬ Str.ofString "i" = Str.ofString "n" := by decide +kernel
@[simp] theorem nf_11_7 : (Str.ofString "i" = Str.ofString "n") = False := eq_false ne_11_7
theorem ne_11_8 : ¬ Str.ofString "i" = Str.ofString "ni" := by decide +kernel
@[simp] theorem nf_11_8 : (Str.ofString "i" = Str.ofString "ni") = False := eq_false ne_11_8
theorem ne_11_9 : ¬ Str.ofString "i" = Str.ofString "nn" := by decide +kernel
@[simp] theorem nf_11_9 : (Str.ofString "i" = Str.ofString "nn") = False := eq_false ne_11_9
theorem ne_11_10 : ¬ Str.ofString "i" = Str.ofString "nnns" := by decide +kernel
@[simp] theorem nf_11_10 : (Str.ofString "i" = Str.ofString "nnns") = False := eq_false ne_11_10
theorem ne_11_12 : ¬ Str.ofString "i" = Str.ofString "s" := by decide +kernel
@[simp] theorem nf_11_12 : (Str.ofString "i" = Str.ofString "s") = False := eq_false ne_11_12
theorem ne_11_13 : ¬ Str.ofString "i" = Str.ofString "" := by decide +kernel
@[simp] theorem nf_11_13 : (Str.ofString "i" = Str.ofString "") = False := eq_false ne_11_13
theorem ne_12_0 : ¬ Str.ofString "s" = Str.ofString "drop" := by decide +kernel
@[simp] theorem nf_12_0 : (Str.ofString "s" = Str.ofString "drop") = False := eq_false ne_12_0
theorem ne_12_1 : ¬ Str.ofString "s" = Str.ofString "turn" := by decide +kernel
@[simp] theorem nf_12_1 : (Str.ofString "s" = Str.ofString "turn") = False := eq_false ne_12_1
theorem ne_12_2 : ¬ Str.ofString "s" = Str.ofString "add" := by decide +kernel
@[simp] theorem nf_12_2 : (Str.ofString "s" = Str.ofString "add") = False := eq_false ne_12_2
theorem ne_12_3 : ¬ Str.ofString "s" = Str.ofString "shift" := by decide +kernel
@[simp] theorem nf_12_3 : (Str.ofString "s" = Str.ofString "shift") = False := eq_false ne_12_3
theorem ne_12_4 : ¬ Str.ofString "s" = Str.ofString "name" := by decide +kernel
@[simp] theorem nf_12_4 : (Str.ofString "s" = Str.ofString "name") = False := eq_false ne_12_4
theorem ne_12_5 : ¬ Str.ofString "s" = Str.ofString "part" := by decide +kernel
@[simp] theorem nf_12_5 : (Str.ofString "s" = Str.ofString "part") = False := eq_false ne_12_5
theorem ne_12_6 : ¬ Str.ofString "s" = Str.ofString "join" := by decide +kernel
@[simp] theorem nf_12_6 : (Str.ofString "s" = Str.ofString "join") = False := eq_false ne_12_6
theorem ne_12_7 : ¬ Str.ofString "s" = Str.ofString "n" := by decide +kernel
@[simp] theorem nf_12_7 : (Str.ofString "s" = Str.ofString "n") = False := eq_false ne_12_7
theorem ne_12_8 : ¬ Str.ofString "s" = Str.ofString "ni" := by decide +kernel
@[simp] theorem nf_12_8 : (Str.ofString "s" = Str.ofString "ni") = False := eq_false ne_12_8
theorem ne_12_9 : ¬ Str.ofString "s" = Str.ofString "nn" := by decide +kernel
@[simp] theorem nf_12_9 : (Str.ofString "s" = Str.ofString "nn") = False := eq_false ne_12_9
theorem ne_12_10 : ¬ Str.ofString "s" = Str.ofString "nnns" := by decide +kernel
@[simp] theorem nf_12_10 : (Str.ofString "s" = Str.ofString "nnns") = False := eq_false ne_12_10
theorem ne_12_11 : ¬ Str.ofString "s" = Str.ofString "i" := by decide +kernel
@[simp] theorem nf_12_11 : (Str.ofString "s" = Str.ofString "i") = False := eq_false ne_12_11
theorem ne_12_13 : ¬ Str.ofString "s" = Str.ofString "" := by decide +kernel
@[simp] theorem nf_12_13 : (Str.ofString "s" = Str.ofString "") = False := eq_false ne_12_13
theorem ne_13_0 : ¬ Str.ofString "" = Str.ofString "drop" := by decide +kernel
@[simp] theorem nf_13_0 : (Str.ofString "" = Str.ofString "drop") = False := eq_false ne_13_0
theorem ne_13_1 : ¬ Str.ofString "" = Str.ofString "turn" := by decide +kernel
@[simp] theorem nf_13_1 : (Str.ofString "" = Str.ofString "turn") = False := eq_false ne_13_1
theorem ne_13_2 : ¬ Str.ofString "" = Str.ofString "add" := by decide +kernel
@[simp] theorem nf_13_2 : (Str.ofString "" = Str.ofString "add") = False := eq_false ne_13_2
theorem ne_13_3 : ¬ Str.ofString "" = Str.ofString "shift" := by decide +kernel
@[simp] theorem nf_13_3 : (Str.ofString "" = Str.ofString "shift") = False := eq_false ne_13_3
theorem ne_13_4 : ¬ Str.ofString "" = Str.ofString "name" := by decide +kernel
@[simp] theorem nf_13_4 : (Str.ofString "" = Str.ofString "name") = False := eq_false ne_13_4
theorem ne_13_5 : ¬ Str.ofString "" = Str.ofString "part" := by decide +kernel
@[simp] theorem nf_13_5 : (Str.ofString "" = Str.ofString "part") = False := eq_false ne_13_5
theorem ne_13_6 : ¬ Str.ofString "" = Str.ofString "join" := by decide +kernel
@[simp] theorem nf_13_6 : (Str.ofString "" = Str.ofString "join") = False := eq_false ne_13_6
theorem ne_13_7 : ¬ Str.ofString "" = Str.ofString "n" := by decide +kernel
@[simp] theorem nf_13_7 : (Str.ofString "" = Str.ofString "n") = False := eq_false ne_13_7
theorem ne_13_8 : ¬ Str.ofString "" = Str.ofString "ni" := by decide +kernel
@[simp] theorem nf_13_8 : (Str.ofString "" = Str.ofString "ni") = False := eq_false ne_13_8
theorem ne_13_9 : ¬ Str.ofString "" = Str.ofString "nn" := by decide +kernel
@[simp] theorem nf_13_9 : (Str.ofString "" = Str.ofString "nn") = False := eq_false ne_13_9
theorem ne_13_10 : ¬ Str.ofString "" = Str.ofString "nnns" := by decide +kernel
@[simp] theorem nf_13_10 : (Str.ofString "" = Str.ofString "nnns") = False := eq_false ne_13_10
theorem ne_13_11 : ¬ Str.ofString "" = Str.ofString "i" := by decide +kernel
@[simp] theorem nf_13_11 : (Str.ofString "" = Str.ofString "i") = False := eq_false ne_13_11
theorem ne_13_12 : ¬ Str.ofString "" = Str.ofString "s" := by decide +kernel
@[simp] theorem nf_13_12 : (Str.ofString "" = Str.ofString "s") = False := eq_false ne_13_12
/-- a comprehension's elements, each of a kind -/
theorem compF_P {i : Nat} {e : M} {s : Sto} {sl : List Sl} {P : F → Prop} : ∀ (xs : List F), (∀ x ∈ xs, ∃ y z, e (sl.set i (.v (.f x))) s = .ok y s ∧ frz y = .f z ∧ P z) → ∃ zs, compF i (mC (.bl true)) e xs sl s = .ok zs s ∧ zs.length = xs.length ∧ ∀ z ∈ zs, P z
  | [], _ => ⟨[], rfl, rfl, fun _ h => by cases h⟩
  | x :: xs, h => by
    obtain ⟨zs, e1, e2, e3⟩ := compF_P xs fun y hy => h y (List.mem_cons_of_mem _ hy)
    obtain ⟨y, z, h1, h2, h3⟩ := h x List.mem_cons_self
    refine ⟨z :: zs, ?_, by rw [List.length_cons, List.length_cons, e2], fun u hu => ?_⟩
    · unfold compF
      simp only [mC, Fm.R.bind_ok, h1, h2, e1]
    · rcases List.mem_cons.mp hu with rfl | hu
      · exact h3
      · exact e3 u hu
theorem sgs_of : ∀ (zs : List F), (∀ z ∈ zs, ∃ c, z = .str ⟨#[c]⟩) → ∃ l : List Nat, zs = l.map fun c => F.str ⟨#[c]⟩
  | [], _ => ⟨[], rfl⟩
  | z :: zs, h => by
    obtain ⟨c, rfl⟩ := h z List.mem_cons_self
    obtain ⟨l, rfl⟩ := sgs_of zs fun y hy => h y (List.mem_cons_of_mem _ hy)
    exact ⟨c :: l, rfl⟩
/-- a sign of a text -/
theorem sign_at {z : Str} {i : Int} (hz : z.length ≤ sizeLine) (h0 : 0 ≤ i) (h : i < z.length) : ∃ c, ixF (.str z) (.int i) = .val (.str ⟨#[c]⟩) := by
  obtain ⟨c, hc, _⟩ := atI_in (xs := z.cps.toList) h0 (by
    have : (z.length : Int) = z.cps.toList.length := by simp [Str.length]
    omega)
  exact ⟨c, by simp [ixF, hz, hc]⟩
/-- an item of a list -/
theorem item_at {xs : List F} {i : Int} (h0 : 0 ≤ i) (h : i < xs.length) : ∃ x, ixF (.lst xs) (.int i) = .val x ∧ x ∈ xs := by
  obtain ⟨c, hc, hm⟩ := atI_in (xs := xs) h0 (by omega)
  exact ⟨c, by simp [ixF, hc], hm⟩
theorem inB_of2 {i : Int} (h : i.natAbs < 4611686018427387904) : inB i = true := decide_eq_true h
theorem mulOk_of {i j : Int} (h : i.natAbs < 18446744073709551616 ∨ j.natAbs < 18446744073709551616) : mulOk i j = true := by
  unfold mulOk
  rw [Bool.or_eq_true, decide_eq_true_eq, decide_eq_true_eq]
  exact h
theorem divOk_of {j : Int} (h : j ≠ 0 ∧ j.natAbs < 1073741824) : divOk j = true := decide_eq_true h
theorem repOk_of {x : Str} {n : Int} (h : 0 ≤ n ∧ n ≤ 100 ∧ x.length ≤ 1000) : repOk x n = true := decide_eq_true h
theorem powOk_of {i j : Int} (h : 0 ≤ j ∧ j ≤ 1000000 ∧ i.natAbs < 18446744073709551616) : powOk i j = true := by
  have e : (2 : Nat) ^ 64 = 18446744073709551616 := by decide
  unfold powOk
  rw [e]
  exact decide_eq_true h
@[simp] theorem dv2 : divOk 2 = true := divOk_of (by decide)
@[simp] theorem dv3 : divOk 3 = true := divOk_of (by decide)
@[simp] theorem dv4 : divOk 4 = true := divOk_of (by decide)
@[simp] theorem dv5 : divOk 5 = true := divOk_of (by decide)
@[simp] theorem dv7 : divOk 7 = true := divOk_of (by decide)
@[simp] theorem dv8 : divOk 8 = true := divOk_of (by decide)
@[simp] theorem dv9 : divOk 9 = true := divOk_of (by decide)
@[simp] theorem dv10 : divOk 10 = true := divOk_of (by decide)
@[simp] theorem dv11 : divOk 11 = true := divOk_of (by decide)
@[simp] theorem dv17 : divOk 17 = true := divOk_of (by decide)
@[simp] theorem dv19 : divOk 19 = true := divOk_of (by decide)
@[simp] theorem dv26 : divOk 26 = true := divOk_of (by decide)
@[simp] theorem dv52 : divOk 52 = true := divOk_of (by decide)
@[simp] theorem dv60 : divOk 60 = true := divOk_of (by decide)
@[simp] theorem dv99 : divOk 99 = true := divOk_of (by decide)
@[simp] theorem dv100 : divOk 100 = true := divOk_of (by decide)
@[simp] theorem dv286 : divOk 286 = true := divOk_of (by decide)
@[simp] theorem dv416 : divOk 416 = true := divOk_of (by decide)
@[simp] theorem pw10_60 : powOk 10 60 = true := powOk_of (by decide)
@[simp] theorem pw10_50 : powOk 10 50 = true := powOk_of (by decide)
@[simp] theorem pw10_15 : powOk 10 15 = true := powOk_of (by decide)
@[simp] theorem pw10_12 : powOk 10 12 = true := powOk_of (by decide)
end Fm

/-! FR: plain facts of loops by number, of dicts. -/
namespace Fm
open PySem L2
theorem rgF_succ (a : Int) (n : Nat) : rgF a 1 (n + 1) = rgF a 1 n ++ [F.int (a + n)] := by
  unfold rgF
  rw [List.range_succ, List.map_append]
  simp
theorem loop_from {i : Nat} {body : MS} {s : Sto} {P : Nat → List Sl → Prop} {a : Int} {n : Nat} : ∀ (m k : Nat) (sl : List Sl), k + m = n → P k sl → (∀ k, k < n → ∀ sl, P k sl → ∃ sl', body (sl.set i (.v (.f (.int (a + k))))) s = .nx sl' s ∧ P (k + 1) sl') →
    ∃ sl', loopF i body ((List.range' k m).map fun (k : Nat) => F.int (a + k)) sl s = .nx sl' s ∧ P n sl'
  | 0, k, sl, e, hp, _ => by
    have : k = n := by omega
    subst this
    exact ⟨sl, rfl, hp⟩
  | m + 1, k, sl, e, hp, h => by
    obtain ⟨sl1, e1, h1⟩ := h k (by omega) sl hp
    obtain ⟨sl2, e2, h2⟩ := loop_from m (k + 1) sl1 (by omega) h1 h
    refine ⟨sl2, ?_, h2⟩
    rw [List.range'_succ, List.map_cons]
    unfold loopF
    rw [e1]
    exact e2
/-- for k in range(n), by an invariant -/
theorem loop_rg {i : Nat} {body : MS} {s : Sto} {P : Nat → List Sl → Prop} {n : Nat} (sl : List Sl) (hp : P 0 sl) (h : ∀ k, k < n → ∀ sl, P k sl → ∃ sl', body (sl.set i (.v (.f (.int (k : Int))))) s = .nx sl' s ∧ P (k + 1) sl') :
    ∃ sl', loopF i body (rgF 0 1 n) sl s = .nx sl' s ∧ P n sl' := by
  have e : rgF 0 1 n = (List.range' 0 n).map fun (k : Nat) => F.int (0 + k) := by
    unfold rgF
    rw [List.range_eq_range']
    exact List.map_congr_left fun k _ => by rw [Int.mul_one]
  rw [e]
  exact loop_from n 0 sl (by omega) hp fun k hk sl hp => by
    obtain ⟨sl', h1, h2⟩ := h k hk sl hp
    exact ⟨sl', by rw [Int.zero_add]; exact h1, h2⟩
/-! ### dicts -/
section
variable {α : Type}
theorem vK_nil (k : Key) : vK ([] : List (Key × α)) k = none := rfl
theorem vK_cons (l : Key) (x : α) (r : List (Key × α)) (k : Key) : vK ((l, x) :: r) k = if l = k then some x else vK r k := by
  unfold vK
  rw [List.find?_cons]
  by_cases h : l = k
  · simp [h]
  · simp [h]
theorem vK_app (xs ys : List (Key × α)) (k : Key) : vK (xs ++ ys) k = (vK xs k).or (vK ys k) := by
  induction xs with
  | nil => simp [vK_nil]
  | cons p xs ih =>
    obtain ⟨l, x⟩ := p
    rw [List.cons_append, vK_cons, vK_cons, ih]
    split <;> simp
theorem vK_some_any {kvs : List (Key × α)} {k : Key} : (kvs.any fun kv => decide (kv.1 = k)) = (vK kvs k).isSome := by
  induction kvs with
  | nil => rfl
  | cons p r ih =>
    obtain ⟨l, x⟩ := p
    rw [List.any_cons, vK_cons, ih]
    by_cases h : l = k <;> simp [h]
theorem vK_repl (kvs : List (Key × α)) (k : Key) (v : α) (k' : Key) : vK (kvs.map fun kv => if kv.1 = k then (kv.1, v) else kv) k' = if k' = k then (vK kvs k').map (fun _ => v) else vK kvs k' := by
  induction kvs with
  | nil => simp [vK_nil]
  | cons p r ih =>
    obtain ⟨l, x⟩ := p
    rw [List.map_cons, vK_cons]
    by_cases h : l = k
    · simp only [h, if_true, vK_cons, ih]
      by_cases h2 : k = k'
      · simp [h2]
      · have : ¬ k' = k := fun z => h2 z.symm
        simp [h2, this]
    · simp only [h, if_false, vK_cons, ih]
      by_cases h2 : l = k'
      · have : ¬ k' = k := fun z => h (h2.trans z)
        simp [h2, this]
      · simp [h2]
theorem vK_put (kvs : List (Key × α)) (k : Key) (v : α) (k' : Key) : vK (pK kvs k v) k' = if k' = k then some v else vK kvs k' := by
  unfold pK
  rw [vK_some_any]
  split
  · rename_i h
    rw [vK_repl]
    by_cases h2 : k' = k
    · subst h2
      obtain ⟨x, hx⟩ := Option.isSome_iff_exists.mp h
      simp [hx]
    · simp [h2]
  · rename_i h
    rw [vK_app, vK_cons, vK_nil]
    by_cases h2 : k' = k
    · subst h2
      have : vK kvs k' = none := by
        cases e : vK kvs k' with
        | none => rfl
        | some x => rw [e] at h; simp at h
      simp [this]
    · have : ¬ k = k' := fun z => h2 z.symm
      simp [h2, this]
theorem vK_drp (kvs : List (Key × α)) (k k' : Key) : vK (dK kvs k) k' = if k' = k then none else vK kvs k' := by
  unfold dK
  induction kvs with
  | nil => simp [vK_nil]
  | cons p r ih =>
    obtain ⟨l, x⟩ := p
    rw [List.filter_cons]
    by_cases h : l = k
    · subst h
      simp only [ne_eq, not_true, decide_false, Bool.false_eq_true, if_false, ih, vK_cons]
      by_cases h2 : l = k'
      · simp [h2]
      · simp [h2]
    · simp only [ne_eq, h, not_false_eq_true, decide_true, if_true, vK_cons, ih]
      by_cases h2 : l = k'
      · subst h2; simp [h]
      · simp [h2]
/-- the keys, each once -/
def NdK (kvs : List (Key × α)) : Prop := (kvs.map (·.1)).Nodup
theorem mem_vK {kvs : List (Key × α)} {k : Key} : k ∈ kvs.map (·.1) ↔ (vK kvs k).isSome = true := by
  rw [← vK_some_any, List.any_eq_true, List.mem_map]
  constructor
  · rintro ⟨p, hp, e⟩; exact ⟨p, hp, by simp [e]⟩
  · rintro ⟨p, hp, e⟩; exact ⟨p, hp, by simpa using e⟩
theorem NdK.put {kvs : List (Key × α)} (h : NdK kvs) (k : Key) (v : α) : NdK (pK kvs k v) := by
  unfold pK
  rw [vK_some_any]
  split
  · unfold NdK at h ⊢
    rw [List.map_map]
    have : ((fun x : Key × α => x.1) ∘ fun kv => if kv.1 = k then (kv.1, v) else kv) = fun x => x.1 := by
      funext p; simp only [Function.comp]; split <;> rfl
    rw [this]; exact h
  · rename_i q
    unfold NdK at h ⊢
    rw [List.map_append, List.nodup_append]
    refine ⟨h, by simp, fun a ha b hb z => ?_⟩
    simp at hb
    subst z hb
    exact q (mem_vK.mp ha)
theorem NdK.drp {kvs : List (Key × α)} (h : NdK kvs) (k : Key) : NdK (dK kvs k) := by
  unfold NdK dK at *
  exact List.Nodup.sublist (List.Sublist.map _ List.filter_sublist) h
theorem NdK.len {xs ys : List (Key × α)} (h : NdK xs) (h2 : NdK ys) (e : ∀ k, (vK xs k).isSome = (vK ys k).isSome) : xs.length = ys.length := by
  have : (xs.map (·.1)).Perm (ys.map (·.1)) := (List.perm_ext_iff_of_nodup h h2).mpr fun k => by rw [mem_vK, mem_vK, e]
  simpa using this.length_eq
theorem vK_mem {kvs : List (Key × α)} (h : NdK kvs) {k : Key} {x : α} (m : (k, x) ∈ kvs) : vK kvs k = some x := by
  induction kvs with
  | nil => cases m
  | cons p r ih =>
    obtain ⟨l, y⟩ := p
    rw [vK_cons]
    unfold NdK at h
    rw [List.map_cons, List.nodup_cons] at h
    rcases List.mem_cons.mp m with e | m
    · cases e; simp
    · rw [if_neg fun z => h.1 (by rw [z]; exact List.mem_map.mpr ⟨_, m, rfl⟩)]
      exact ih h.2 m
end
/-- dicts of whole numbers -/
def IntD (kvs : List (Key × F)) : Prop := ∀ k x, vK kvs k = some x → ∃ i, x = .int i
theorem eqFl_int {i : Int} : eqFl (.int i) (.int i) = true := by simp
/-- equal as dicts -/
theorem eqD {xs ys : List (Key × F)} (n1 : NdK xs) (n2 : NdK ys) (d1 : IntD xs) (e : ∀ k, vK xs k = vK ys k) : eqT (.dct xs) (.dct ys) = some true := by
  have d2 : IntD ys := fun k x h => d1 k x (by rw [e]; exact h)
  have f : ∀ {zs : List (Key × F)}, NdK zs → IntD zs → (zs.all fun p => flatF p.2) = true := fun {zs} n d => by
    rw [List.all_eq_true]
    rintro ⟨k, x⟩ hm
    obtain ⟨i, rfl⟩ := d k x (vK_mem n hm)
    rfl
  have len : xs.length = ys.length := n1.len n2 fun k => by rw [e]
  show eqN 6 (.dct xs) (.dct ys) = _
  unfold eqN
  rw [f n1 d1, f n2 d2]
  simp only [Bool.and_self, if_true, len, decide_true, Bool.true_and, Option.some.injEq]
  rw [List.all_eq_true]
  rintro ⟨k, x⟩ hm
  have h1 := vK_mem n1 hm
  obtain ⟨i, rfl⟩ := d1 k x h1
  rw [← e, h1]
  exact eqFl_int
end Fm

/-! FS: a dict is walked: locked. -/
namespace Fm
open PySem L2
theorem takes_lock {X : Cx} {W : WX} {d : Addr} {od : Obj} {u : HO} (tk : Takes X W) (hn : ∀ o' u', X.H_0 d ≠ some (.frz o' u')) : Takes X (fun cls x σ H => H d = some (.frz od u) ∧ W cls x σ (upd H d u)) :=
  fun v s' ⟨a, B, sI, pins, σ, H, cls, x, e, I, nb, up, sky, na, os, ag, w1, w2⟩ => tk v s' ⟨a, B, sI, pins, σ, upd H d u, cls, x, e, I.unlock w1 hn, nb, up, sky, by
    rw [upd_ne fun z => by rw [z, w1] at na; cases na]; exact na, os, ag, w2⟩
def tLockX (X : Cx) (t : TS) : TS := fun D σ H => ∃ d u, H d = some u ∧ Mut (some u) ∧ ∀ od, (∀ o' u', X.H_0 d ≠ some (.frz o' u')) → t ⟨fun σ' H' => H' d = some (.frz od u) ∧ D.nx σ' (upd H' d u), fun v H' => H' d = some (.frz od u) ∧ D.rt v (upd H' d u), fun σ' H' => H' d = some (.frz od u) ∧ D.bk σ' (upd H' d u), fun σ' H' => H' d = some (.frz od u) ∧ D.ct σ' (upd H' d u)⟩ σ (upd H d (.frz od u))
theorem ps_lockX {X : Cx} {st : Stmt} {t : TS} (h : PS X st t) : PS X st (tLockX X t) := by
  refine ⟨fun pins s σ H D I hw => ?_⟩
  obtain ⟨d, u, hd, mu, hw⟩ := hw
  obtain ⟨od, I1⟩ := I.lock hd mu
  refine thn (h.run pins s σ _ _ I1 (hw od (I.nofrz hd mu))) fun f s1 q => ?_
  cases f with
  | next => obtain ⟨σ', H', I2, e, q⟩ := q; exact ⟨σ', _, I2.unlock e (I.nofrz hd mu), q⟩
  | brk => obtain ⟨σ', H', I2, e, q⟩ := q; exact ⟨σ', _, I2.unlock e (I.nofrz hd mu), q⟩
  | cont => obtain ⟨σ', H', I2, e, q⟩ := q; exact ⟨σ', _, I2.unlock e (I.nofrz hd mu), q⟩
  | ret v => obtain ⟨x, σ', H', I2, r, e, q⟩ := q; exact ⟨x, σ', _, I2.unlock e (I.nofrz hd mu), r, q⟩
section
variable {K : PySem.W.Frag} {G : Gc} {g g' : Gh} {sl sl' : List Sl} {s s' : Sto} {σ σ' : St} {H H' : Hp} {C d : Addr} {od : Obj} {vs : List (Key × V)} {kvs : List (Key × F)} {w : W} {WW : WX}
abbrev lkG (g : Gh) (d : Addr) (od : Obj) (vs : List (Key × V)) : Gh := { g with La := (d, od, HO.dK vs) :: g.La }
/-- what may be locked -/
@[simp] def lkW : W → Bool
  | .f (.dct _) => true
  | .c _ => true
  | _ => false
theorem celAt_lk {n : Nat} {a : Addr} {c : Ct} (h : CelAt K C g n H a c) (hd : H d = some (.dK vs)) : CelAt K C (lkG g d od vs) n (upd H d (.frz od (.dK vs))) a c := by
  cases c with
  | lst xs =>
    obtain ⟨us, r, e⟩ := h
    exact ⟨us, r, by rw [upd_ne fun z => by rw [z, hd] at e; cases e]; exact e⟩
  | dct ks =>
    obtain ⟨us, r, e | ⟨o, e⟩⟩ := h
    · by_cases z : a = d
      · subst z
        rw [hd] at e; cases e
        exact ⟨_, r, .inr ⟨od, List.mem_cons_self⟩⟩
      · exact ⟨us, r, .inl (by rw [upd_ne z]; exact e)⟩
    · exact ⟨us, r, .inr ⟨o, List.mem_cons_of_mem _ e⟩⟩
  | ins fs =>
    obtain ⟨h1, dx, e⟩ := h
    exact ⟨h1, dx, by rw [upd_ne fun z => by rw [z, hd] at e; cases e]; exact e⟩
  | cls ks =>
    obtain ⟨h1, e⟩ := h
    exact ⟨h1, by rw [upd_ne fun z => by rw [z, hd] at e; cases e]; exact e⟩
theorem Rl.lock (R : Rl K G g sl s σ H) (r : RepW K g s.O.length w (.ref d)) (hw : lkW w = true) (e : pk sl s w = some (.dct kvs)) (hd : H d = some (.dK vs)) : Rl K { G with W := WW } (lkG g d od vs) sl { s with lk := w :: s.lk } σ (upd H d (.frz od (.dK vs))) := by
  have nla : ∀ x ∈ g.La, x.1 ≠ d := fun x hx z => by have := R.lck x hx; rw [z, hd] at this; cases this
  have nG : ∀ a u, G.F a u → a ≠ d := fun a u f z => by
    subst z
    obtain ⟨_, h2, h3, _⟩ := R.frm a u f
    cases w with
    | f x =>
      cases x <;> try cases hw
      simp only [RepW, Rep] at r
      obtain ⟨a', us, q1, q2, _⟩ := r
      cases q1
      rw [h2] at q2; cases q2
    | c k => obtain ⟨q1, q2⟩ := r; cases q2; exact h3 k q1 rfl
    | _ => cases hw
  refine { see := fun a u q => ?_, exa := fun a ks q hl => ?_, cel := fun k c q => ⟨(R.cel k c q).1, celAt_lk (R.cel k c q).2 hd⟩, cin := R.cin, lck := fun x hx => ?_, lkw := .cons ?_ (paired_imp R.lkw fun w x z => z), lnd := ?_, len := R.len, sok := R.sok, exs := R.exs, val := R.val, own := fun i c q => ?_, oni := R.oni, oin := R.oin, frm := fun a u f => ?_, newS := R.newS, newC := R.newC, oldC := R.oldC, n0le := R.n0le, newO := R.newO, dom := fun a h => ?_, subS := R.subS }
  · have z := R.see a u q
    by_cases ad : a = d
    · subst ad
      unfold Sees at z ⊢
      cases u with
      | dK us =>
        have z : Rd H a (.dK us) := z
        rcases z with z | ⟨o, z⟩
        · rw [hd] at z; cases z; exact .inr ⟨od, upd_same⟩
        · rw [hd] at z; cases z
      | lst us => have z : H a = some (.lst us) := z; rw [hd] at z; cases z
      | tup us => have z : H a = some (.tup us) := z; rw [hd] at z; cases z
      | frz o us => have z : H a = some (.frz o us) := z; rw [hd] at z; cases z
      | _ => exact z.elim
    · have q2 : upd H d (.frz od (.dK vs)) a = H a := upd_ne ad
      unfold Sees Rd at z ⊢
      rw [q2]; exact z
  · have ad : a ≠ d := fun z => hl _ List.mem_cons_self z.symm
    rw [upd_ne ad]
    exact R.exa a ks q fun x hx => hl x (List.mem_cons_of_mem _ hx)
  · rcases List.mem_cons.mp hx with rfl | hx
    · exact upd_same
    · rw [upd_ne (nla x hx)]; exact R.lck x hx
  · cases w with
    | f x =>
      cases x <;> try cases hw
      simp only [RepW, Rep] at r
      obtain ⟨a', us, q1, q2, q3⟩ := r
      cases q1
      have z := R.see _ _ q2
      have z : Rd H d (.dK us) := z
      rcases z with z | ⟨o, z⟩
      · rw [hd] at z; cases z
        exact ⟨q2, _, rfl, q3⟩
      · rw [hd] at z; cases z
    | c k => obtain ⟨q1, q2⟩ := r; cases q2; exact ⟨q1, rfl⟩
    | _ => cases hw
  · show (d :: g.La.map (·.1)).Nodup
    rw [List.nodup_cons]
    refine ⟨fun hm => ?_, R.lnd⟩
    obtain ⟨x, hx, e⟩ := List.mem_map.mp hm
    exact nla x hx e
  · obtain ⟨h1, h2, h3, h4⟩ := R.own i c q
    exact ⟨h1, h2, h3, celAt_lk h4 hd⟩
  · obtain ⟨h1, h2⟩ := R.frm a u f
    exact ⟨by rw [upd_ne (nG a u f)]; exact h1, h2⟩
  · by_cases ad : a = d
    · subst ad; rw [upd_same]; simp
    · rw [upd_ne ad]; exact R.dom a h
abbrev unG (g : Gh) (L : List (Addr × Obj × HO)) : Gh := { g with La := L }
theorem celAt_un {n : Nat} {a : Addr} {c : Ct} {L : List (Addr × Obj × HO)} (hL : g.La = (d, od, HO.dK vs) :: L) (h : CelAt K C g n H a c) (hd : H d = some (.frz od (.dK vs))) : CelAt K C (unG g L) n (upd H d (.dK vs)) a c := by
  cases c with
  | lst xs =>
    obtain ⟨us, r, e⟩ := h
    exact ⟨us, r, by rw [upd_ne fun z => by rw [z, hd] at e; cases e]; exact e⟩
  | dct ks =>
    obtain ⟨us, r, e | ⟨o, e⟩⟩ := h
    · exact ⟨us, r, .inl (by rw [upd_ne fun z => by rw [z, hd] at e; cases e]; exact e)⟩
    · rw [hL] at e
      rcases List.mem_cons.mp e with e | e
      · cases e; exact ⟨_, r, .inl upd_same⟩
      · exact ⟨us, r, .inr ⟨o, e⟩⟩
  | ins fs =>
    obtain ⟨h1, dx, e⟩ := h
    exact ⟨h1, dx, by rw [upd_ne fun z => by rw [z, hd] at e; cases e]; exact e⟩
  | cls ks =>
    obtain ⟨h1, e⟩ := h
    exact ⟨h1, by rw [upd_ne fun z => by rw [z, hd] at e; cases e]; exact e⟩
theorem Rl.unlock {L : List (Addr × Obj × HO)} (R : Rl K { G with W := WW } g sl s σ H) (hL : g.La = (d, od, HO.dK vs) :: L) : H d = some (.frz od (.dK vs)) ∧ Rl K G (unG g L) sl { s with lk := s.lk.tail } σ (upd H d (.dK vs)) := by
  have hd : H d = some (.frz od (.dK vs)) := R.lck (d, od, .dK vs) (by rw [hL]; exact List.mem_cons_self)
  have nd := R.lnd
  rw [hL, List.map_cons, List.nodup_cons] at nd
  have nla : ∀ x ∈ L, x.1 ≠ d := fun x hx z => nd.1 (List.mem_map.mpr ⟨x, hx, z⟩)
  obtain ⟨w, r, elk, hw, hr⟩ : ∃ w r, s.lk = w :: r ∧ LkW K g s.O.length w (d, od, HO.dK vs) ∧ Paired (LkW K g s.O.length) r L := by
    have := R.lkw
    rw [hL] at this
    generalize s.lk = l at this
    cases this with
    | cons h t => exact ⟨_, _, rfl, h, t⟩
  have hS : g.S d = some (.dK vs) ∨ g.S d = none := by
    unfold LkW at hw
    split at hw
    · exact .inl hw.1
    · rename_i k
      obtain ⟨c, hc⟩ : ∃ c, s.O[k]? = some c := ⟨_, List.getElem?_eq_getElem hw.1⟩
      have := (R.cel k c hc).1
      rw [hw.2] at this
      exact .inr this
    · exact hw.elim
  have nG : ∀ a u, G.F a u → a ≠ d := fun a u f z => by
    subst z
    obtain ⟨_, h2, h3, _⟩ := R.frm a u f
    unfold LkW at hw
    split at hw
    · rw [h2] at hw; cases hw.1
    · exact h3 _ hw.1 hw.2
    · exact hw
  refine ⟨hd, { see := fun a u q => ?_, exa := fun a ks q hl => ?_, cel := fun k c q => ⟨(R.cel k c q).1, celAt_un hL (R.cel k c q).2 hd⟩, cin := R.cin, lck := fun x hx => ?_, lkw := ?_, lnd := nd.2, len := R.len, sok := R.sok, exs := R.exs, val := R.val, own := fun i c q => ?_, oni := R.oni, oin := R.oin, frm := fun a u f => ?_, newS := R.newS, newC := R.newC, oldC := R.oldC, n0le := R.n0le, newO := R.newO, dom := fun a h => ?_, subS := R.subS }⟩
  · have z := R.see a u q
    by_cases ad : a = d
    · subst ad
      rcases hS with hS | hS
      · have q : g.S a = some u := q
        rw [hS] at q; cases q
        exact .inl upd_same
      · have q : g.S a = some u := q
        rw [hS] at q; cases q
    · have q2 : upd H d (.dK vs) a = H a := upd_ne ad
      unfold Sees Rd at z ⊢
      rw [q2]; exact z
  · by_cases ad : a = d
    · subst ad
      have q : g.S a = some (.dK ks) := q
      rcases hS with hS | hS
      · rw [hS] at q; cases q; exact upd_same
      · rw [hS] at q; cases q
    · rw [upd_ne ad]
      refine R.exa a ks q fun x hx => ?_
      rw [hL] at hx
      rcases List.mem_cons.mp hx with rfl | hx
      · exact fun z => ad z.symm
      · exact hl x hx
  · rw [upd_ne (nla x hx)]
    exact R.lck x (by rw [hL]; exact List.mem_cons_of_mem _ hx)
  · show Paired (LkW K (unG g L) s.O.length) s.lk.tail L
    rw [elk]
    exact paired_imp hr fun w x z => z
  · obtain ⟨h1, h2, h3, h4⟩ := R.own i c q
    exact ⟨h1, h2, h3, celAt_un hL h4 hd⟩
  · obtain ⟨h1, h2⟩ := R.frm a u f
    exact ⟨by rw [upd_ne (nG a u f)]; exact h1, h2⟩
  · by_cases ad : a = d
    · subst ad; rw [upd_same]; simp
    · rw [upd_ne ad]; exact R.dom a h
end
end Fm

/-! FT: loops and comprehensions over dicts. -/
namespace Fm
open PySem L2
/-- behind the loop the dict is free again -/
def unD (X : Cx) (D : Ends) : Ends :=
  ⟨fun σ H => ∃ d od u, H d = some (.frz od u) ∧ (∀ o' u', X.H_0 d ≠ some (.frz o' u')) ∧ D.nx σ (upd H d u), fun v H => ∃ d od u, H d = some (.frz od u) ∧ (∀ o' u', X.H_0 d ≠ some (.frz o' u')) ∧ D.rt v (upd H d u),
   fun σ H => ∃ d od u, H d = some (.frz od u) ∧ (∀ o' u', X.H_0 d ≠ some (.frz o' u')) ∧ D.bk σ (upd H d u), fun σ H => ∃ d od u, H d = some (.frz od u) ∧ (∀ o' u', X.H_0 d ≠ some (.frz o' u')) ∧ D.ct σ (upd H d u)⟩
def unW (X : Cx) (W : WX) : WX := fun c x σ H => ∃ d od u, H d = some (.frz od u) ∧ (∀ o' u', X.H_0 d ≠ some (.frz o' u')) ∧ W c x σ (upd H d u)
theorem takes_un {X : Cx} {W : WX} (tk : Takes X W) : Takes X (unW X W) :=
  fun v s' ⟨a, B, sI, pins, σ, H, cls, x, e, I, nb, up, sky, na, os, ag, d, od, u, w1, hn, w2⟩ => tk v s' ⟨a, B, sI, pins, σ, upd H d u, cls, x, e, I.unlock w1 hn, nb, up, sky, by
    rw [upd_ne fun z => by rw [z, w1] at na; cases na]; exact na, os, ag, w2⟩
theorem ps_un {X : Cx} {st : Stmt} {t : TS} (h : PS X st t) : PS X st (fun D σ H => t (unD X D) σ H) := by
  refine ⟨fun pins s σ H D I hw => ?_⟩
  refine thn (h.run pins s σ H _ I hw) fun f s1 q => ?_
  cases f with
  | next => obtain ⟨σ', H', I2, d, od, u, e, hn, q⟩ := q; exact ⟨σ', _, I2.unlock e hn, q⟩
  | brk => obtain ⟨σ', H', I2, d, od, u, e, hn, q⟩ := q; exact ⟨σ', _, I2.unlock e hn, q⟩
  | cont => obtain ⟨σ', H', I2, d, od, u, e, hn, q⟩ := q; exact ⟨σ', _, I2.unlock e hn, q⟩
  | ret v => obtain ⟨x, σ', H', I2, r, d, od, u, e, hn, q⟩ := q; exact ⟨x, σ', _, I2.unlock e hn, r, q⟩
theorem pe_un {X : Cx} {e : Expr} {t : TE} (h : PE X e t) : PE X e (fun σ H Q => t σ H fun v H' => ∃ d od u, H' d = some (.frz od u) ∧ (∀ o' u', X.H_0 d ≠ some (.frz o' u')) ∧ Q v (upd H' d u)) := by
  refine ⟨fun pins s σ H Q I hw => ?_⟩
  refine thn (h.run pins s σ H _ I hw) fun f s1 q => ?_
  obtain ⟨v, H', I2, r, d, od, u, e, hn, q⟩ := q
  exact ⟨v, _, I2.unlock e hn, r, q⟩
def iKeysL (X : Cx) (td : TE) : TI := fun σ H R => td σ H fun x H1 => ∃ d kvs, x = .ref d ∧ H1 d = some (.dK kvs) ∧ ∀ od, (∀ o' u', X.H_0 d ≠ some (.frz o' u')) → R (Itk d od kvs) (upd H1 d (.frz od (.dK kvs)))
theorem pi_keysL {X : Cx} {tg e : Expr} {td : TE} (he : PE X e td) : PI X tg e (iKeysL X td) := by
  refine ⟨fun pins s σ H R I h => ?_⟩
  refine thn (he.run pins s σ H _ I h) fun u s1 ⟨x, H1, I1, rx, d, kvs, ex, hd, q⟩ => ?_
  subst ex
  obtain rfl : u = Value.ref d := rx
  obtain ⟨od, I2⟩ := I1.lock hd trivial
  have hd2 : upd H1 d (.frz od (.dK kvs)) d = some (.frz od (.dK kvs)) := upd_same
  obtain ⟨hs, hgd, hx, es, ep, vs, hdt, hsz, kv, hm⟩ := I2.frzK hd2
  refine iter_keys hs hgd hx hdt (pi_one (tk := s1.toks) I2 _ (turn_keys _ hdt) ⟨_, Heap.get?_push_size _ rfl, rfl, ?_⟩ (q od (I1.nofrz hd trivial)))
  rw [hsz] <;> rfl
/-- two dicts that do not stand at one place -/
def difD (ks kvs : List (Key × F)) : Bool := !decide (ks.map (·.1) = kvs.map (·.1)) || (ks.all (fun p => flatF p.2) != kvs.all (fun p => flatF p.2))
theorem flat_all {K : PySem.W.Frag} {S : Hp} : ∀ {ks kvs : List (Key × F)} {vs : List (Key × V)}, RepK K S ks vs → RepK K S kvs vs → ks.all (fun p => flatF p.2) = kvs.all (fun p => flatF p.2)
  | [], [], _, _, _ => rfl
  | [], (_, _) :: _, _, h, k => by simp only [RepK] at h; subst h; simp only [RepK] at k; obtain ⟨_, _, e, _⟩ := k; cases e
  | (_, _) :: _, [], _, h, k => by simp only [RepK] at k; subst k; simp only [RepK] at h; obtain ⟨_, _, e, _⟩ := h; cases e
  | (l, x) :: ks, (m, y) :: kvs, _, h, k => by
    simp only [RepK] at h k
    obtain ⟨v, r, rfl, q, t⟩ := h
    obtain ⟨v', r', e, q', t'⟩ := k
    cases e
    have : flatF x = flatF y := by
      cases x <;> cases y <;> simp only [Rep] at q q' <;> first | rfl | (subst q; first | (cases q'; done) | (obtain ⟨_, e, _⟩ := q'; cases e; done) | (obtain ⟨_, _, e, _⟩ := q'; cases e; done)) | (subst q'; first | (obtain ⟨_, e, _⟩ := q; cases e; done) | (obtain ⟨_, _, e, _⟩ := q; cases e; done))
    rw [List.all_cons, List.all_cons, this, flat_all t t']
theorem difD_not {K : PySem.W.Frag} {S : Hp} {ks kvs : List (Key × F)} {vs : List (Key × V)} (h : RepK K S ks vs) (k : RepK K S kvs vs) : difD ks kvs = false := by
  unfold difD
  rw [h.keys, k.keys, flat_all h k]
  simp
/-- w's dict is locked by none -/
def unlk (w : W) (lk : List W) : Bool := match w with
  | .f (.dct kvs) => lk.all fun z => match z with
    | .f (.dct ks) => difD ks kvs
    | _ => true
  | .c k => !lkd k lk
  | _ => false
def RS.unl : RS → RS
  | .nx sl s => .nx sl { s with lk := s.lk.tail }
  | .rt y s => .rt y { s with lk := s.lk.tail }
  | .bk sl s => .bk sl { s with lk := s.lk.tail }
  | .ct sl s => .ct sl { s with lk := s.lk.tail }
  | .exc c sl s => .exc c sl { s with lk := s.lk.tail }
  | .bad => .bad
@[simp] theorem RS.unl_nx (sl : List Sl) (s : Sto) : (RS.nx sl s).unl = .nx sl { s with lk := s.lk.tail } := rfl
@[simp] theorem RS.unl_rt (y : Y) (s : Sto) : (RS.rt y s).unl = .rt y { s with lk := s.lk.tail } := rfl
@[simp] theorem RS.unl_exc (c : Str) (sl : List Sl) (s : Sto) : (RS.exc c sl s).unl = .exc c sl { s with lk := s.lk.tail } := rfl
@[simp] def keysF (kvs : List (Key × F)) : List F := kvs.map fun p => kF p.1
/-- what is walked: a dict -/
def dW (m : M) (sl : List Sl) (s : Sto) : R (W × List (Key × F)) := (m sl s).bind fun y s1 => match pk sl s1 (frz y) with
  | some (.dct kvs) => if unlk (frz y) s1.lk then .ok (frz y, kvs) s1 else .bad
  | _ => .bad
def sForD (i : Nat) (m : M) (body : MS) : MS := fun sl s => (dW m sl s).st sl fun p s1 => (loopF i body (keysF p.2) sl { s1 with lk := p.1 :: s1.lk }).unl
section
variable {K : PySem.W.Frag} {G : Gc} {g g' : Gh} {sl sl' : List Sl} {s s' : Sto} {σ σ' : St} {H H' : Hp} {C d : Addr} {od : Obj} {vs : List (Key × V)} {kvs : List (Key × F)} {w : W} {WW : WX}
theorem unlk_lkW (h : unlk w s.lk = true) : lkW w = true := by
  cases w with
  | f x => cases x <;> first | rfl | cases h
  | c k => rfl
  | _ => cases h
/-- what is free may be locked -/
theorem Rl.plainD (R : Rl K G g sl s σ H) {v : V} (r : RepW K g s.O.length w v) (e : pk sl s w = some (.dct kvs)) (hu : unlk w s.lk = true) : ∃ d vs, v = .ref d ∧ H d = some (.dK vs) ∧ RepK K g.S kvs vs := by
  cases w with
  | f x =>
    cases x <;> try cases hu
    rename_i ks
    have e' : F.dct ks = .dct kvs := by simpa using e
    cases e'
    simp only [RepW, Rep] at r
    obtain ⟨a, us, rfl, hs, hr⟩ := r
    refine ⟨a, us, rfl, R.exa a us hs fun x hx z => ?_, hr⟩
    obtain ⟨w', hw, q⟩ := paired_mem R.lkw x hx
    have hu' := List.all_eq_true.mp (show (s.lk.all fun z => match z with
      | .f (.dct ks) => difD ks kvs
      | _ => true) = true from hu) w' hw
    unfold LkW at q
    split at q
    · rename_i ks
      obtain ⟨q1, us', q2, q3⟩ := q
      rw [z, hs, q2] at q1
      cases q1
      simp only [difD_not q3 hr] at hu'
      cases hu'
    · rename_i k
      have hk : k < s.O.length := q.1
      have := (R.cel k _ (List.getElem?_eq_getElem hk)).1
      rw [q.2, z, hs] at this; cases this
    · exact q
  | c k =>
    have hu' : lkd k s.lk = false := by simpa [unlk] using hu
    simp only [pk] at e
    split at e
    · cases e
    · rename_i d ed
      cases e
      obtain ⟨_, vs, hr, hd | ⟨od, hd⟩⟩ := R.cel k _ ed
      · exact ⟨_, vs, r.2, hd, hr⟩
      · exact absurd rfl (R.toRlH.la_cel ed hu' _ hd)
    · cases e
  | _ => cases hu
theorem keysF_len {S : Hp} (h : RepK K S kvs vs) : (keysF kvs).length = vs.length := by
  simp only [keysF, List.length_map]; exact h.length
theorem itk_ok {g : Gh} {S : Hp} (h : RepK K S kvs vs) (hm : (d, od, HO.dK vs) ∈ g.La) : ItOk K g (keysF kvs) (Itk d od vs) := by
  have el : ∀ g3 H3, Ex g g3 H3 → H3 d = some (.frz od (.dK vs)) := fun g3 H3 ex => ex.2.2.2 _ hm
  refine ⟨fun i g3 H3 hi ex => ⟨el g3 H3 ex, by rw [← keysF_len h]; exact hi⟩, fun i g3 H3 x H' hi ex y => ?_, fun g3 H3 ex => ⟨el g3 H3 ex, Nat.le_of_eq (keysF_len h).symm⟩⟩
  obtain ⟨y1, k, v, hk, rfl⟩ := y
  refine ⟨y1, kF k, ?_, ?_⟩
  · have := congrArg (fun l => l[i]?) h.keys
    simp only [List.getElem?_map, hk] at this
    simp only [keysF, List.getElem?_map]
    cases e : kvs[i]? with
    | none => rw [e] at this; cases this
    | some p => rw [e] at this; simp at this; simp [this]
  · cases k <;> simp only [kF, kV, Rep]
/-- from locked to free -/
theorem okS_unl {X : Cx} {D : Ends} {r : RS} (hn : ∀ o' u', X.H_0 d ≠ some (.frz o' u')) (h : OkS K G g s D r.unl) : OkS K { G with W := unW X G.W } (lkG g d od vs) { s with lk := w :: s.lk } (unD X D) r := by
  have le : ∀ {g2 : Gh}, Le (lkG g d od vs) g2 s.O.length → Le g (unG g2 g.La) s.O.length := fun {g2} l => ⟨l.sub, l.rc, rfl⟩
  cases r with
  | bad => exact h
  | nx sl s' =>
    intro g' σ' H' l n R
    obtain ⟨h1, R2⟩ := Rl.unlock R l.la
    exact ⟨d, od, _, h1, hn, h _ σ' _ (le l) n R2⟩
  | bk sl s' =>
    intro g' σ' H' l n R
    obtain ⟨h1, R2⟩ := Rl.unlock R l.la
    exact ⟨d, od, _, h1, hn, h _ σ' _ (le l) n R2⟩
  | ct sl s' =>
    intro g' σ' H' l n R
    obtain ⟨h1, R2⟩ := Rl.unlock R l.la
    exact ⟨d, od, _, h1, hn, h _ σ' _ (le l) n R2⟩
  | exc c sl s' =>
    intro g' σ' H' l n R
    obtain ⟨h1, R2⟩ := Rl.unlock R l.la
    exact ⟨d, od, _, h1, hn, h _ σ' _ (le l) n R2⟩
  | rt y s' =>
    intro v g' sl' σ' H' l n R r
    obtain ⟨h1, R2⟩ := Rl.unlock R l.la
    refine ⟨d, od, _, h1, hn, h v _ sl' σ' _ (le l) n R2 ?_⟩
    cases y with
    | w x => cases x <;> exact r
    | fr c =>
      obtain ⟨p, rfl, f1, f2, f3, f4, f5, f6, f7⟩ := r
      have nd : p ≠ d := fun z => f5 (d, od, HO.dK vs) (by rw [l.la]; exact List.mem_cons_self) z.symm
      exact ⟨p, rfl, f1, f2, f3, f4, fun x hx => f5 x (by rw [l.la]; exact List.mem_cons_of_mem _ hx), celAt_un l.la f6 h1, f7⟩
end
section
variable {X : Cx} {G : Gc} {C : Addr} {cls : Str → Addr} {tg e : Expr} {pos p : Pos} {md : M} {mb : MS} {body : List Stmt}
theorem ds_forD (i : Nat) {x : Str} (o : GOk X C cls G) (hN : X.N.Nodup) (hi : X.N[i]? = some x) (hx : Loc X.env.scope x) (hp : PassesOwn (model X.prog X.w) X.A X.env X.xe) (hc : X.calm = true) (hd : DE X G e md) (hb : ∀ G, GOk X C cls G → DSs X G body mb)
    (hf : X.fn x = true ∨ X.env.scope.names.lookup x = some .local := by first | exact .inl rfl | exact .inr rfl) (hs : ∀ x, foldedSetIterable e X.env x = pure x := by intro _; rfl) : DS X G (.For (.Name x p) e body [] pos) (sForD i md mb) :=
  (ps_un (ps_for hp hc (pi_keysL hd) (pg_name hN hi hx hf) (hb { G with W := unW X G.W } ⟨o.c, o.l, o.xs, takes_un o.tk⟩) hs)).wk fun D σ H ⟨g, sl, s, R, h⟩ => by
    refine ⟨g, sl, s, R, ?_⟩
    simp only [sForD, dW] at h
    cases e : md sl s with
    | bad => rw [e] at h; exact h
    | exc c s' => rw [e] at h; exact fun g' H' a b c => h g' σ H' a.toLe b c
    | ok y s' =>
      rw [e] at h
      simp only [Fm.R.bind_ok] at h
      intro v g1 H1 l1 n1 R1 r1
      obtain ⟨g2, l2, R2, r2⟩ := R1.freeze r1
      split at h
      · rename_i kvs ek
        split at h
        · rename_i hu
          obtain ⟨d, vs, rfl, hd, hr⟩ := R2.plainD r2 ek hu
          refine ⟨d, vs, rfl, hd, fun od hn => ?_⟩
          have h2 := OkS.back (s1 := s') h (l1.trans l2 n1).toLe n1
          exact for_any (G := { G with W := unW X G.W }) (show ({ G with W := unW X G.W } : Gc).fr i from o.fr) (R2.lock r2 (unlk_lkW hu) ek hd) (itk_ok hr List.mem_cons_self) (okS_unl hn h2)
        · exact h.elim
      · exact h.elim
end
end Fm

/-! FU: comprehensions over dicts. -/
namespace Fm
open PySem L2
section
variable {X : Cx} {G : Gc} {C : Addr} {cls : Str → Addr}
theorem lc_core {mt me : M} {i : Nat} {σ : St} {H1 : Hp} {Q : VK} {g1 : Gh} {sl : List Sl} {s1 s2 : Sto} {items zs : List F} {J : It} {D : Addr} (hC : G.C = C) (hcl : G.cls = cls) (hxs : G.xs = none) (R1 : Rl X.K G g1 sl s1 σ H1) (ok : ItOk X.K g1 items J) (no : slNoOwn sl[i]? = true)
    (ez : compF i mt me items (sl.set i .no) s1 = .ok zs s2) (hz : zs.length ≤ sizeLine) (hD : H1 D = none) (fin : ∀ g' H', LeO g1 g' s1.O.length → s1.O.length ≤ s2.O.length → Rl X.K G g' sl s2 σ H' → RepY X.K G g' sl s2 H' (.fr (.lst zs)) (.ref D) → Q (.ref D) H') :
    ∃ W : Nat → Nat → Hp → Prop, (∃ m, W 0 m (upd H1 D (.lst []))) ∧ ∀ n m H, W n m H →
      (J.stop n H ∧ Q (.ref D) H) ∨ (J.go n H ∧ ∃ Nx : Hp → Prop, (∀ H', Nx H' → ∃ m', m' < m ∧ W (n + 1) m' H') ∧ ∀ x H', J.yld n H x H' → gName i x (wipe σ [i]) H' fun σ2 H2 => wipe σ2 [i] = wipe σ [i] ∧ tT0 X.K C cls mt σ2 H2 fun b H3 =>
        if b = true then tE0 X.K C cls me σ2 H3 fun y H4 => ∃ acc, H4 D = some (.lst acc) ∧ acc.length < sizeLine ∧ Nx (upd H4 D (.lst (acc ++ [y]))) else Nx H3) := by
  have q0 := R1.H0_none hD
  have qS := R1.S0_none (R1.S_none hD)
  have qc := R1.rc0_ne (R1.rc_ne hD)
  have Rb : Rl X.K ({ G with W := W0 }.hide D (.lst [])) g1 (sl.set i .no) s1 (σ.set i none) (upd H1 D (.lst [])) := ((R1.setNo (i := i) (v := none) (Gc.fr_of hxs)).wish (W := W0)).hide hD
  refine ⟨fun n m H => m = items.length - n ∧ n ≤ items.length ∧ ∃ g' s' acc as zs', LeO g1 g' s1.O.length ∧ s1.O.length ≤ s'.O.length ∧ Rl X.K ({ G with W := W0 }.hide D (.lst acc)) g' (sl.set i .no) s' (σ.set i none) H ∧ Reps X.K g'.S as acc ∧
    compF i mt me (items.drop n) (sl.set i .no) s' = .ok zs' s2 ∧ as ++ zs' = zs, ⟨items.length, by simp, Nat.zero_le _, g1, s1, [], [], zs, .rfl, Nat.le_refl _, Rb, .nil, by simpa using ez, rfl⟩, ?_⟩
  rintro n m H ⟨rfl, hn, g', s', acc, as, zs', l', n', R', ra, ec, ea⟩
  have ex := R'.ex l'.toLe
  by_cases hlt : n < items.length
  · refine .inr ⟨ok.go n g' H hlt ex, fun H => n + 1 ≤ items.length ∧ ∃ g' s' acc as zs', LeO g1 g' s1.O.length ∧ s1.O.length ≤ s'.O.length ∧ Rl X.K ({ G with W := W0 }.hide D (.lst acc)) g' (sl.set i .no) s' (σ.set i none) H ∧ Reps X.K g'.S as acc ∧
      compF i mt me (items.drop (n + 1)) (sl.set i .no) s' = .ok zs' s2 ∧ as ++ zs' = zs, fun H' z => ⟨items.length - (n + 1), by omega, rfl, z.1, z.2⟩, fun x H' y => ?_⟩
    obtain ⟨rfl, y, hy, ry⟩ := ok.yld n g' H x H' hlt ex y
    rw [drop_get hy] at ec
    have Rt : Rl X.K ({ G with W := W0 }.hide D (.lst acc)) g' ((sl.set i .no).set i (Sl.v (.f y))) s' ((σ.set i none).set i (some x)) H' := R'.setV (w := .f y) (Rep.sub l'.sub _ _ ry) rfl (Gc.fr_of hxs)
    refine ⟨by show ((σ.set i none).set i (some x)).set i none = σ.set i none; rw [set_get, set_get], ({ G with W := W0 }.hide D (.lst acc)), hC, hcl, hxs, rfl, g', _, s', Rt, ?_⟩
    rcases compF_cons ec with ⟨s3, et, er⟩ | ⟨s3, z, s4, zf, zr, et, ee, ef, er, rfl⟩
    · rw [et]
      intro g2 H2 l2 n2 R2
      refine iteF ⟨hlt, g2, s3, acc, as, zs', l'.trans l2 n', Nat.le_trans n' n2, ?_, Reps.sub l2.sub _ _ ra, er, ea⟩
      have := R2.setNo (i := i) (v := none) (Gc.fr_of hxs)
      rw [set_get, set_get, set_get, show List.set (wipe σ [i]) i none = σ.set i none from set_get] at this
      exact this
    · rw [et]
      intro g2 H2 l2 n2 R2
      refine iteT ⟨({ G with W := W0 }.hide D (.lst acc)), hC, hcl, hxs, rfl, g2, _, s3, R2, ?_⟩
      rw [ee]
      intro v g3 H3 l3 n3 R3 r3
      obtain ⟨g4, l4, R4, r4⟩ := R3.freeze r3
      rw [ef] at r4
      have R5 := R4.setNo (i := i) (v := none) (Gc.fr_of hxs)
      rw [set_get, set_get, set_get, show List.set (wipe σ [i]) i none = σ.set i none from set_get] at R5
      obtain ⟨R6, hH, hS, hrc, hro⟩ := R5.bare q0 qS qc
      have l24 := l2.trans (l3.trans l4 n3) n2
      refine ⟨acc, hH, ?_, hlt, g4, s4, acc ++ [v], as ++ [zf], zr, l'.trans l24 n', Nat.le_trans n' (Nat.le_trans n2 n3), R6.watch hS hrc hro q0, (Reps.sub l24.sub _ _ ra).append (.one r4), er, by rw [← ea, List.append_assoc]; rfl⟩
      have : zs.length = as.length + (zr.length + 1) := by rw [← ea, List.length_append, List.length_cons]
      rw [← ra.length]; omega
  · have e9 : n = items.length := by omega
    subst e9
    rw [List.drop_length] at ec
    unfold compF at ec
    cases ec
    rw [List.append_nil] at ea
    subst ea
    obtain ⟨R6, hH, hS, hrc, hro⟩ := R'.bare q0 qS qc
    have R7 := R1.unwipe no l' n' (R6.wish')
    refine .inl ⟨ok.stop g' H ex, fin g' H l' n' R7 ⟨D, rfl, hS, hrc, ?_, q0, R6.toRlH.la_ne' hS hrc, ⟨acc, ra, hH⟩, fun fs z => by cases z⟩⟩
    intro j d ej
    have ne : j ≠ i := fun z => by rw [z] at ej; rw [ej] at no; cases no
    exact hro j d (by rw [List.getElem?_set_ne (fun z => ne z.symm)]; exact ej)
/-- [e for x in d if t] -/
def mLcD (i : Nat) (m : M) (t e : M) : M := fun sl s => if slNoOwn sl[i]? then (dW m sl s).bind fun p s1 => match compF i t e (keysF p.2) (sl.set i .no) { s1 with lk := p.1 :: s1.lk } with
    | .ok zs s2 => if zs.length ≤ sizeLine then .ok (.fr (.lst zs)) { s2 with lk := s2.lk.tail } else .bad
    | _ => .bad
  else .bad
theorem lcD_go {md mt me : M} {i : Nat} (o : GOk X C cls G) {σ : St} {H : Hp} {Q : VK} (h : tD X.K G (mLcD i md mt me) σ H Q) : tLc (iKeysL X (tD X.K G md)) (gName i) (tT0 X.K C cls mt) (tE0 X.K C cls me) [i] σ H fun v H' => ∃ d od u, H' d = some (.frz od u) ∧ (∀ o' u', X.H_0 d ≠ some (.frz o' u')) ∧ Q v (upd H' d u) := by
  obtain ⟨g, sl, s, R, h⟩ := h
  simp only [mLcD, dW] at h
  split at h
  case isFalse => exact h.elim
  rename_i no
  refine ⟨g, sl, s, R, ?_⟩
  cases e : md sl s with
  | bad => rw [e] at h; exact h
  | exc c s' => rw [e] at h; exact h
  | ok y s' =>
    rw [e] at h
    simp only [Fm.R.bind_ok] at h
    intro v g1 H1 l1 n1 R1 r1
    obtain ⟨g2, l2, R2, r2⟩ := R1.freeze r1
    split at h
    case h_2 => exact h.elim
    rename_i kvs ek
    split at h
    case isFalse => exact h.elim
    rename_i hu
    obtain ⟨d, vs, rfl, hd, hr⟩ := R2.plainD r2 ek hu
    refine ⟨d, vs, rfl, hd, fun od hn D hD => ?_⟩
    simp only [Fm.R.bind_ok] at h
    split at h
    case h_2 => exact h.elim
    rename_i zs s2 ez
    split at h
    case isFalse => exact h.elim
    rename_i hz
    refine lc_core (Q := fun v H' => ∃ d od u, H' d = some (.frz od u) ∧ (∀ o' u', X.H_0 d ≠ some (.frz o' u')) ∧ Q v (upd H' d u)) (G := { G with W := W0 }) o.c o.l o.xs (R2.lock r2 (unlk_lkW hu) ek hd) (itk_ok hr List.mem_cons_self) no ez hz hD fun g' H' l n R' r' => ?_
    obtain ⟨h1, R3⟩ := Rl.unlock R' l.la
    refine ⟨d, od, _, h1, hn, h (.ref D) _ _ ((l1.trans l2 n1).trans (show LeO g2 (unG g' g2.La) s'.O.length from ⟨⟨l.sub, l.rc, rfl⟩, l.ro⟩) n1) (Nat.le_trans n1 n) R3 ?_⟩
    obtain ⟨p, e2, f1, f2, f3, f4, f5, f6, f7⟩ := r'
    cases e2
    exact ⟨D, rfl, f1, f2, f3, f4, fun x hx => f5 x (by rw [l.la]; exact List.mem_cons_of_mem _ hx), celAt_un l.la f6 h1, f7⟩
theorem de_lcD {x : Str} {elt tg iter : Expr} {ifs : List Expr} {scope : Scope} {pos : Pos} {md mt me : M} (i : Nat) (o : GOk X C cls G) (hc : X.calm = true) (hN : X.N.Nodup) (hi : DE X G iter md) (ok : BlkOk X.N X.env.scope scope [(x, i)])
    (hg : ∀ (s : Shared) (H : Hp) (Ca : Addr) (cl : List (Str × Addr)) (fp : List Addr), PG (X.blk s H scope (compEnvC scope cl Ca X.env) fp) tg (gName i))
    (ht : ∀ (s : Shared) (H : Hp) (Ca : Addr) (cl : List (Str × Addr)) (fp : List Addr), DTs (X.blk s H scope (compEnvC scope cl Ca X.env) fp) C cls ifs mt)
    (he : ∀ (s : Shared) (H : Hp) (Ca : Addr) (cl : List (Str × Addr)) (fp : List Addr) (G : Gc), GOk (X.blk s H scope (compEnvC scope cl Ca X.env) fp) C cls G → DE (X.blk s H scope (compEnvC scope cl Ca X.env) fp) G elt me)
    (hs : ∀ x, foldedSetIterable iter X.env x = pure x := by intro _; rfl) : DE X G (.ListComp elt [⟨tg, iter, ifs, 0⟩] scope pos) (mLcD i md mt me) :=
  (pe_un (pe_lc (tt := tT0 X.K C cls mt) (te := tE0 X.K C cls me) hc hN (pi_keysL hi) ok hg ht (fun s H Ca cl fp => pe_tE0 (he s H Ca cl fp)) hs)).wk fun σ H Q h => lcD_go o h
end
end Fm

/-! FV: try with several clauses, named or not. -/
namespace L2
open PySem PySem.Spec PyProof.Rows
abbrev Cl := Value × Option Nat × (Addr → Value → Option Addr → TS)
/-- behind a suite that has a name -/
def endN (i : Nat) (D : Ends) : Ends := { nx := fun σ' H' => D.nx (σ'.set i none) H', rt := D.rt, bk := fun σ' H' => D.bk (σ'.set i none) H', ct := fun σ' H' => D.ct (σ'.set i none) H' }
def wGen (K : PySem.W.Frag) (Wout : WX) (D : Ends) : List Cl → WX
  | [] => Wout
  | (c, none, ts) :: r => fun cls d σ H => ∃ b, PySem.W.exmOne K cls c = some b ∧ (b = true → ∀ a, H a = none → ts a cls d D σ H) ∧ (b = false → wGen K Wout D r cls d σ H)
  | (c, some i, ts) :: r => fun cls d σ H => ∃ b, PySem.W.exmOne K cls c = some b ∧ (b = true → ∀ a, H a = none → ts a cls d (endN i D) (σ.set i (some (.ref a))) H) ∧ (b = false → wGen K Wout D r cls d σ H)
inductive HdG (X : Cx) : List ExceptHandler → List Cl → Prop
  | nil : HdG X [] []
  | cons {x : Str} {c : Value} {ts : Addr → Value → Option Addr → TS} {b₀ : Stmt} {suite : List Stmt} {np pos' : Pos} {hds : List ExceptHandler} {l : List Cl} (hc : Names X x c)
      (hsu : ∀ (a : Addr) (oe : Obj) (cls : Value) (d : Option Addr) (pn : List (Addr × Obj)), Zc cls d oe → (∃ vs, oe.data = .fields vs) → PSs (X.suite a ((a, oe) :: pn)) (b₀ :: suite) (ts a cls d)) (r : HdG X hds l) :
      HdG X (.ExceptHandler (some (.Name x np)) none (b₀ :: suite) pos' :: hds) ((c, none, ts) :: l)
  | consN {x n : Str} {i : Nat} {c : Value} {ts : Addr → Value → Option Addr → TS} {b₀ : Stmt} {suite : List Stmt} {np pos' : Pos} {hds : List ExceptHandler} {l : List Cl} (hN : X.N.Nodup) (hi : X.N[i]? = some n) (hln : X.env.kindOf n = some .local) (hc : Names X x c)
      (hsu : ∀ (a : Addr) (oe : Obj) (cls : Value) (d : Option Addr) (pn : List (Addr × Obj)), Zc cls d oe → (∃ vs, oe.data = .fields vs) → PSs (X.suite a ((a, oe) :: pn)) (b₀ :: suite) (ts a cls d)) (r : HdG X hds l) :
      HdG X (.ExceptHandler (some (.Name x np)) (some n) (b₀ :: suite) pos' :: hds) ((c, some i, ts) :: l)
section
variable {X : Cx} {body : List Stmt} {h₀ : ExceptHandler} {hds : List ExceptHandler} {l : List Cl} {pos : Pos} {tb : WX → TS} {Wout : WX}
theorem ps_try_gen (hs : X.stack = X.env :: X.outer) (hf : X.env.frame = some X.env.locals) (tk : Takes X Wout)
    (hb : ∀ (W : WX) (pn : List (Addr × Obj)) (xe : Value → Shared → Prop), Takes (X.tr pn xe) W → PassesOwn (model X.prog X.w) X.A X.env xe → PSs (X.tr pn xe) body (tb W))
    (hh : HdG X (h₀ :: hds) l) : PS X (.Try body (h₀ :: hds) [] [] pos) (fun D σ H => tb (wGen X.K Wout D l) D σ H) := by
  refine ⟨fun pins s σ H D I h => ?_⟩
  have ok := I.ok
  have hfr : X.A.frames = some (X.env :: X.outer) := by rw [ok.frames, hs]
  refine wpAny_Try_except ?_
  refine wpAny_mono ((hb (wGen X.K Wout D l) (X.pn ++ pins) (fun e s₁ => wpAny (model X.prog X.w) X.A (noteFrame e X.env) (fun _ s₂ => wpAny (model X.prog X.w) X.A (setFlight e none) (fun _ s₃ =>
    wpAny (model X.prog X.w) X.A (handleBy e X.env (h₀ :: hds)) (SP X pins D) X.xe s₃) X.xe s₂) X.xe s₁) (fun u s' xx => ?_) PassesOwn.looking).run [] s σ H D (I.toTry _) h) (fun f s1 hsp => ?_) (fun e s1 he => he)
  · -- the catch
    obtain ⟨a, B, sI, pins', σ', H', cls, d, rfl, J', nb, up, sky, na, os, ag, w⟩ := xx
    have J : Inv X pins σ' H' sI := J'.ofTry ok
    have sky' : Sky B (X.env :: X.outer) a (Zc cls d) X.env.locals s'.heap := by rw [← hs]; exact sky
    show wpAny (model X.prog X.w) X.A (noteFrame (.ref a) X.env) _ _ _
    refine Sky.land Zc.steady hfr hf sky' fun h3 fl3 up3 => ?_
    have J3 : Inv X pins σ' H' { s' with heap := h3 } := J.landed nb fl3.1 (up.trans up3) os ag
    obtain ⟨oe3, vs3, he3, hz3, hd3⟩ := fl3.there
    have notFr : ∀ {h : Heap} {o : Obj} {vs : Array Value}, h.FunFrames B (X.env :: X.outer) → h.get? a = some o → o.data = .fields vs → a ∉ frs (X.env :: X.outer) := fun {h o vs} ff e dd hm => by
      obtain ⟨_, o', e', hnf⟩ := ff.mem hm
      rw [e] at e'; cases e'
      exact hnf _ dd
    have nfr := notFr fl3.2.2.1 he3 hd3
    have nL : a ≠ X.env.locals := fun z => nfr (List.mem_filterMap.mpr ⟨X.env, List.mem_cons_self, by rw [hf, z]⟩)
    have nF : a ∉ X.fs := fun hm => by
      obtain ⟨e, he, q⟩ := List.mem_filterMap.mp hm
      exact nfr (List.mem_filterMap.mpr ⟨e, List.mem_cons_of_mem _ he, q⟩)
    have S3 := J3.suite he3 hd3 na nL nF
    have LT : PySem.W.Looks (model X.prog X.w) h3 (typeOf (.ref a)) cls := fun A Q E s k q => wpAny_typeOf_ref (k _ _ he3) (by rw [hz3.1]; exact q)
    have test : ∀ {x : Str} {c : Value} {np : Pos}, Names X x c → ∀ {Q : Value → Shared → Prop} {E : Value → Shared → Prop}, Q c { s' with heap := h3 } → wpAny (model X.prog X.w) (X.A.mark (some (.ref a))) (eval (.Name x np) X.env) Q E { s' with heap := h3 } := fun {x c np} hc {Q E} q => by
      obtain ⟨hg, hdbg, hm | ⟨hm, hv, hnn⟩⟩ := hc
      · exact ld_glob (X := X.suite a ((a, oe3) :: (X.pn ++ pins))) S3 hg hm q hdbg
      · exact ld_blt (X := X.suite a ((a, oe3) :: (X.pn ++ pins))) S3 hg hm hv q hnn hdbg
    have go : ∀ {hds' : List ExceptHandler} {l' : List Cl}, HdG X hds' l' → wGen X.K Wout D l' cls d σ' H' →
        wpAny (model X.prog X.w) X.A (handleBy (.ref a) X.env hds') (SP X pins D) X.xe { s' with heap := h3 } := by
      intro hds' l' hk
      induction hk with
      | nil =>
        intro w
        refine wpAny_handleBy_nil ?_
        obtain ⟨k1, k2, k3, oe, vs, T, oT, ts', he, hz, hd, h1, hr⟩ := id fl3
        unfold PySem.passOn
        refine wpAny_bind (wpAny_field he hd h1 ?_)
        rw [if_neg (show ¬ ((Value.ref T == Value.none) = true) from by simp)]
        have fin : wpAny (model X.prog X.w) X.A (setFlight (.ref a) X.env.frame) (fun _ s4 => wpAny (model X.prog X.w) X.A (throw (.ref a) : Sem Flow) (SP X pins D) X.xe s4) X.xe { s' with heap := h3 } := by
          rw [hf]
          refine HandSPX.setFlight_upZ fl3 fun h4 hh4 up4 => wpAny_throw (tk _ _ ?_)
          exact ⟨a, B, sI, pins, σ', H', cls, d, rfl, J, nb, (up.trans up3).trans up4, .inr (.inr (by rw [hs]; exact hh4)), na, os, ag, w⟩
        first
          | exact wpAny_bind (wpAny_pure (wpAny_bind fin))
          | exact wpAny_bind fin
      | @cons x c ts b₀ suite np pos' hds2 l2 hc hsu r ih =>
        intro w
        obtain ⟨b, hb1, hyes, hno⟩ := w
        refine wpAny_handleBy_cons (codeAny_handlers_test ?_) (by intro q; cases q)
        have LM := PySem.W.exm_one (M := model X.prog X.w) (J3.kIn) LT hb1
        refine test hc (LM.here ?_)
        cases b with
        | true =>
          refine codeAny_handlers_suite ?_
          refine HandSPX.lands_againZ fl3 fun h4 fl4 up4 => ?_
          have J4 : Inv X pins σ' H' { s' with heap := h4 } := J.landed nb fl4.1 ((up.trans up3).trans up4) os ag
          obtain ⟨oe4, vs4, he4, hz4, hd4⟩ := fl4.there
          have S4 := J4.suite he4 hd4 na nL nF
          refine wpAny_mono ((hsu a oe4 cls d (X.pn ++ pins) hz4 ⟨_, hd4⟩).run [] _ _ H' _ S4 (hyes rfl a na)) (fun f s6 hsp => ?_) (fun _ _ z => False.elim z)
          cases f with
          | next =>
            obtain ⟨σ6, H6, S6, q6⟩ := hsp
            exact ⟨_, _, S6.unsuite ok, q6⟩
          | brk =>
            obtain ⟨σ6, H6, S6, q6⟩ := hsp
            exact ⟨_, _, S6.unsuite ok, q6⟩
          | cont =>
            obtain ⟨σ6, H6, S6, q6⟩ := hsp
            exact ⟨_, _, S6.unsuite ok, q6⟩
          | ret u =>
            obtain ⟨v6, σ6, H6, S6, r6, q6⟩ := hsp
            exact ⟨_, _, _, S6.unsuite ok, r6, q6⟩
        | false =>
          show wpAny _ X.A (handleBy (.ref a) X.env hds2) _ _ _
          exact ih (hno rfl)
      | @consN x n i c ts b₀ suite np pos' hds2 l2 hN hi hln hc hsu r ih =>
        intro w
        have hloc : Loc X.env.scope n := .inl hln
        obtain ⟨b, hb1, hyes, hno⟩ := w
        refine wpAny_handleBy_cons (codeAny_handlers_test ?_) (by intro q; cases q)
        have LM := PySem.W.exm_one (M := model X.prog X.w) (J3.kIn) LT hb1
        refine test hc (LM.here ?_)
        cases b with
        | true =>
          refine codeAny_handlers_suite_as ?_
          refine HandSPX.lands_againZ fl3 fun h4 fl4 up4 => ?_
          have J4 : Inv X pins σ' H' { s' with heap := h4 } := J.landed nb fl4.1 ((up.trans up3).trans up4) os ag
          obtain ⟨oe4, vs4, he4, hz4, hd4⟩ := fl4.there
          have S4 := J4.suite he4 hd4 na nL nF
          refine store_ok (X := X.suite a ((a, oe4) :: (X.pn ++ pins))) (v := .ref a) S4 hN hi hloc rfl (fun s5 S5 => ?_) (.inr hln)
          refine wpAny_mono ((hsu a oe4 cls d (X.pn ++ pins) hz4 ⟨_, hd4⟩).run [] s5 _ H' _ S5 (hyes rfl a na)) (fun f s6 hsp => ?_) (fun _ _ z => False.elim z)
          have end_ : ∀ {σ6 : St} {H6 : Hp} {Q : Shared → Prop}, Inv (X.suite a ((a, oe4) :: (X.pn ++ pins))) [] σ6 H6 s6 → (∀ s7, Inv X pins (σ6.set i none) H6 s7 → Q s7) →
              wpAny (model X.prog X.w) X.A (do bindName X.env n .none; unbindBehindTheSuite X.env n pos') (fun _ s7 => Q s7) X.xe s6 := fun {σ6 H6 Q} S6 hq => gone_ok (S6.unsuite ok) hN hi hln hq
          cases f with
          | next =>
            obtain ⟨σ6, H6, S6, q6⟩ := hsp
            exact end_ S6 fun s7 J7 => ⟨_, _, J7, q6⟩
          | brk =>
            obtain ⟨σ6, H6, S6, q6⟩ := hsp
            exact end_ S6 fun s7 J7 => ⟨_, _, J7, q6⟩
          | cont =>
            obtain ⟨σ6, H6, S6, q6⟩ := hsp
            exact end_ S6 fun s7 J7 => ⟨_, _, J7, q6⟩
          | ret u =>
            obtain ⟨v6, σ6, H6, S6, r6, q6⟩ := hsp
            exact end_ S6 fun s7 J7 => ⟨_, _, _, J7, r6, q6⟩
        | false =>
          show wpAny _ X.A (handleBy (.ref a) X.env hds2) _ _ _
          exact ih (hno rfl)
    exact go hh w
  · cases f with
    | next =>
      obtain ⟨σ', H', J', q⟩ := hsp
      exact wpAny_execs_nil ⟨σ', H', J'.ofTry ok, q⟩
    | brk =>
      obtain ⟨σ', H', J', q⟩ := hsp
      exact ⟨σ', H', J'.ofTry ok, q⟩
    | cont =>
      obtain ⟨σ', H', J', q⟩ := hsp
      exact ⟨σ', H', J'.ofTry ok, q⟩
    | ret u =>
      obtain ⟨v, σ', H', J', r, q⟩ := hsp
      exact ⟨v, σ', H', J'.ofTry ok, r, q⟩
end
end L2

/-! FW: raise, try, isinstance of what was caught. -/
namespace Fm
open PySem L2
/-- an error of class c is one of class c0 -/
def exSub (c c0 : Str) : Bool := c == c0 || c0 == ("FormError" : Str) || c0 == ("ValueError" : Str)
def RS.noX : RS → RS
  | .exc _ _ _ => .bad
  | r => r
def RS.endX (i : Nat) : RS → RS
  | .nx sl s => .nx (sl.set i .no) s
  | .bk sl s => .bk (sl.set i .no) s
  | .ct sl s => .ct (sl.set i .no) s
  | .rt y s => .rt y s
  | .exc _ _ _ => .bad
  | .bad => .bad
@[simp] theorem RS.noX_nx (sl : List Sl) (s : Sto) : (RS.nx sl s).noX = .nx sl s := rfl
@[simp] theorem RS.noX_rt (y : Y) (s : Sto) : (RS.rt y s).noX = .rt y s := rfl
@[simp] theorem RS.endX_nx (i : Nat) (sl : List Sl) (s : Sto) : (RS.nx sl s).endX i = .nx (sl.set i .no) s := rfl
@[simp] theorem RS.endX_rt (i : Nat) (y : Y) (s : Sto) : (RS.rt y s).endX i = .rt y s := rfl
abbrev MCl := Str × Option Nat × (Str → MS)
/-- the clauses, at an error of class c -/
def runCl (c : Str) : List MCl → MS
  | [] => fun sl s => .exc c sl s
  | (c0, none, su) :: r => fun sl s => if exSub c c0 then (su c sl s).noX else runCl c r sl s
  | (c0, some i, su) :: r => fun sl s => if exSub c c0 then (if i < sl.length then (su c (sl.set i .no) s).endX i else .bad) else runCl c r sl s
@[simp] theorem runCl_nil (c : Str) (sl : List Sl) (s : Sto) : runCl c [] sl s = .exc c sl s := rfl
@[simp] theorem runCl_none (c c0 : Str) (su : Str → MS) (r : List MCl) (sl : List Sl) (s : Sto) : runCl c ((c0, none, su) :: r) sl s = if exSub c c0 then (su c sl s).noX else runCl c r sl s := rfl
@[simp] theorem runCl_some (c c0 : Str) (i : Nat) (su : Str → MS) (r : List MCl) (sl : List Sl) (s : Sto) : runCl c ((c0, some i, su) :: r) sl s = if exSub c c0 then (if i < sl.length then (su c (sl.set i .no) s).endX i else .bad) else runCl c r sl s := rfl
def RS.catch (ns : List Str) (l : List MCl) : RS → RS
  | .exc c sl s => if ns.contains c then runCl c l sl s else .bad
  | r => r
@[simp] theorem RS.catch_nx (ns : List Str) (l : List MCl) (sl : List Sl) (s : Sto) : (RS.nx sl s).catch ns l = .nx sl s := rfl
@[simp] theorem RS.catch_rt (ns : List Str) (l : List MCl) (y : Y) (s : Sto) : (RS.rt y s).catch ns l = .rt y s := rfl
theorem RS.catch_exc (ns : List Str) (l : List MCl) (c : Str) (sl : List Sl) (s : Sto) : (RS.exc c sl s).catch ns l = if ns.contains c then runCl c l sl s else .bad := rfl
@[simp] def sTry (ns : List Str) (m : MS) (l : List MCl) : MS := fun sl s => (m sl s).catch ns l

/-- a class of errors of one's own -/
structure XcF (K : PySem.W.Frag) (mg : Str → Option Value) (cls : Str → Addr) (x : Str) : Prop where
  g : mg x = some (.ref (cls x))
  q : PySem.W.excIn K (cls x) [.type "ValueError", .type "Exception", .type "BaseException", .type "object"] "ValueError.__new__" = true
  k : PySem.W.keepIn K (.ref (cls x)) = true
  b : PySem.W.subIn K (.ref (cls x)) (.type "BaseException") = some true
  t : PySem.W.typeIn K (.ref (cls x)) = some (.type "type")
section
variable {X : Cx} {G : Gc} {C : Addr} {cls : Str → Addr} {ns : List Str}
theorem ds_raise {x m : Str} {j : Nat} {p p2 pos pos' : Pos} (o : GOk X C cls G) (hc : X.calm = true) (F : XcF X.K X.mg cls x) (hg : Gl X x) (hdb : (x == ("__debug__" : Str)) = false := by decide) : DS X G (.Raise (some (.Call (.Name x p) [.Constant (.str m) j p2] [] pos)) none pos') (sRaise x) := by
  obtain ⟨rfl, rfl, _, tk⟩ := o
  refine (ps_raise hc tk (pmk_own PySem.F.excBase_ValueError F.q F.g F.k (raises_own F.b F.t) hg hdb)).wk fun D σ H ⟨g, sl, s, R, h⟩ => ?_
  exact h g σ H .rfl (Nat.le_refl _) R
/-- within a suite that has a name, in slot i; the error stands at a -/
structure GOkS (X : Cx) (C : Addr) (cls : Str → Addr) (i : Nat) (a : Addr) (G : Gc) : Prop where
  c : G.C = C
  l : G.cls = cls
  xs : G.xs = some (i, a)
  tk : Takes X G.W
theorem GOkS.fr {i j : Nat} {a : Addr} (o : GOkS X C cls i a G) (h : i ≠ j) : G.fr j := fun k b e => by
  rw [o.xs] at e; cases e; exact h
inductive DHd (ns : List Str) (X : Cx) (C : Addr) (cls : Str → Addr) : List ExceptHandler → List MCl → Prop
  | nil : DHd ns X C cls [] []
  | cons {x c0 : Str} {v0 : Value} {su : Str → MS} {b₀ : Stmt} {suite : List Stmt} {np pos' : Pos} {hds : List ExceptHandler} {l : List MCl} (hc : Names X x v0) (hx : ∀ c, ns.contains c = true → PySem.W.exmOne X.K (.ref (cls c)) v0 = some (exSub c c0))
      (hsu : ∀ (a : Addr) (oe : Obj) (pn : List (Addr × Obj)) (c : Str) (G : Gc), ns.contains c = true → Zc (.ref (cls c)) none oe → (∃ vs, oe.data = .fields vs) → GOk (X.suite a ((a, oe) :: pn)) C cls G → DSs (X.suite a ((a, oe) :: pn)) G (b₀ :: suite) (su c)) (r : DHd ns X C cls hds l) :
      DHd ns X C cls (.ExceptHandler (some (.Name x np)) none (b₀ :: suite) pos' :: hds) ((c0, none, su) :: l)
  | consN {x c0 n : Str} {i : Nat} {v0 : Value} {su : Str → MS} {b₀ : Stmt} {suite : List Stmt} {np pos' : Pos} {hds : List ExceptHandler} {l : List MCl} (hN : X.N.Nodup) (hi : X.N[i]? = some n) (hln : X.env.kindOf n = some .local) (hc : Names X x v0) (hx : ∀ c, ns.contains c = true → PySem.W.exmOne X.K (.ref (cls c)) v0 = some (exSub c c0))
      (hsu : ∀ (a : Addr) (oe : Obj) (pn : List (Addr × Obj)) (c : Str) (G : Gc), ns.contains c = true → Zc (.ref (cls c)) none oe → (∃ vs, oe.data = .fields vs) → GOkS (X.suite a ((a, oe) :: pn)) C cls i a G → DSs (X.suite a ((a, oe) :: pn)) G (b₀ :: suite) (su c)) (r : DHd ns X C cls hds l) :
      DHd ns X C cls (.ExceptHandler (some (.Name x np)) (some n) (b₀ :: suite) pos' :: hds) ((c0, some i, su) :: l)
def tSu (ns : List Str) (K : PySem.W.Frag) (C : Addr) (cls : Str → Addr) (su : Str → MS) (cv : Value) (d : Option Addr) (xs : Option (Nat × Addr)) : TS := fun D σ H => ∃ c G, ns.contains c = true ∧ cv = .ref (cls c) ∧ d = none ∧ G.C = C ∧ G.cls = cls ∧ G.xs = xs ∧ G.W = W0 ∧ tDS K G (su c) D σ H
/-- the wish of a clause -/
inductive ClW (ns : List Str) (K : PySem.W.Frag) (C : Addr) (cls : Str → Addr) : List MCl → List Cl → Prop
  | nil : ClW ns K C cls [] []
  | cons {c0 : Str} {v0 : Value} {su : Str → MS} {l : List MCl} {r : List Cl} (hx : ∀ c, ns.contains c = true → PySem.W.exmOne K (.ref (cls c)) v0 = some (exSub c c0)) (t : ClW ns K C cls l r) : ClW ns K C cls ((c0, none, su) :: l) ((v0, none, fun _ cv d => tSu ns K C cls su cv d none) :: r)
  | consN {c0 : Str} {i : Nat} {v0 : Value} {su : Str → MS} {l : List MCl} {r : List Cl} (hx : ∀ c, ns.contains c = true → PySem.W.exmOne K (.ref (cls c)) v0 = some (exSub c c0)) (t : ClW ns K C cls l r) : ClW ns K C cls ((c0, some i, su) :: l) ((v0, some i, fun a cv d => tSu ns K C cls su cv d (some (i, a))) :: r)
theorem DHd.hd {hds : List ExceptHandler} {l : List MCl} (h : DHd ns X C cls hds l) : ∃ r, HdG X hds r ∧ ClW ns X.K C cls l r := by
  induction h with
  | nil => exact ⟨[], .nil, .nil⟩
  | cons hc hx hsu r ih =>
    obtain ⟨r, h1, h2⟩ := ih
    refine ⟨_, .cons hc (fun a oe cv d pn hz hf => ⟨fun pins s σ H D I q => ?_⟩) h1, .cons hx h2⟩
    obtain ⟨c, G, hn, rfl, rfl, e1, e2, e3, e4, q⟩ := q
    exact (hsu a oe pn c G hn hz hf ⟨e1, e2, e3, by rw [e4]; exact takes0⟩).run pins s σ H D I q
  | consN hN hi hln hc hx hsu r ih =>
    obtain ⟨r, h1, h2⟩ := ih
    refine ⟨_, .consN hN hi hln hc (fun a oe cv d pn hz hf => ⟨fun pins s σ H D I q => ?_⟩) h1, .consN hx h2⟩
    obtain ⟨c, G, hn, rfl, rfl, e1, e2, e3, e4, q⟩ := q
    exact (hsu a oe pn c G hn hz hf ⟨e1, e2, e3, by rw [e4]; exact takes0⟩).run pins s σ H D I q
theorem Rl.noxs {K : PySem.W.Frag} {g : Gh} {sl : List Sl} {s : Sto} {σ : St} {H : Hp} {W W' : WX} {xs : Option (Nat × Addr)} (h0 : G.xs = none) (R : Rl K { G with W := W, xs := xs } g sl s σ H) : Rl K { G with W := W' } g sl s σ H :=
  { toRlH := R.toRlH, len := R.len, sok := R.sok, exs := fun i a e => (by rw [show ({ G with W := W' } : Gc).xs = none from h0] at e; cases e), val := R.val, own := R.own, oni := R.oni, oin := R.oin, frm := R.frm, newS := R.newS, newC := R.newC, oldC := R.oldC, n0le := R.n0le, newO := R.newO, dom := R.dom, subS := R.subS }
/-- an error meets the clauses -/
theorem catch_go {K : PySem.W.Frag} {g : Gh} {s : Sto} {D : Ends} {c : Str} (h1 : G.C = C) (h2 : G.cls = cls) (h3 : G.xs = none) (hn : ns.contains c = true) {l : List MCl} {r : List Cl} (hl : ClW ns K C cls l r) {sl' : List Sl} {s' : Sto} (h : OkS K G g s D (runCl c l sl' s')) {g' : Gh} {σ' : St} {H' : Hp}
    (le : Le g g' s.O.length) (n : s.O.length ≤ s'.O.length) (R : Rl K G g' sl' s' σ' H') : wGen K G.W D r (.ref (G.cls c)) none σ' H' := by
  induction hl with
  | nil => exact h g' σ' H' le n R
  | @cons c0 v0 su l r hx t ih =>
    refine ⟨exSub c c0, by rw [h2]; exact hx c hn, fun hb a ha => ?_, fun hb => ih (by rw [runCl_none, hb] at h; exact h)⟩
    rw [runCl_none, hb, if_pos rfl] at h
    refine ⟨c, { G with W := W0 }, hn, by rw [h2], rfl, h1, h2, h3, rfl, g', sl', s', R.wish, ?_⟩
    have h := OkS.back (s1 := s') h le n
    cases e : su c sl' s' with
    | nx sl1 s1 => rw [e] at h; exact fun g1 σ1 H1 a b c => h g1 σ1 H1 a b c.wish'
    | bk sl1 s1 => rw [e] at h; exact fun g1 σ1 H1 a b c => h g1 σ1 H1 a b c.wish'
    | ct sl1 s1 => rw [e] at h; exact fun g1 σ1 H1 a b c => h g1 σ1 H1 a b c.wish'
    | rt y s1 => rw [e] at h; exact fun v g1 sl1 σ1 H1 a b c d => h v g1 sl1 σ1 H1 a b c.wish' (by cases y <;> exact d)
    | exc c sl1 s1 => rw [e] at h; exact h.elim
    | bad => rw [e] at h; exact h
  | @consN c0 i v0 su l r hx t ih =>
    refine ⟨exSub c c0, by rw [h2]; exact hx c hn, fun hb a ha => ?_, fun hb => ih (by rw [runCl_some, hb] at h; exact h)⟩
    rw [runCl_some, hb, if_pos rfl] at h
    split at h
    case isFalse => exact h.elim
    rename_i hi
    have R1 : Rl K { G with W := W0, xs := some (i, a) } g' (sl'.set i .no) s' (σ'.set i (some (.ref a))) H' := by
      have R0 := R.setNo (i := i) (v := some (.ref a)) (Gc.fr_of h3)
      exact { toRlH := R0.toRlH, len := R0.len, sok := R0.sok, exs := fun j b e => (by cases e; rw [List.getElem?_set_self (by rw [← R.len]; exact hi)]), val := R0.val, own := R0.own, oni := R0.oni, oin := R0.oin, frm := R0.frm, newS := R0.newS, newC := R0.newC, oldC := R0.oldC, n0le := R0.n0le, newO := R0.newO, dom := R0.dom, subS := R0.subS }
    refine ⟨c, { G with W := W0, xs := some (i, a) }, hn, by rw [h2], rfl, h1, h2, rfl, rfl, g', sl'.set i .no, s', R1, ?_⟩
    have h := OkS.back (s1 := s') h le n
    have fin : ∀ {g1 : Gh} {sl1 : List Sl} {s1 : Sto} {σ1 : St} {H1 : Hp}, Rl K { G with W := W0, xs := some (i, a) } g1 sl1 s1 σ1 H1 → Rl K G g1 (sl1.set i .no) s1 (σ1.set i none) H1 := fun {g1 sl1 s1 σ1 H1} q =>
      (Rl.noxs (W' := G.W) h3 q).setNo (i := i) (v := none) (Gc.fr_of h3)
    cases e : su c (sl'.set i .no) s' with
    | nx sl1 s1 => rw [e] at h; exact fun g1 σ1 H1 a b c => h g1 _ H1 a b (fin c)
    | bk sl1 s1 => rw [e] at h; exact fun g1 σ1 H1 a b c => h g1 _ H1 a b (fin c)
    | ct sl1 s1 => rw [e] at h; exact fun g1 σ1 H1 a b c => h g1 _ H1 a b (fin c)
    | rt y s1 => rw [e] at h; exact fun v g1 sl1 σ1 H1 a b c d => h v g1 sl1 σ1 H1 a b (Rl.noxs (W' := G.W) h3 c) (by cases y <;> exact d)
    | exc c sl1 s1 => rw [e] at h; exact h.elim
    | bad => rw [e] at h; exact h
theorem ds_try {body : List Stmt} {h₀ : ExceptHandler} {hds : List ExceptHandler} {m : MS} {l : List MCl} {pos : Pos} (o : GOk X C cls G) (hs : X.stack = X.env :: X.outer) (hf : X.env.frame = some X.env.locals)
    (hb : ∀ (pn : List (Addr × Obj)) (xe : Value → Shared → Prop) (G : Gc), PassesOwn (model X.prog X.w) X.A X.env xe → GOk (X.tr pn xe) C cls G → DSs (X.tr pn xe) G body m) (hh : DHd ns X C cls (h₀ :: hds) l) : DS X G (.Try body (h₀ :: hds) [] [] pos) (sTry ns m l) := by
  obtain ⟨r, hr, hw⟩ := hh.hd
  refine (ps_try_gen (tb := fun W => tDS X.K { G with W := W } m) hs hf o.tk (fun W pn xe tk hp => hb pn xe { G with W := W } hp ⟨o.c, o.l, o.xs, tk⟩) hr).wk fun D σ H ⟨g, sl, s, R, h⟩ => ?_
  refine ⟨g, sl, s, R.wish, ?_⟩
  simp only [sTry] at h
  cases e : m sl s with
  | nx sl1 s1 => rw [e] at h; exact fun g1 σ1 H1 a b c => h g1 σ1 H1 a b c.wish'
  | bk sl1 s1 => rw [e] at h; exact fun g1 σ1 H1 a b c => h g1 σ1 H1 a b c.wish'
  | ct sl1 s1 => rw [e] at h; exact fun g1 σ1 H1 a b c => h g1 σ1 H1 a b c.wish'
  | rt y s1 => rw [e] at h; exact fun v g1 sl1 σ1 H1 a b c d => h v g1 sl1 σ1 H1 a b c.wish' (by cases y <;> exact d)
  | bad => rw [e] at h; exact h
  | exc c sl1 s1 =>
    rw [e, RS.catch_exc] at h
    split at h
    · rename_i hn
      exact fun g1 σ1 H1 a b q => catch_go o.c o.l o.xs hn hw h a b q.wish'
    · exact h.elim
end
theorem ns_nil {P : Str → Prop} : ∀ c, ([] : List Str).contains c = true → P c := fun c h => by simp at h
theorem ns_cons {P : Str → Prop} {a : Str} {r : List Str} (h : P a) (t : ∀ c, r.contains c = true → P c) : ∀ c, (a :: r).contains c = true → P c := fun c hc => by
  rw [List.contains_cons, Bool.or_eq_true] at hc
  rcases hc with hc | hc
  · rw [beq_iff_eq.mp hc]; exact h
  · exact t c hc
end Fm

/-! FX: isinstance of what was caught. -/
namespace Fm
open PySem L2
section
variable {X : Cx} {G : Gc} {C : Addr} {cls : Str → Addr}
theorem de_isE0 {a : Addr} {oe : Obj} {pn : List (Addr × Obj)} {c c0 e t : Str} {i : Nat} {v : V} {cv : Value} {p pe pt pos : Pos} (o : GOkS (X.suite a ((a, oe) :: pn)) C cls i a G) (hN : X.N[i]? = some e) (hv : Vis X.env.scope e) (hz : Zc (.ref (cls c)) none oe) (hf : ∃ vs, oe.data = .fields vs)
    (hE : ExcC X.K (cls c)) (hk : PySem.W.kitOne X.K (.ref (cls c)) cv = some (exSub c c0)) (ht : PE (X.suite a ((a, oe) :: pn)) (.Name t pt) (tC v)) (hV : ClsV v cv) (hg : Gl X "isinstance") (hm : X.mg "isinstance" = none)
    (hd : (e == ("__debug__" : Str)) = false := by decide) (hcd : (e == ("__classdict__" : Str)) = false := by decide)
    (hs1 : starEach [.Name e pe, .Name t pt] X.env = (false, eval (.Name e pe) X.env) :: starEach [.Name t pt] X.env := by rfl) (hs2 : starEach [.Name t pt] X.env = (false, eval (.Name t pt) X.env) :: starEach [] X.env := by rfl) (hpl : (backTo pos (starEach [.Name t pt] X.env)).any (·.1) = false := by rfl) :
    DE (X.suite a ((a, oe) :: pn)) G (.Call (.Name "isinstance" p) [.Name e pe, .Name t pt] [] pos) (mC (.bl (exSub c c0))) :=
  (pe_callB (X := X.suite a ((a, oe) :: pn)) (call_isE hE hz hf) hg hm rfl (pa_cons (pe_var (X := X.suite a ((a, oe) :: pn)) (i := i) hN hv hd hcd) (pa_cons ht pa_nil hs2) hs1) (by decide) (by decide) hs1 hpl).wk fun σ H Q ⟨g, sl, s, R, h⟩ => by
    refine ⟨.ref a, R.exs i a o.xs, v, cv, _, rfl, fun u r => hV.eq r, hk, h (.bl (exSub c c0)) g H .rfl (Nat.le_refl _) R ?_⟩
    show Rep X.K g.S (.bl (exSub c c0)) (.bl (exSub c c0))
    simp only [Rep]
/-- isinstance(e, T), T a class of one's own -/
theorem de_isE {a : Addr} {oe : Obj} {pn : List (Addr × Obj)} {c e t : Str} {i : Nat} {p pe pt pos : Pos} (o : GOkS (X.suite a ((a, oe) :: pn)) C cls i a G) (hN : X.N[i]? = some e) (hv : Vis X.env.scope e) (hz : Zc (.ref (cls c)) none oe) (hf : ∃ vs, oe.data = .fields vs)
    (hE : ExcC X.K (cls c)) (hk : PySem.W.kitOne X.K (.ref (cls c)) (.ref (cls t)) = some (exSub c t)) (hgt : Gl X t) (hmt : X.mg t = some (.ref (cls t))) (hg : Gl X "isinstance") (hm : X.mg "isinstance" = none)
    (hd : (e == ("__debug__" : Str)) = false := by decide) (hcd : (e == ("__classdict__" : Str)) = false := by decide) (hdt : (t == ("__debug__" : Str)) = false := by decide)
    (hs1 : starEach [.Name e pe, .Name t pt] X.env = (false, eval (.Name e pe) X.env) :: starEach [.Name t pt] X.env := by rfl) (hs2 : starEach [.Name t pt] X.env = (false, eval (.Name t pt) X.env) :: starEach [] X.env := by rfl) (hpl : (backTo pos (starEach [.Name t pt] X.env)).any (·.1) = false := by rfl) :
    DE (X.suite a ((a, oe) :: pn)) G (.Call (.Name "isinstance" p) [.Name e pe, .Name t pt] [] pos) (mC (.bl (exSub c t))) :=
  de_isE0 o hN hv hz hf hE hk (pe_glob (X := X.suite a ((a, oe) :: pn)) (v := .ref (cls t)) hgt hmt rfl hdt) (.own _) hg hm hd hcd hs1 hs2 hpl
/-- isinstance(e, ValueError) -/
theorem de_isEV {a : Addr} {oe : Obj} {pn : List (Addr × Obj)} {c e : Str} {i : Nat} {p pe pt pos : Pos} (o : GOkS (X.suite a ((a, oe) :: pn)) C cls i a G) (hN : X.N[i]? = some e) (hv : Vis X.env.scope e) (hz : Zc (.ref (cls c)) none oe) (hf : ∃ vs, oe.data = .fields vs)
    (hE : ExcC X.K (cls c)) (hk : PySem.W.kitOne X.K (.ref (cls c)) (.type "ValueError") = some (exSub c "ValueError")) (hgt : Gl X "ValueError") (hmt : X.mg "ValueError" = none) (hg : Gl X "isinstance") (hm : X.mg "isinstance" = none)
    (hd : (e == ("__debug__" : Str)) = false := by decide) (hcd : (e == ("__classdict__" : Str)) = false := by decide)
    (hs1 : starEach [.Name e pe, .Name "ValueError" pt] X.env = (false, eval (.Name e pe) X.env) :: starEach [.Name "ValueError" pt] X.env := by rfl) (hs2 : starEach [.Name "ValueError" pt] X.env = (false, eval (.Name "ValueError" pt) X.env) :: starEach [] X.env := by rfl) (hpl : (backTo pos (starEach [.Name "ValueError" pt] X.env)).any (·.1) = false := by rfl) :
    DE (X.suite a ((a, oe) :: pn)) G (.Call (.Name "isinstance" p) [.Name e pe, .Name "ValueError" pt] [] pos) (mC (.bl (exSub c "ValueError"))) :=
  de_isE0 o hN hv hz hf hE hk (pe_bltn (X := X.suite a ((a, oe) :: pn)) (v := .ty "ValueError") hgt hmt rfl rfl (by decide) (by decide)) (.ty _) hg hm hd hcd hs1 hs2 hpl
end
end Fm

/-! FY: fields; lists of cells. -/
namespace Fm
open PySem L2
/-! ### fields -/
def putN (f : Str) (n : Nat) : List (Str × Nat) → List (Str × Nat)
  | [] => [(f, n)]
  | (g, x) :: r => if g = f then (g, n) :: r else (g, x) :: putN f n r
theorem putN_map (rc : Nat → Addr) (f : Str) (n : Nat) : ∀ fs : List (Str × Nat), (putN f n fs).map (fun p => (p.1, V.ref (rc p.2))) = putF f (.ref (rc n)) (fs.map fun p => (p.1, V.ref (rc p.2)))
  | [] => rfl
  | (g, x) :: r => by
    simp only [putN, List.map_cons, putF]
    by_cases h : g = f
    · simp only [h, if_true, List.map_cons]
    · simp only [h, if_false, List.map_cons, putN_map rc f n r]
theorem putN_mem {f : Str} {n : Nat} {p : Str × Nat} : ∀ {fs : List (Str × Nat)}, p ∈ putN f n fs → p.2 = n ∨ p ∈ fs
  | [], h => by
    rcases List.mem_cons.mp h with rfl | h
    · exact .inl rfl
    · cases h
  | (g, x) :: r, h => by
    simp only [putN] at h
    split at h
    · rcases List.mem_cons.mp h with rfl | h
      · exact .inl rfl
      · exact .inr (List.mem_cons_of_mem _ h)
    · rcases List.mem_cons.mp h with rfl | h
      · exact .inr List.mem_cons_self
      · exact (putN_mem h).imp id (List.mem_cons_of_mem _)
theorem lookup_ref (rc : Nat → Addr) {f : Str} {j : Nat} : ∀ {fs : List (Str × Nat)}, fs.lookup f = some j → (fs.map fun p => (p.1, V.ref (rc p.2))).lookup f = some (.ref (rc j)) ∧ ∃ p ∈ fs, p.2 = j
  | [], h => by cases h
  | (g, x) :: r, h => by
    rw [List.lookup_cons] at h
    rw [List.map_cons, List.lookup_cons]
    split at h
    · rename_i hb
      cases h
      refine ⟨by simp only [hb], _, List.mem_cons_self, rfl⟩
    · rename_i hb
      simp only [hb]
      obtain ⟨h1, p, hp, e⟩ := lookup_ref rc h
      exact ⟨h1, p, List.mem_cons_of_mem _ hp, e⟩
@[simp] def fldN (f : Str) (n : Nat) (wo : W) : MS := fun sl s => match wo with
  | .c k => match s.O[k]? with
    | some (.ins fs) => if decide (fs.length < 1000) && !lkd k s.lk && decide (n < s.O.length) then .nx sl { s with O := s.O.set k (.ins (putN f n fs)) } else .bad
    | _ => .bad
  | _ => .bad
/-- o.f = e, a new object -/
def sFldN (f : Str) (mo mv : M) : MS := fun sl s => (mv sl s).st sl fun y s1 => match y with
  | .fr c => sW mo (fldN f s1.O.length) sl { s1 with O := s1.O ++ [c] }
  | _ => .bad
section
variable {X : Cx} {G : Gc} {e o i : Expr} {me mo mi mv : M} {f : Str} {pos pos' apos cpos : Pos}
theorem de_fld (c : Cls X.K G.C) (n : NoAttr X.K G.C f) (he : DE X G e me) (hb : attributeBase e f X.env (eval e X.env) = eval e X.env := by rfl) : DE X G (.Attribute e f pos) (mFld f me) :=
  (pe_fld he hb).wk fun σ H Q ⟨g, sl, s, R, h⟩ => by
    refine ⟨g, sl, s, R, ?_⟩
    simp only [mFld] at h
    cases e : me sl s with
    | bad => rw [e] at h; exact h
    | exc c s' => rw [e] at h; exact h
    | ok y s1 =>
      rw [e] at h
      simp only [Fm.R.bind_ok] at h
      intro v g1 H1 l1 n1 R1 r1
      obtain ⟨g2, l2, R2, r2⟩ := R1.freeze r1
      split at h
      · rename_i kk ek
        rw [ek] at r2
        obtain ⟨hk, rfl⟩ := r2
        split at h
        · rename_i fs hfs
          obtain ⟨_, hfl, dx, hH⟩ := R2.cel kk _ hfs
          split at h
          · rename_i j hj
            obtain ⟨q1, p, hp, rfl⟩ := lookup_ref g2.rc hj
            have l12 := l1.trans l2 n1
            exact ⟨_, _, dx, _, _, rfl, hH, c, n, q1, h _ g2 H1 l12 n1 R2 ⟨hfl p hp, rfl⟩⟩
          · exact h.elim
        · exact h.elim
      · exact h.elim
theorem ds_fldN (c : Cls X.K G.C) (n : NoAttr X.K G.C f) (ho : DE X G o mo) (hv : DE X G e mv) (hs : swapsWith e (some (.Attribute o f pos')) pos.line X.env = pure false := by rfl) : DS X G (.Assign [.Attribute o f pos'] e pos) (sFldN f mo mv) :=
  (ps_fld ho hv hs).wk fun D σ H ⟨g, sl, s, R, h⟩ => tD.st R h fun v y g1 s1 H1 l1 n1 R1 r1 h1 => by
    split at h1
    · rename_i ct
      obtain ⟨p, rfl, fr⟩ := r1
      obtain ⟨R2, l2⟩ := R1.push fr
      have hn2 : s1.O.length ≤ (s1.O ++ [ct]).length := by simp
      have h2 := OkS.back (s1 := { s1 with O := s1.O ++ [ct] }) h1 l2.toLe hn2
      refine tD.sw R2 h2 fun u wo g3 s3 H3 l3 n3 R3 r3 h3 => ?_
      simp only [fldN] at h3
      split at h3
      · rename_i k
        obtain ⟨hk, rfl⟩ := r3
        split at h3
        · rename_i fs hfs
          obtain ⟨_, hfl, dx, hH⟩ := R3.cel k _ hfs
          split at h3
          · rename_i hh
            simp only [Bool.and_eq_true, decide_eq_true_eq, Bool.not_eq_true'] at hh
            have ep : V.ref p = .ref (g3.rc s1.O.length) := by
              rw [l3.rc s1.O.length (by simp)]
              show V.ref p = .ref (if s1.O.length = s1.O.length then p else g1.rc s1.O.length)
              rw [if_pos rfl]
            refine ⟨_, _, dx, _, rfl, hH, c, n, by rw [List.length_map]; exact hh.1.1, ?_⟩
            rw [ep, ← putN_map]
            refine h3 g3 σ _ .rfl (by simp) (R3.pokeC hfs hh.1.2 ⟨fun q hq => ?_, dx, upd_same⟩)
            rcases putN_mem hq with e | e
            · rw [e]; exact hh.2
            · exact hfl q e
          · exact h3.elim
        · exact h3.elim
      · exact h3.elim
    · exact h1.elim

/-! ### lists of cells -/
/-- a value that is an object, in a cell if it is new -/
@[simp] def celY : Y → Sto → W × Sto
  | .w w, s => (w, s)
  | .fr c, s => (.c s.O.length, { s with O := s.O ++ [c] })
theorem cel_go {K : PySem.W.Frag} {g : Gh} {sl : List Sl} {s : Sto} {σ : St} {H : Hp} {y : Y} {v : V} (R : Rl K G g sl s σ H) (r : RepY K G g sl s H y v) : ∃ g', LeO g g' s.O.length ∧ s.O.length ≤ (celY y s).2.O.length ∧ Rl K G g' sl (celY y s).2 σ H ∧ RepW K g' (celY y s).2.O.length (celY y s).1 v := by
  cases y with
  | w w => exact ⟨g, .rfl, Nat.le_refl _, R, r⟩
  | fr c =>
    obtain ⟨p, rfl, f⟩ := r
    obtain ⟨R2, l2⟩ := R.push f
    refine ⟨_, l2, by simp, R2, by simp, ?_⟩
    show V.ref p = .ref (if s.O.length = s.O.length then p else g.rc s.O.length)
    rw [if_pos rfl]
/-- [e], e a new object -/
@[simp] def mLstC (m : M) : M := fun sl s => (m sl s).bind fun y s1 => match y with
  | .fr c => .ok (.fr (.cls [s1.O.length])) { s1 with O := s1.O ++ [c] }
  | _ => .bad
theorem de_lstC (he : DE X G e me) (hs : starEach [e] X.env = (false, eval e X.env) :: starEach [] X.env := by rfl) : DE X G (.List [e] pos) (mLstC me) :=
  (pe_lst (pa_cons he pa_nil hs)).wk fun σ H Q ⟨g, sl, s, R, h⟩ => by
    refine ⟨g, sl, s, R, ?_⟩
    simp only [mLstC] at h
    cases e : me sl s with
    | bad => rw [e] at h; exact h
    | exc c s' => rw [e] at h; exact h
    | ok y s1 =>
      rw [e] at h
      simp only [Fm.R.bind_ok] at h
      intro v g1 H1 l1 n1 R1 r1
      split at h
      · rename_i c
        obtain ⟨p, rfl, fr⟩ := r1
        obtain ⟨R2, l2⟩ := R1.push fr
        have hn2 : s1.O.length ≤ (s1.O ++ [c]).length := by simp
        refine ⟨by show 1 ≤ sizeLine; decide, fun q hq => ?_⟩
        refine h (.ref q) _ _ (l1.trans l2 n1) (Nat.le_trans n1 hn2) (R2.new (o := .lst [.ref p]) hq) ⟨q, rfl, R2.frAt hq ⟨fun k hk => ?_, ?_⟩ fun fs z => by cases z⟩
        · have : k = s1.O.length := by simpa using hk
          subst this; simp
        · rw [upd_same]
          show some (HO.lst [V.ref p]) = some (.lst [V.ref (if s1.O.length = s1.O.length then p else g1.rc s1.O.length)])
          rw [if_pos rfl]
      · exact h.elim
@[simp] def pkC (sl : List Sl) (s : Sto) : W → Option (List Nat)
  | .c k => match s.O[k]? with
    | some (.cls ks) => some ks
    | _ => none
  | .o i => match sl[i]? with
    | some (.own (.cls ks)) => some ks
    | _ => none
  | _ => none
theorem Rl.peekC {K : PySem.W.Frag} {g : Gh} {sl : List Sl} {s : Sto} {σ : St} {H : Hp} {w : W} {v : V} {ks : List Nat} (R : Rl K G g sl s σ H) (r : RepW K g s.O.length w v) (e : pkC sl s w = some ks) : ∃ a, v = .ref a ∧ H a = some (.lst (ks.map fun k => V.ref (g.rc k))) ∧ ∀ k ∈ ks, k < s.O.length := by
  cases w with
  | c k =>
    obtain ⟨_, rfl⟩ := r
    simp only [pkC] at e
    split at e
    · rename_i xs hx
      cases e
      obtain ⟨q1, q2⟩ := (R.cel k _ hx).2
      exact ⟨_, rfl, q2, q1⟩
    · cases e
  | o i =>
    have r : v = .ref (g.ro i) := r
    subst r
    simp only [pkC] at e
    split at e
    · rename_i xs hx
      cases e
      obtain ⟨_, _, _, q1, q2⟩ := R.own i _ hx
      exact ⟨_, rfl, q2, q1⟩
    · cases e
  | _ => cases e
/-- xs[i], xs a list of cells -/
def mIxC (mo mi : M) : M := fun sl s => (mo sl s).bind fun y s1 => mW mi (fun wi sl s => match wi, pkC sl s (celY y s1).1 with
  | .f (.int i), some ks => match L2.atI ks i with
    | some k => .ok (.w (.c k)) s
    | none => .bad
  | _, _ => .bad) sl (celY y s1).2
theorem atI_map {α β : Type} (f : α → β) {xs : List α} {i : Int} {x : α} (h : L2.atI xs i = some x) : L2.atI (xs.map f) i = some (f x) := by
  unfold L2.atI at h ⊢
  rw [List.length_map]
  cases e : L2.ixN xs.length i with
  | none => rw [e] at h; cases h
  | some n =>
    rw [e] at h
    have h : xs[n]? = some x := h
    show (xs.map f)[n]? = some (f x)
    rw [List.getElem?_map, h]; rfl
theorem atI_mem {α : Type} {xs : List α} {i : Int} {x : α} (h : L2.atI xs i = some x) : x ∈ xs := by
  unfold L2.atI at h
  cases e : L2.ixN xs.length i with
  | none => rw [e] at h; cases h
  | some n => rw [e] at h; exact List.mem_of_getElem? h
theorem de_ixC (hs : PlainIx i) (ho : DE X G o mo) (hi : DE X G i mi) : DE X G (.Subscript o i pos) (mIxC mo mi) :=
  (pe_ix ix_list ho hi hs).wk fun σ H Q ⟨g, sl, s, R, h⟩ => by
    refine ⟨g, sl, s, R, ?_⟩
    simp only [mIxC] at h
    cases e : mo sl s with
    | bad => rw [e] at h; exact h
    | exc c s' => rw [e] at h; exact h
    | ok y s1 =>
      rw [e] at h
      simp only [Fm.R.bind_ok] at h
      intro v g1 H1 l1 n1 R1 r1
      obtain ⟨g2, l2, n2, R2, r2⟩ := cel_go R1 r1
      have h2 := OkE.back (s1 := (celY y s1).2) h (l1.trans l2 n1) (Nat.le_trans n1 n2)
      refine tD.first R2 h2 fun u wi g3 s3 H3 l3 n3 R3 r3 h3 => ?_
      split at h3
      · rename_i i ks hks
        obtain ⟨a, rfl, ha, hb⟩ := R3.peekC (r2.le l3 n3) hks
        split at h3
        · rename_i k hk
          refine ⟨a, _, i, _, rfl, int_of r3, .of ha, atI_map _ hk, h3 _ g3 H3 .rfl (Nat.le_refl _) R3 ⟨hb k (atI_mem hk), rfl⟩⟩
        · exact h3.elim
      · exact h3.elim
/-- xs.append(e), e a new object -/
@[simp] def appC (wo : W) (ks : List Nat) (n : Nat) : MS := fun sl s => if ks.length < sizeLine then nxP (poke wo (.cls (ks ++ [n])) sl s) else .bad
def sAppC (mo me : M) : MS := fun sl s => sW mo (fun wo sl s => match pkC sl s wo with
  | some _ => (me sl s).st sl fun y s1 => match y with
    | .fr c => match pkC sl s1 wo with
      | some ks => appC wo ks s1.O.length sl { s1 with O := s1.O ++ [c] }
      | none => .bad
    | _ => .bad
  | none => .bad) sl s
theorem Rl.poke_cls {K : PySem.W.Frag} {g : Gh} {sl sl' : List Sl} {s s' : Sto} {σ : St} {H : Hp} {w : W} {v : V} {ks ks' : List Nat} (R : Rl K G g sl s σ H) (r : RepW K g s.O.length w v) (e : pkC sl s w = some ks) (h : poke w (.cls ks') sl s = some (sl', s')) (hk : ∀ k ∈ ks', k < s.O.length) :
    ∃ a, v = .ref a ∧ Rl K G g sl' s' σ (upd H a (.lst (ks'.map fun k => V.ref (g.rc k)))) ∧ s'.O.length = s.O.length := by
  cases w with
  | o i =>
    simp only [poke] at h
    split at h
    · rename_i d ed
      cases h
      exact ⟨_, r, R.pokeO ed ⟨hk, upd_same⟩ (fun fs z => by cases z), rfl⟩
    · cases h
  | c k =>
    simp only [poke] at h
    split at h
    · rename_i hh
      cases h
      simp only [Bool.and_eq_true, decide_eq_true_eq, Bool.not_eq_true'] at hh
      exact ⟨_, r.2, R.pokeC (List.getElem?_eq_getElem hh.1) hh.2 ⟨hk, upd_same⟩, List.length_set⟩
    · cases h
  | _ => cases e
theorem pkC_push {sl : List Sl} {s : Sto} {w : W} {ks : List Nat} {c : Ct} (e : pkC sl s w = some ks) : pkC sl { s with O := s.O ++ [c] } w = some ks := by
  cases w with
  | c k =>
    simp only [pkC] at e ⊢
    split at e
    · rename_i xs hx
      have hl := (List.getElem?_eq_some_iff.mp hx).1
      rw [List.getElem?_append_left hl, hx]
      exact e
    · cases e
  | o i => exact e
  | _ => cases e
theorem ds_appC (ho : DE X G o mo) (he : DE X G e me) (hbase : attributeBase o "append" X.env (eval o X.env) = eval o X.env := by rfl)
    (hfew : ((backTo cpos (starEach [e] X.env)).all (fun x => !x.1) && (backToKw cpos (keywordEach [] X.env)).all (fun x => x.1.isSome)
      && decide (([e] : List Expr).length + ([] : List Keyword).length + (if ([] : List Keyword).isEmpty then 0 else 1) < 30)) = true := by rfl)
    (hline : (apos.endLine == cpos.line) = true := by rfl) (hs : starEach [e] X.env = (false, eval e X.env) :: starEach [] X.env := by rfl) (hsw : swapsWith (.Call (.Attribute o "append" apos) [e] [] cpos) none pos.line X.env = pure false := by rfl) :
    DS X G (.Expr (.Call (.Attribute o "append" apos) [e] [] cpos) pos) (sAppC mo me) :=
  (ps_expr (pe_bm PySem.F.plainAttrs_list PySem.F.slot_list_append PySem.F.type_list_append mt_append ho (pa_cons he pa_nil hs) hbase hfew hline hs rfl) hsw).wk fun D σ H ⟨g, sl, s, R, h⟩ => tD.sw R h fun v wo g1 s1 H1 l1 n1 R1 r1 h1 => by
    split at h1
    · rename_i ks0 e0
      obtain ⟨a, rfl, ha0, _⟩ := R1.peekC r1 e0
      refine ⟨.inl ⟨rfl, _, .of ha0⟩, tD.st R1 h1 fun u y g2 s2 H2 l2 n2 R2 r2 h2 => ?_⟩
      split at h2
      · rename_i c
        obtain ⟨p, rfl, fr⟩ := r2
        split at h2
        · rename_i ks e2
          obtain ⟨R3, l3⟩ := R2.push fr
          have hn3 : s2.O.length ≤ (s2.O ++ [c]).length := by simp
          have ro := (r1.le l2 n2).le l3 hn3
          have e3 := pkC_push (c := c) e2
          obtain ⟨a', ea, ha, hk⟩ := R3.peekC ro e3
          cases ea
          simp only [appC] at h2
          split at h2
          · rename_i hz
            obtain ⟨sl', s', ep⟩ := nx_some (OkS.back (s1 := { s2 with O := s2.O ++ [c] }) h2 l3.toLe hn3)
            rw [ep] at h2
            obtain ⟨a', ea, R4, hl⟩ := R3.poke_cls ro e3 ep fun k hk' => by
              rcases List.mem_append.mp hk' with q | q
              · exact hk k q
              · have : k = s2.O.length := by simpa using q
                subst this; simp
            cases ea
            rw [List.map_append] at R4
            refine ⟨a, _, .ref p, rfl, rfl, ha, by rw [List.length_map]; exact hz, h2 _ σ _ l3.toLe (by rw [hl]; exact hn3) ?_⟩
            have ep2 : V.ref p = V.ref (if s2.O.length = s2.O.length then p else g2.rc s2.O.length) := by rw [if_pos rfl]
            rw [ep2]
            exact R4
          · exact h2.elim
        · exact h2.elim
      · exact h2.elim
    · exact h1.elim
end
end Fm

/-! FZ: methods, makings, fields under a GOk; several targets; list(range(..)). -/
namespace Fm
open PySem L2
section
variable {X : Cx} {G : Gc} {C : Addr} {cls : Str → Addr} {k : Nat} {f : Addr} {ps : List Str} {psi : Psi} {x m : Str} {p pos apos : Pos} {e o : Expr} {es : List Expr} {ma : MA} {mo me mv : M}
theorem xe_meth (k : Nat) {k0 : Nat} (r : GOk X C cls G) (c : Cls X.K C) (hme : Meth X.K C m f) (D : Dfn X.prog X.w X.K X.mg X.base C cls k f ps psi) (hr : Room k0 X.A) (hk0 : k ≤ k0) (he : DE X G o mo) (ha : DA X G (e :: es) ma) {pl : Sem Bool}
    (hla : LA ma (ps.length - 1) := by repeat (first | exact la_nil | refine la_cons ?_)) (hl : 0 < ps.length := by decide)
    (hst : starEach (e :: es) X.env = (false, eval e X.env) :: starEach es X.env := by rfl) (hpl : (backTo pos (starEach es X.env)).any (·.1) = false := by rfl)
    (ht : eval (.Call (.Attribute o m apos) (e :: es) [] pos) X.env = (do
      let ov ← eval o X.env
      standAt apos.atName
      let (f, first) ← holding [ov] (getMethod ov m pl)
      callWith pos f first (backTo pos (starEach (e :: es) X.env)) (backToKw pos (keywordEach [] X.env))) := by rfl) : DE X G (.Call (.Attribute o m apos) (e :: es) [] pos) (mMeth psi m mo ma) := by
  obtain ⟨rfl, rfl, _, tk⟩ := r
  exact de_meth rfl he c hme D (hr.mono hk0) tk ha hla hl hst hpl ht
theorem xe_meth0 (k : Nat) {k0 : Nat} (r : GOk X C cls G) (c : Cls X.K C) (hme : Meth X.K C m f) (D : Dfn X.prog X.w X.K X.mg X.base C cls k f ps psi) (hr : Room k0 X.A) (hk0 : k ≤ k0) (he : DE X G o mo) {pl : Sem Bool} (hl : 1 = ps.length := by decide)
    (ht : eval (.Call (.Attribute o m apos) [] [] pos) X.env = (do
      let ov ← eval o X.env
      standAt apos.atName
      let (f, first) ← holding [ov] (getMethod ov m pl)
      callWith pos f first (backTo pos (starEach [] X.env)) (backToKw pos (keywordEach [] X.env))) := by rfl) : DE X G (.Call (.Attribute o m apos) [] [] pos) (mMeth psi m mo aNil) := by
  obtain ⟨rfl, rfl, _, tk⟩ := r
  exact de_meth0 rfl he c hme D (hr.mono hk0) tk hl ht
theorem xe_make (k : Nat) {k0 : Nat} (r : GOk X C cls G) (M : Mk X.K C f) (D : Dfn X.prog X.w X.K X.mg X.base C cls k f ps psi) (hr : Room k0 X.A) (hk0 : k + 1 ≤ k0) (hg : Gl X x) (hm : X.mg x = some (.ref C)) (ha : DA X G (e :: es) ma)
    (hla : LA ma (ps.length - 1) := by repeat (first | exact la_nil | refine la_cons ?_)) (hl : 0 < ps.length := by decide)
    (hdb : (x == ("__debug__" : Str)) = false := by decide) (he : starEach (e :: es) X.env = (false, eval e X.env) :: starEach es X.env := by rfl) (hpl : (backTo pos (starEach es X.env)).any (·.1) = false := by rfl) : DE X G (.Call (.Name x p) (e :: es) [] pos) (mMake psi ma) := by
  obtain ⟨rfl, rfl, _, tk⟩ := r
  exact de_make rfl M D (hr.mono hk0) tk hg hm ha hla hl hdb he hpl
theorem xe_fld (r : GOk X C cls G) (c : Cls X.K C) (n : NoAttr X.K C x) (he : DE X G e me) (hb : attributeBase e x X.env (eval e X.env) = eval e X.env := by rfl) : DE X G (.Attribute e x pos) (mFld x me) := by
  obtain ⟨rfl, rfl, _, tk⟩ := r
  exact de_fld c n he hb
theorem xs_fldN (r : GOk X C cls G) (c : Cls X.K C) (n : NoAttr X.K C x) (ho : DE X G o mo) (hv : DE X G e mv) (hs : swapsWith e (some (.Attribute o x p)) pos.line X.env = pure false := by rfl) : DS X G (.Assign [.Attribute o x p] e pos) (sFldN x mo mv) := by
  obtain ⟨rfl, rfl, _, tk⟩ := r
  exact ds_fldN c n ho hv hs
end
/-! ### a, b = e, a tuple of data -/
def setL : List Nat → List F → List Sl → List Sl
  | i :: is, x :: xs, sl => setL is xs (sl.set i (.v (.f x)))
  | _, _, sl => sl
@[simp] theorem setL_nil (xs : List F) (sl : List Sl) : setL [] xs sl = sl := by cases xs <;> rfl
@[simp] theorem setL_cons (i : Nat) (is : List Nat) (x : F) (xs : List F) (sl : List Sl) : setL (i :: is) (x :: xs) sl = setL is xs (sl.set i (.v (.f x))) := rfl
@[simp] def sTupT (is : List Nat) (m : M) : MS := fun sl s => (m sl s).st sl fun y s1 => match frz y with
  | .f (.tup xs) => if xs.length = is.length then .nx (setL is xs sl) s1 else .bad
  | _ => .bad
def gNs : List Nat → TGs
  | [] => gNil
  | i :: is => gCons (gName i) (gNs is)
section
variable {X : Cx} {G : Gc} {C : Addr} {cls : Str → Addr}
theorem gNs_go {K : PySem.W.Frag} {g : Gh} {s : Sto} {H : Hp} {Q : St → Hp → Prop} (hx : G.xs = none) : ∀ (is : List Nat) {xs : List F} {vs : List V} {sl : List Sl} {σ : St}, xs.length = is.length → Reps K g.S xs vs → Rl K G g sl s σ H → (∀ σ', Rl K G g (setL is xs sl) s σ' H → Q σ' H) → gNs is vs σ H Q
  | [], [], _, sl, σ, _, r, R, h => by
    simp only [Reps] at r
    exact ⟨r, h σ R⟩
  | i :: is, x :: xs, _, sl, σ, hl, r, R, h => by
    simp only [Reps] at r
    obtain ⟨v, vr, rfl, rx, rr⟩ := r
    exact ⟨v, vr, rfl, gNs_go hx is (by simpa using hl) rr (R.setV (i := i) (w := .f x) rx rfl (Gc.fr_of hx)) h⟩
  | [], _ :: _, _, _, _, hl, _, _, _ => by cases hl
  | _ :: _, [], _, _, _, hl, _, _, _ => by cases hl
theorem ds_tupT {es : List Expr} {k : Nat} {p pos : Pos} {e : Expr} {me : M} (is : List Nat) (o : GOk X C cls G) (hc : X.calm = true) (he : DE X G e me) (hg : PGs X es (gNs is))
    (hn : (assignEach es X.env).length = is.length := by rfl) (hst : (assignEach es X.env).findIdx? (·.1) = none := by rfl) (hs : swapsWithSole [.Tuple es k p] e pos.line X.env = pure false := by rfl) (hw : swappedStores [.Tuple es k p] e X.env = pure none := by rfl)
    (h1 : (assignEach [.Tuple es k p] X.env).map (·.2) = [assign (.Tuple es k p) X.env] := by rfl) : DS X G (.Assign [.Tuple es k p] e pos) (sTupT is me) :=
  (ps_asg he (pg_tup hc hg hn hst) hs hw h1).wk fun D σ H ⟨g, sl, s, R, h⟩ => tD.st R h fun v y g1 s1 H1 l1 n1 R1 r1 h1 => by
    obtain ⟨g2, l2, R2, r2⟩ := R1.freeze r1
    split at h1
    · rename_i xs e
      rw [e] at r2
      simp only [RepW, Rep] at r2
      obtain ⟨d, vs, rfl, hs, hr⟩ := r2
      split at h1
      · rename_i hl
        exact ⟨d, vs, rfl, .of (R2.see _ _ hs), by rw [← hr.length]; exact hl, gNs_go o.xs is hl hr R2 fun σ' R' => h1 g2 σ' H1 l2.toLe (Nat.le_refl _) R'⟩
      · exact h1.elim
    · exact h1.elim
/-! ### list(range(n)) -/
def mLr1 (m : M) : M := fun sl s => mW m (fun w _ s => match w with
  | .f (.int n) => if decide (0 ≤ n) && decide (n ≤ 1000) then .ok (.fr (.lst (rgF 0 1 n.toNat))) s else .bad
  | _ => .bad) sl s
theorem rg_reps {K : PySem.W.Frag} {S : Hp} (n : Nat) : Reps K S (rgF 0 1 n) (rgV 0 (n : Int)) := by
  have e : (rgV 0 (n : Int)) = (List.range n).map fun i => V.int (0 + (i : Nat)) := by
    unfold rgV
    have : ((n : Int) - 0).toNat = n := by omega
    rw [this]
  rw [e]
  unfold rgF
  generalize List.range n = l
  induction l with
  | nil => exact .nil
  | cons a l ih => exact .cons (by simp only [Rep, Int.mul_one]) ih
theorem de_lr1 {a : Expr} {ma : M} {p p2 pos pos2 : Pos} (hc : X.calm = true) (hg : Gl X "list") (hm : X.mg "list" = none) (hg2 : Gl X "range") (hm2 : X.mg "range" = none) (ha : DE X G a ma) (na : starEach [a] X.env = (false, eval a X.env) :: starEach [] X.env := by rfl)
    (nb : starEach [.Call (.Name "range" p2) [a] [] pos2] X.env = (false, eval (.Call (.Name "range" p2) [a] [] pos2) X.env) :: starEach [] X.env := by rfl) : DE X G (.Call (.Name "list" p) [.Call (.Name "range" p2) [a] [] pos2] [] pos) (mLr1 ma) :=
  (pe_listRg hc hg hm (prg_1 hg2 hm2 ha na) nb).wk fun σ H Q ⟨g, sl, s, R, h⟩ => tD.first R h fun v w g1 s1 H1 l1 n1 R1 r1 h1 => by
    split at h1
    · rename_i n
      split at h1
      · rename_i hh
        simp only [Bool.and_eq_true, decide_eq_true_eq] at hh
        refine ⟨n, int_of r1, RgOk.of_le (Int.le_refl _) (by omega) (by omega) hh.1, fun q hq => ?_⟩
        have e : ((n.toNat : Nat) : Int) = n := Int.toNat_of_nonneg hh.1
        have := rg_reps (K := X.K) (S := g1.S) n.toNat
        rw [e] at this
        exact post_of (op := .new (.lst (rgF 0 1 n.toNat))) R1 h1 q _ hq this
      · exact h1.elim
    · exact h1.elim
end
end Fm

/-! GA: facts of classes, by address. -/
namespace Fm
open PySem L2
def clsL (l : List (Str × Addr)) (s : Str) : Addr := (l.lookup s).getD 0
section
variable {K : PySem.W.Frag} {mg : Str → Option Value} {cls : Str → Addr} {x c c0 : Str} {a b : Addr} {r : Bool}
theorem xcf_mk (h : cls x = a) (g : mg x = some (.ref a)) (q : PySem.W.excIn K a [.type "ValueError", .type "Exception", .type "BaseException", .type "object"] "ValueError.__new__" = true) (k : PySem.W.keepIn K (.ref a) = true)
    (b : PySem.W.subIn K (.ref a) (.type "BaseException") = some true) (t : PySem.W.typeIn K (.ref a) = some (.type "type")) : XcF K mg cls x := by
  subst h; exact ⟨g, q, k, b, t⟩
theorem exm_mk (h1 : cls c = a) (h2 : cls c0 = b) (hb : PySem.W.subIn K (.ref b) (.type "BaseException") = some true) (hd : PySem.W.hasDictIn K b = true) (ht : PySem.W.typeIn K (.ref b) = some (.type "type")) (hs : PySem.W.subIn K (.ref a) (.ref b) = some r) (e : exSub c c0 = r) :
    PySem.W.exmOne K (.ref (cls c)) (.ref (cls c0)) = some (exSub c c0) := by
  subst h1 h2 e; exact PySem.W.exm_ref hb hd ht hs
theorem kit_mk (h1 : cls c = a) (h2 : cls c0 = b) (hd : PySem.W.hasDictIn K b = true) (ht : PySem.W.typeIn K (.ref b) = some (.type "type")) (hs : PySem.W.subIn K (.ref a) (.ref b) = some r) (hr : a = b → r = true) (e : exSub c c0 = r) : PySem.W.kitOne K (.ref (cls c)) (.ref (cls c0)) = some (exSub c c0) := by
  subst h1 h2 e
  obtain ⟨cd, hc, _⟩ := PySem.W.any_some hd
  unfold PySem.W.kitOne
  by_cases q : cls c = cls c0
  · rw [q, if_pos (beq_self_eq_true _), hr q]
  · have : ¬ (Value.ref (cls c) == Value.ref (cls c0)) = true := fun z => q (Value.ref.inj (beq_iff_eq.mp z))
    rw [if_neg this]
    unfold PySem.W.kitCls
    have e2 : ((PySem.W.clsIn K (cls c0)).isSome && PySem.W.typeIn K (.ref (cls c0)) == some (.type "type")) = true := by rw [hc, ht] <;> rfl
    show (if ((PySem.W.clsIn K (cls c0)).isSome && PySem.W.typeIn K (.ref (cls c0)) == some (.type "type")) = true then PySem.W.subIn K (.ref (cls c)) (.ref (cls c0)) else none) = _
    rw [if_pos e2]
    exact hs
theorem kitV_mk (h1 : cls c = a) (hs : PySem.W.subIn K (.ref a) (.type "ValueError") = some true) (e : exSub c "ValueError" = true) : PySem.W.kitOne K (.ref (cls c)) (.type "ValueError") = some (exSub c "ValueError") := by
  subst h1
  rw [e]
  unfold PySem.W.kitOne
  have : ¬ (Value.ref (cls c) == Value.type "ValueError") = true := fun z => nomatch beq_iff_eq.mp z
  rw [if_neg this]
  unfold PySem.W.kitCls
  have e2 : PySem.W.kitMeta "ValueError" = true := by decide +kernel
  show (if PySem.W.kitMeta "ValueError" = true then PySem.W.subIn K (.ref (cls c)) (.type "ValueError") else none) = _
  rw [if_pos e2]
  exact hs
theorem mgc_mk (h1 : cls c = a) (g : mg c = some (.ref a)) : mg c = some (.ref (cls c)) := by
  subst h1; exact g
theorem exC_mk (h1 : cls c = a) (h : ExcC K a) : ExcC K (cls c) := by
  subst h1; exact h
end
end Fm

/-! GB: evaluation, one part after the other (no part is looked at ahead of its turn). -/
namespace Fm
open PySem L2
/-! ### expressions -/
def kB2 (f : F → F → Op) (w : W) (sl : List Sl) : Y → Sto → R Y := fun y s => op2 f w (frz y) sl s
def kB1 (f : F → F → Op) (b : M) (sl : List Sl) : Y → Sto → R Y := fun y s => (b sl s).bind (kB2 f (frz y) sl)
@[simp] theorem e_mB (f : F → F → Op) (a b : M) (sl : List Sl) (s : Sto) : mB f a b sl s = (a sl s).bind (kB1 f b sl) := rfl
@[simp] theorem e_kB1 (f : F → F → Op) (b : M) (sl : List Sl) (y : Y) (s : Sto) : kB1 f b sl y s = (b sl s).bind (kB2 f (frz y) sl) := rfl
@[simp] theorem e_kB2 (f : F → F → Op) (w : W) (sl : List Sl) (y : Y) (s : Sto) : kB2 f w sl y s = op2 f w (frz y) sl s := rfl
def kU (f : F → Op) (sl : List Sl) : Y → Sto → R Y := fun y s => op1 f (frz y) sl s
@[simp] theorem e_mU (f : F → Op) (a : M) (sl : List Sl) (s : Sto) : mU f a sl s = (a sl s).bind (kU f sl) := rfl
@[simp] theorem e_kU (f : F → Op) (sl : List Sl) (y : Y) (s : Sto) : kU f sl y s = op1 f (frz y) sl s := rfl
def kN (f : List F → Op) (sl : List Sl) : List W → Sto → R Y := fun ws s => opN f ws sl s
@[simp] theorem e_mN (f : List F → Op) (a : MA) (sl : List Sl) (s : Sto) : mN f a sl s = (a sl s).bind (kN f sl) := rfl
@[simp] theorem e_kN (f : List F → Op) (sl : List Sl) (ws : List W) (s : Sto) : kN f sl ws s = opN f ws sl s := rfl
def kCal (psi : Psi) : List W → Sto → R Y := fun ws s => if ws.all argOk then psi ws s else .bad
@[simp] theorem e_mCall (psi : Psi) (a : MA) (sl : List Sl) (s : Sto) : mCall psi a sl s = (a sl s).bind (kCal psi) := rfl
@[simp] theorem e_kCal (psi : Psi) (ws : List W) (s : Sto) : kCal psi ws s = if ws.all argOk then psi ws s else .bad := rfl
def kA2 (w : W) : List W → Sto → R (List W) := fun ws s => .ok (w :: ws) s
def kA1 (r : MA) (sl : List Sl) : Y → Sto → R (List W) := fun y s => (r sl s).bind (kA2 (frz y))
@[simp] theorem e_aCons (m : M) (r : MA) (sl : List Sl) (s : Sto) : aCons m r sl s = (m sl s).bind (kA1 r sl) := rfl
@[simp] theorem e_kA1 (r : MA) (sl : List Sl) (y : Y) (s : Sto) : kA1 r sl y s = (r sl s).bind (kA2 (frz y)) := rfl
@[simp] theorem e_kA2 (w : W) (ws : List W) (s : Sto) : kA2 w ws s = .ok (w :: ws) s := rfl
def kAnd (b : M) (sl : List Sl) : Y → Sto → R Y := fun y s => match y with
  | .w (.f (.bl true)) => b sl s
  | .w (.f (.bl false)) => .ok (.w (.f (.bl false))) s
  | _ => .bad
@[simp] theorem e_mAnd (a b : M) (sl : List Sl) (s : Sto) : mAnd a b sl s = (a sl s).bind (kAnd b sl) := rfl
@[simp] theorem e_kAnd_t (b : M) (sl : List Sl) (s : Sto) : kAnd b sl (.w (.f (.bl true))) s = b sl s := rfl
@[simp] theorem e_kAnd_f (b : M) (sl : List Sl) (s : Sto) : kAnd b sl (.w (.f (.bl false))) s = .ok (.w (.f (.bl false))) s := rfl
@[simp] theorem e_kAnd_b (c : Bool) (b : M) (sl : List Sl) (s : Sto) : kAnd b sl (.w (.f (.bl c))) s = if c = true then b sl s else .ok (.w (.f (.bl false))) s := by cases c <;> rfl
def kOr (b : M) (sl : List Sl) : Y → Sto → R Y := fun y s => match y with
  | .w (.f (.bl false)) => b sl s
  | .w (.f (.bl true)) => .ok (.w (.f (.bl true))) s
  | _ => .bad
@[simp] theorem e_mOr (a b : M) (sl : List Sl) (s : Sto) : mOr a b sl s = (a sl s).bind (kOr b sl) := rfl
@[simp] theorem e_kOr_b (c : Bool) (b : M) (sl : List Sl) (s : Sto) : kOr b sl (.w (.f (.bl c))) s = if c = true then .ok (.w (.f (.bl true))) s else b sl s := by cases c <;> rfl
def kIfM (a b : M) (sl : List Sl) : Y → Sto → R Y := fun y s => match y with
  | .w (.f (.bl true)) => a sl s
  | .w (.f (.bl false)) => b sl s
  | _ => .bad
@[simp] theorem e_mIf (t a b : M) (sl : List Sl) (s : Sto) : mIf t a b sl s = (t sl s).bind (kIfM a b sl) := rfl
@[simp] theorem e_kIfM (c : Bool) (a b : M) (sl : List Sl) (s : Sto) : kIfM a b sl (.w (.f (.bl c))) s = if c = true then a sl s else b sl s := by cases c <;> rfl
def kCh3 (g : F → F → Op) (c : M) (u : W) (sl : List Sl) : Y → Sto → R Y := fun y s => match y with
  | .w (.f (.bl true)) => (c sl s).bind (kB2 g u sl)
  | .w (.f (.bl false)) => .ok (.w (.f (.bl false))) s
  | _ => .bad
def kCh2 (f g : F → F → Op) (c : M) (w : W) (sl : List Sl) : Y → Sto → R Y := fun y s => (op2 f w (frz y) sl s).bind (kCh3 g c (frz y) sl)
def kCh1 (f g : F → F → Op) (b c : M) (sl : List Sl) : Y → Sto → R Y := fun y s => (b sl s).bind (kCh2 f g c (frz y) sl)
@[simp] theorem e_mCh (f g : F → F → Op) (a b c : M) (sl : List Sl) (s : Sto) : mCh f g a b c sl s = (a sl s).bind (kCh1 f g b c sl) := rfl
@[simp] theorem e_kCh1 (f g : F → F → Op) (b c : M) (sl : List Sl) (y : Y) (s : Sto) : kCh1 f g b c sl y s = (b sl s).bind (kCh2 f g c (frz y) sl) := rfl
@[simp] theorem e_kCh2 (f g : F → F → Op) (c : M) (w : W) (sl : List Sl) (y : Y) (s : Sto) : kCh2 f g c w sl y s = (op2 f w (frz y) sl s).bind (kCh3 g c (frz y) sl) := rfl
@[simp] theorem e_kCh3 (g : F → F → Op) (c : M) (u : W) (sl : List Sl) (b : Bool) (s : Sto) : kCh3 g c u sl (.w (.f (.bl b))) s = if b = true then (c sl s).bind (kB2 g u sl) else .ok (.w (.f (.bl false))) s := by cases b <;> rfl
/-! slices -/
def kS2 (f : F → Option Int → Option Int → Op) (w : W) (i : Option Int) (sl : List Sl) : Y → Sto → R Y := fun y s => match frz y with
  | .f (.int j) => op1 (fun x => f x i (some j)) w sl s
  | _ => .bad
def kS1 (f : F → Option Int → Option Int → Op) (w : W) (hi : M) (sl : List Sl) : Y → Sto → R Y := fun y s => match frz y with
  | .f (.int i) => (hi sl s).bind (kS2 f w (some i) sl)
  | _ => .bad
def kS1n (f : F → Option Int → Option Int → Op) (w : W) (sl : List Sl) : Y → Sto → R Y := fun y s => match frz y with
  | .f (.int i) => op1 (fun x => f x (some i) none) w sl s
  | _ => .bad
def kSl (f : F → Option Int → Option Int → Op) (lo hi : MO) (sl : List Sl) : Y → Sto → R Y := fun y s => match lo, hi with
  | none, none => op1 (fun x => f x none none) (frz y) sl s
  | none, some h => (h sl s).bind (kS2 f (frz y) none sl)
  | some l, none => (l sl s).bind (kS1n f (frz y) sl)
  | some l, some h => (l sl s).bind (kS1 f (frz y) h sl)
@[simp] theorem e_mSl (f : F → Option Int → Option Int → Op) (a : M) (lo hi : MO) (sl : List Sl) (s : Sto) : mSl f a lo hi sl s = (a sl s).bind (kSl f lo hi sl) := by
  have go : ∀ (r : R Y) (k1 k2 : Y → Sto → R Y), (∀ y s, k1 y s = k2 y s) → r.bind k1 = r.bind k2 := fun r k1 k2 h => by cases r <;> first | rfl | exact h _ _
  unfold mSl mW
  refine go _ _ _ fun y s => ?_
  cases lo <;> cases hi
  · rfl
  · show (_ : R Y).bind _ = (_ : R Y).bind _
    refine go _ _ _ fun y2 s2 => ?_
    unfold kS2
    generalize frz y2 = w2
    cases w2 with
    | f x => cases x <;> rfl
    | _ => rfl
  · show (_ : R Y).bind _ = (_ : R Y).bind _
    refine go _ _ _ fun y2 s2 => ?_
    unfold kS1n
    generalize frz y2 = w2
    cases w2 with
    | f x => cases x <;> rfl
    | _ => rfl
  · show (_ : R Y).bind _ = (_ : R Y).bind _
    refine go _ _ _ fun y2 s2 => ?_
    unfold kS1
    generalize frz y2 = w2
    cases w2 with
    | f x => cases x <;> rfl
    | _ => rfl
@[simp] theorem e_kSl_nn (f : F → Option Int → Option Int → Op) (sl : List Sl) (y : Y) (s : Sto) : kSl f none none sl y s = op1 (fun x => f x none none) (frz y) sl s := rfl
@[simp] theorem e_kSl_ns (f : F → Option Int → Option Int → Op) (h : M) (sl : List Sl) (y : Y) (s : Sto) : kSl f none (some h) sl y s = (h sl s).bind (kS2 f (frz y) none sl) := rfl
@[simp] theorem e_kSl_sn (f : F → Option Int → Option Int → Op) (l : M) (sl : List Sl) (y : Y) (s : Sto) : kSl f (some l) none sl y s = (l sl s).bind (kS1n f (frz y) sl) := rfl
@[simp] theorem e_kSl_ss (f : F → Option Int → Option Int → Op) (l h : M) (sl : List Sl) (y : Y) (s : Sto) : kSl f (some l) (some h) sl y s = (l sl s).bind (kS1 f (frz y) h sl) := rfl
@[simp] theorem e_kS2 (f : F → Option Int → Option Int → Op) (w : W) (i : Option Int) (sl : List Sl) (j : Int) (s : Sto) : kS2 f w i sl (.w (.f (.int j))) s = op1 (fun x => f x i (some j)) w sl s := rfl
@[simp] theorem e_kS1 (f : F → Option Int → Option Int → Op) (w : W) (hi : M) (sl : List Sl) (i : Int) (s : Sto) : kS1 f w hi sl (.w (.f (.int i))) s = (hi sl s).bind (kS2 f w (some i) sl) := rfl
@[simp] theorem e_kS1n (f : F → Option Int → Option Int → Op) (w : W) (sl : List Sl) (i : Int) (s : Sto) : kS1n f w sl (.w (.f (.int i))) s = op1 (fun x => f x (some i) none) w sl s := rfl
/-! methods, makings -/
def kMe2 (psi : Psi) (k : Nat) : List W → Sto → R Y := fun ws s => if ws.all argOk then psi (.c k :: ws) s else .bad
def kMe1 (psi : Psi) (m : Str) (a : MA) (sl : List Sl) : Y → Sto → R Y := fun y s1 => match frz y with
  | .c k => match s1.O[k]? with
    | some (.ins fs) => if fs.lookup m = none then (a sl s1).bind (kMe2 psi k) else .bad
    | _ => .bad
  | _ => .bad
@[simp] theorem e_mMeth (psi : Psi) (m : Str) (o : M) (a : MA) (sl : List Sl) (s : Sto) : mMeth psi m o a sl s = (o sl s).bind (kMe1 psi m a sl) := rfl
theorem e_kMe1 {psi : Psi} {m : Str} {a : MA} {sl : List Sl} {k : Nat} {s : Sto} {fs : List (Str × Nat)} (h : s.O[k]? = some (.ins fs)) (hm : fs.lookup m = none) : kMe1 psi m a sl (.w (.c k)) s = (a sl s).bind (kMe2 psi k) := by
  unfold kMe1
  simp [h, hm]
@[simp] theorem e_kMe2 (psi : Psi) (k : Nat) (ws : List W) (s : Sto) : kMe2 psi k ws s = if ws.all argOk then psi (.c k :: ws) s else .bad := rfl
def kMk (psi : Psi) : List W → Sto → R Y := fun ws s1 => if ws.all argOk then
    match psi (.c s1.O.length :: ws) { s1 with O := s1.O ++ [.ins []] } with
    | .ok (.w (.f .non)) s2 => .ok (.w (.c s1.O.length)) s2
    | .exc c s2 => if bOk s1 s2 then .exc c (s1.back s2) else .bad
    | _ => .bad
  else .bad
@[simp] theorem e_mMake (psi : Psi) (a : MA) (sl : List Sl) (s : Sto) : mMake psi a sl s = (a sl s).bind (kMk psi) := rfl
/-! d.get(k, x) -/
def kG3 (w u : W) (sl : List Sl) : Y → Sto → R Y := fun y s => match pk sl s w, pk sl s u with
    | some (.dct kvs), some k => match kOf k with
      | some k => match vK kvs k with
        | some x => .ok (.w (.f x)) s
        | none => .ok (.w (frz y)) s
      | none => .bad
    | _, _ => .bad
def kG2 (mx : M) (w : W) (sl : List Sl) : Y → Sto → R Y := fun y s => (mx sl s).bind (kG3 w (frz y) sl)
def kG1 (mk mx : M) (sl : List Sl) : Y → Sto → R Y := fun y s => match pk sl s (frz y) with
  | some (.dct _) => (mk sl s).bind (kG2 mx (frz y) sl)
  | _ => .bad
@[simp] theorem e_mGet (md mk mx : M) (sl : List Sl) (s : Sto) : mGet md mk mx sl s = (md sl s).bind (kG1 mk mx sl) := by
  have go : ∀ (r : R Y) (k1 k2 : Y → Sto → R Y), (∀ y s, k1 y s = k2 y s) → r.bind k1 = r.bind k2 := fun r k1 k2 h => by cases r <;> first | rfl | exact h _ _
  unfold mGet mW
  refine go _ _ _ fun y s => ?_
  unfold kG1
  cases e : pk sl s (frz y) with
  | none => simp only [e]
  | some x => cases x <;> simp only [e] <;> rfl
theorem e_kG1 {mk mx : M} {sl : List Sl} {y : Y} {s : Sto} {kvs : List (Key × F)} (h : pk sl s (frz y) = some (.dct kvs)) : kG1 mk mx sl y s = (mk sl s).bind (kG2 mx (frz y) sl) := by
  unfold kG1; rw [h]
@[simp] theorem e_kG2 (mx : M) (w : W) (sl : List Sl) (y : Y) (s : Sto) : kG2 mx w sl y s = (mx sl s).bind (kG3 w (frz y) sl) := rfl
theorem e_kG3 {w u : W} {sl : List Sl} {y : Y} {s : Sto} {kvs : List (Key × F)} {kf : F} {k : Key} (h : pk sl s w = some (.dct kvs)) (hu : pk sl s u = some kf) (hk : kOf kf = some k) : kG3 w u sl y s = match vK kvs k with
        | some x => .ok (.w (.f x)) s
        | none => .ok (.w (frz y)) s := by
  unfold kG3; rw [h, hu]; simp only [hk]
/-! ### statements -/
def kIf (a b : MS) (sl : List Sl) : Y → Sto → RS := fun y s => match y with
  | .w (.f (.bl true)) => a sl s
  | .w (.f (.bl false)) => b sl s
  | _ => .bad
@[simp] theorem e_sIf (t : M) (a b : MS) (sl : List Sl) (s : Sto) : sIf t a b sl s = (t sl s).st sl (kIf a b sl) := rfl
@[simp] theorem e_kIf (c : Bool) (a b : MS) (sl : List Sl) (s : Sto) : kIf a b sl (.w (.f (.bl c))) s = if c = true then a sl s else b sl s := by cases c <;> rfl
def kFor (i : Nat) (body : MS) (sl : List Sl) : List F → Sto → RS := fun xs s => loopF i body xs sl s
@[simp] theorem e_sFor (i : Nat) (it : MI) (body : MS) (sl : List Sl) (s : Sto) : sFor i it body sl s = (it sl s).st sl (kFor i body sl) := rfl
@[simp] theorem e_kFor (i : Nat) (body : MS) (sl : List Sl) (xs : List F) (s : Sto) : kFor i body sl xs s = loopF i body xs sl s := rfl
def kWh (t : M) (body : MS) (n : Nat) (sl : List Sl) : Y → Sto → RS := fun y s1 => match y with
    | .w (.f (.bl true)) => match body sl s1 with
      | .nx sl1 s2 => sWhile t body n sl1 s2
      | .ct sl1 s2 => sWhile t body n sl1 s2
      | .bk sl1 s2 => .nx sl1 s2
      | r => r
    | .w (.f (.bl false)) => .nx sl s1
    | _ => .bad
theorem e_sWhile (t : M) (body : MS) (n : Nat) (sl : List Sl) (s : Sto) : sWhile t body (n + 1) sl s = (t sl s).st sl (kWh t body n sl) := rfl
@[simp] theorem e_kWh_f (t : M) (body : MS) (n : Nat) (sl : List Sl) (s : Sto) : kWh t body n sl (.w (.f (.bl false))) s = .nx sl s := rfl
theorem e_kWh_t {t : M} {body : MS} {n : Nat} {sl sl1 : List Sl} {s s1 : Sto} (h : body sl s = .nx sl1 s1) : kWh t body n sl (.w (.f (.bl true))) s = sWhile t body n sl1 s1 := by
  unfold kWh; simp only [h]
def kPL3 (wo wv : W) (sl : List Sl) : Y → Sto → RS := fun y s => putL wo (frz y) wv sl s
def kPL2 (mi : M) (wv : W) (sl : List Sl) : Y → Sto → RS := fun y s => (mi sl s).st sl (kPL3 (frz y) wv sl)
def kPL1 (mo mi : M) (sl : List Sl) : Y → Sto → RS := fun y s => (mo sl s).st sl (kPL2 mi (frz y) sl)
@[simp] theorem e_sPutL (mo mi mv : M) (sl : List Sl) (s : Sto) : sPutL mo mi mv sl s = (mv sl s).st sl (kPL1 mo mi sl) := rfl
@[simp] theorem e_kPL1 (mo mi : M) (sl : List Sl) (y : Y) (s : Sto) : kPL1 mo mi sl y s = (mo sl s).st sl (kPL2 mi (frz y) sl) := rfl
@[simp] theorem e_kPL2 (mi : M) (wv : W) (sl : List Sl) (y : Y) (s : Sto) : kPL2 mi wv sl y s = (mi sl s).st sl (kPL3 (frz y) wv sl) := rfl
@[simp] theorem e_kPL3 (wo wv : W) (sl : List Sl) (y : Y) (s : Sto) : kPL3 wo wv sl y s = putL wo (frz y) wv sl s := rfl
def kPD3 (wo wv : W) (sl : List Sl) : Y → Sto → RS := fun y s => putD wo (frz y) wv sl s
def kPD2 (mi : M) (wv : W) (sl : List Sl) : Y → Sto → RS := fun y s => (mi sl s).st sl (kPD3 (frz y) wv sl)
def kPD1 (mo mi : M) (sl : List Sl) : Y → Sto → RS := fun y s => (mo sl s).st sl (kPD2 mi (frz y) sl)
@[simp] theorem e_sPutD (mo mi mv : M) (sl : List Sl) (s : Sto) : sPutD mo mi mv sl s = (mv sl s).st sl (kPD1 mo mi sl) := rfl
@[simp] theorem e_kPD1 (mo mi : M) (sl : List Sl) (y : Y) (s : Sto) : kPD1 mo mi sl y s = (mo sl s).st sl (kPD2 mi (frz y) sl) := rfl
@[simp] theorem e_kPD2 (mi : M) (wv : W) (sl : List Sl) (y : Y) (s : Sto) : kPD2 mi wv sl y s = (mi sl s).st sl (kPD3 (frz y) wv sl) := rfl
@[simp] theorem e_kPD3 (wo wv : W) (sl : List Sl) (y : Y) (s : Sto) : kPD3 wo wv sl y s = putD wo (frz y) wv sl s := rfl
def kAp2 (wo : W) (sl : List Sl) : Y → Sto → RS := fun y s => appL wo (frz y) sl s
def kAp1 (me : M) (sl : List Sl) : Y → Sto → RS := fun y s => match pk sl s (frz y) with
  | some (.lst _) => (me sl s).st sl (kAp2 (frz y) sl)
  | _ => .bad
theorem st_ext {r : R Y} {sl : List Sl} {k1 k2 : Y → Sto → RS} (h : ∀ y s, k1 y s = k2 y s) : r.st sl k1 = r.st sl k2 := by cases r <;> first | rfl | exact h _ _
@[simp] theorem e_sAppL (mo me : M) (sl : List Sl) (s : Sto) : sAppL mo me sl s = (mo sl s).st sl (kAp1 me sl) := by
  unfold sAppL sW
  refine st_ext fun y s => ?_
  unfold chkL kAp1
  cases e : pk sl s (frz y) with
  | none => simp only [e]
  | some x => cases x <;> simp only [e] <;> rfl
theorem e_kAp1 {me : M} {sl : List Sl} {y : Y} {s : Sto} {xs : List F} (h : pk sl s (frz y) = some (.lst xs)) : kAp1 me sl y s = (me sl s).st sl (kAp2 (frz y) sl) := by
  unfold kAp1; rw [h]
@[simp] theorem e_kAp1o {me : M} {sl : List Sl} {i : Nat} {s : Sto} {xs : List F} (h : sl[i]? = some (.own (.lst xs))) : kAp1 me sl (.w (.o i)) s = (me sl s).st sl (kAp2 (.o i) sl) := e_kAp1 (xs := xs) (by simp [h])
@[simp] theorem e_kAp1c {me : M} {sl : List Sl} {k : Nat} {s : Sto} {xs : List F} (h : s.O[k]? = some (.lst xs)) : kAp1 me sl (.w (.c k)) s = (me sl s).st sl (kAp2 (.c k) sl) := e_kAp1 (xs := xs) (by simp [h])
@[simp] theorem e_kAp2 (wo : W) (sl : List Sl) (y : Y) (s : Sto) : kAp2 wo sl y s = appL wo (frz y) sl s := rfl
def kPp2 (wo : W) (sl : List Sl) : Y → Sto → RS := fun y s => popD wo (frz y) sl s
def kPp1 (mk : M) (sl : List Sl) : Y → Sto → RS := fun y s => match pk sl s (frz y) with
  | some (.dct _) => (mk sl s).st sl (kPp2 (frz y) sl)
  | _ => .bad
@[simp] theorem e_sPopD (mo mk : M) (sl : List Sl) (s : Sto) : sPopD mo mk sl s = (mo sl s).st sl (kPp1 mk sl) := by
  unfold sPopD sW
  refine st_ext fun y s => ?_
  unfold chkD kPp1
  cases e : pk sl s (frz y) with
  | none => simp only [e]
  | some x => cases x <;> simp only [e] <;> rfl
theorem e_kPp1 {mk : M} {sl : List Sl} {y : Y} {s : Sto} {xs : List (Key × F)} (h : pk sl s (frz y) = some (.dct xs)) : kPp1 mk sl y s = (mk sl s).st sl (kPp2 (frz y) sl) := by
  unfold kPp1; rw [h]
@[simp] theorem e_kPp1o {mk : M} {sl : List Sl} {i : Nat} {s : Sto} {xs : List (Key × F)} (h : sl[i]? = some (.own (.dct xs))) : kPp1 mk sl (.w (.o i)) s = (mk sl s).st sl (kPp2 (.o i) sl) := e_kPp1 (xs := xs) (by simp [h])
@[simp] theorem e_kPp1c {mk : M} {sl : List Sl} {k : Nat} {s : Sto} {xs : List (Key × F)} (h : s.O[k]? = some (.dct xs)) : kPp1 mk sl (.w (.c k)) s = (mk sl s).st sl (kPp2 (.c k) sl) := e_kPp1 (xs := xs) (by simp [h])
@[simp] theorem e_kPp2 (wo : W) (sl : List Sl) (y : Y) (s : Sto) : kPp2 wo sl y s = popD wo (frz y) sl s := rfl
@[simp] def kClD (sl : List Sl) : Y → Sto → RS := fun y s => match pk sl s (frz y) with
  | some (.dct _) => nxP (poke (frz y) (.dct []) sl s)
  | _ => .bad
@[simp] theorem e_sClrD (mo : M) (sl : List Sl) (s : Sto) : sClrD mo sl s = (mo sl s).st sl (kClD sl) := by
  unfold sClrD sW
  refine st_ext fun y s => ?_
  unfold kClD
  cases e : pk sl s (frz y) with
  | none => simp only [e]
  | some x => cases x <;> simp only [e] <;> rfl
@[simp] def kClL (sl : List Sl) : Y → Sto → RS := fun y s => match pk sl s (frz y) with
  | some (.lst _) => nxP (poke (frz y) (.lst []) sl s)
  | _ => .bad
@[simp] theorem e_sClrL (mo : M) (sl : List Sl) (s : Sto) : sClrL mo sl s = (mo sl s).st sl (kClL sl) := by
  unfold sClrL sW
  refine st_ext fun y s => ?_
  unfold kClL
  cases e : pk sl s (frz y) with
  | none => simp only [e]
  | some x => cases x <;> simp only [e] <;> rfl
def kFD (i : Nat) (body : MS) (sl : List Sl) : W × List (Key × F) → Sto → RS := fun p s => (loopF i body (keysF p.2) sl { s with lk := p.1 :: s.lk }).unl
@[simp] theorem e_sForD (i : Nat) (m : M) (body : MS) (sl : List Sl) (s : Sto) : sForD i m body sl s = (dW m sl s).st sl (kFD i body sl) := rfl
@[simp] theorem e_kFD (i : Nat) (body : MS) (sl : List Sl) (p : W × List (Key × F)) (s : Sto) : kFD i body sl p s = (loopF i body (keysF p.2) sl { s with lk := p.1 :: s.lk }).unl := rfl
theorem dW_eq {m : M} {sl : List Sl} {s s1 : Sto} {y : Y} {kvs : List (Key × F)} (h : m sl s = .ok y s1) (e : pk sl s1 (frz y) = some (.dct kvs)) (u : unlk (frz y) s1.lk = true) : dW m sl s = .ok (frz y, kvs) s1 := by
  unfold dW; rw [h]; simp only [Fm.R.bind_ok, e, u, if_true]
end Fm

/-! GC: a call's new dict gets an entry. -/
namespace Fm
open PySem L2
def kPT2 (mi : M) (wv : W) (sl : List Sl) : Y → Sto → RS := fun y s1 => match y with
  | .fr c => sW mi (fun wi => putD (.c s1.O.length) wi wv) sl { s1 with O := s1.O ++ [c] }
  | _ => .bad
def kPT1 (mo mi : M) (sl : List Sl) : Y → Sto → RS := fun y s => (mo sl s).st sl (kPT2 mi (frz y) sl)
/-- f()[i] = v, a new dict -/
def sPutT (mo mi mv : M) : MS := fun sl s => (mv sl s).st sl (kPT1 mo mi sl)
@[simp] theorem e_sPutT (mo mi mv : M) (sl : List Sl) (s : Sto) : sPutT mo mi mv sl s = (mv sl s).st sl (kPT1 mo mi sl) := rfl
@[simp] theorem e_kPT1 (mo mi : M) (sl : List Sl) (y : Y) (s : Sto) : kPT1 mo mi sl y s = (mo sl s).st sl (kPT2 mi (frz y) sl) := rfl
@[simp] theorem e_kPT2 (mi : M) (wv : W) (sl : List Sl) (c : Ct) (s : Sto) : kPT2 mi wv sl (.fr c) s = (mi sl { s with O := s.O ++ [c] }).st sl (kPD3 (.c s.O.length) wv sl) := rfl
theorem ds_putT {X : Cx} {G : Gc} {o i e : Expr} {mo mi me : M} {pos p2 : Pos} (hu : X.A.units + 1 < cLine) (ho : DE X G o mo) (hi : DE X G i mi) (he : DE X G e me) (hs : swapsWith e (some (.Subscript o i p2)) pos.line X.env = pure false := by rfl) : DS X G (.Assign [.Subscript o i p2] e pos) (sPutT mo mi me) :=
  (ps_dput hu ho hi he hs).wk fun D σ H ⟨g, sl, s, R, h⟩ => tD.sw (k := fun wv => fun sl s => (mo sl s).st sl (kPT2 mi wv sl)) R h fun v wv g1 s1 H1 l1 n1 R1 r1 h1 => tD.st R1 h1 fun ov y g2 s2 H2 l2 n2 R2 r2 h2 => by
    unfold kPT2 at h2
    split at h2
    · rename_i c
      obtain ⟨p, rfl, f⟩ := r2
      obtain ⟨Rp, lp⟩ := R2.push f
      have np : s2.O.length ≤ (s2.O ++ [c]).length := by simp
      have rp : RepW X.K { g2 with rc := fun k => if k = s2.O.length then p else g2.rc k } (s2.O ++ [c]).length (.c s2.O.length) (.ref p) := ⟨by simp, by
        show V.ref p = .ref (if s2.O.length = s2.O.length then p else g2.rc s2.O.length)
        rw [if_pos rfl]⟩
      refine tD.sw Rp (OkS.back h2 lp.toLe np) fun iv wi g3 s3 H3 l3 n3 R3 r3 h3 => ?_
      have np3 : s2.O.length ≤ s3.O.length := Nat.le_trans np n3
      simp only [putD] at h3
      split at h3
      · rename_i x y kvs e1
        split at h3
        · rename_i k ek
          split at h3
          · rename_i hz
            obtain ⟨sl', s', ep⟩ := nx_some h3
            have rv : RepW X.K g3 s3.O.length (.f x) v := ((r1.le l2 n2).le lp np).le l3 n3
            have ro := rp.le l3 n3
            obtain ⟨a, vs, ea0, ha, hr⟩ := R3.plain_dct ro e1 ep
            obtain ⟨a', ea, R4, hl⟩ := R3.poke_dct ro e1 ep (RepK.put k rv hr)
            cases ea; cases ea0
            rw [ep] at h3
            have ey := kOf_rep' ek (S := g3.S) (K := X.K) r3
            exact ⟨p, _, rfl, .inl ⟨vs, k, ha, ey, by rw [← hr.length]; exact hz, rfl⟩, h3 g3 σ _ .rfl (Nat.le_of_eq hl.symm) R4⟩
          · exact h3.elim
        · exact h3.elim
      · exact h3.elim
    · exact h2.elim
def kIsN : Y → Sto → R Y := fun y s => .ok (.w (.f (.bl (isN (frz y))))) s
@[simp] theorem e_mIsN (a : M) (sl : List Sl) (s : Sto) : mIsN a sl s = (a sl s).bind kIsN := rfl
@[simp] theorem e_kIsN (y : Y) (s : Sto) : kIsN y s = .ok (.w (.f (.bl (isN (frz y))))) s := rfl
def kNoN : Y → Sto → R Y := fun y s => .ok (.w (.f (.bl (!isN (frz y))))) s
@[simp] theorem e_mNotN (a : M) (sl : List Sl) (s : Sto) : mNotN a sl s = (a sl s).bind kNoN := rfl
@[simp] theorem e_kNoN (y : Y) (s : Sto) : kNoN y s = .ok (.w (.f (.bl (!isN (frz y))))) s := rfl
def kLr1 : Y → Sto → R Y := fun y s => match frz y with
  | .f (.int n) => if decide (0 ≤ n) && decide (n ≤ 1000) then .ok (.fr (.lst (rgF 0 1 n.toNat))) s else .bad
  | _ => .bad
@[simp] theorem e_mLr1 (a : M) (sl : List Sl) (s : Sto) : mLr1 a sl s = (a sl s).bind kLr1 := by
  unfold mLr1 mW
  congr 1
@[simp] theorem e_kLr1 (n : Int) (s : Sto) : kLr1 (.w (.f (.int n))) s = if decide (0 ≤ n) && decide (n ≤ 1000) then .ok (.fr (.lst (rgF 0 1 n.toNat))) s else .bad := rfl
@[simp] def indexA : F → F → Op
  | .lst xs, .str y => match strsF xs with
    | some ys => if y ∈ ys then .val (.int (ys.idxOf y : Nat)) else .bad
    | none => .bad
  | _, _ => .bad
/-- o.index(e), names -/
def mIdx (mo me : M) : M := fun sl s => mW mo (fun wo sl s => match pk sl s wo with
  | some (.lst _) => mW me (fun we => op2 indexA wo we) sl s
  | _ => .bad) sl s
theorem de_index {X : Cx} {G : Gc} {o e : Expr} {mo me : M} {apos cpos : Pos} (ho : DE X G o mo) (he : DE X G e me) (hbase : attributeBase o "index" X.env (eval o X.env) = eval o X.env := by rfl)
    (hfew : ((backTo cpos (starEach [e] X.env)).all (fun x => !x.1) && (backToKw cpos (keywordEach [] X.env)).all (fun x => x.1.isSome)
      && decide (([e] : List Expr).length + ([] : List Keyword).length + (if ([] : List Keyword).isEmpty then 0 else 1) < 30)) = true := by rfl)
    (hline : (apos.endLine == cpos.line) = true := by rfl) (hs : starEach [e] X.env = (false, eval e X.env) :: starEach [] X.env := by rfl) :
    DE X G (.Call (.Attribute o "index" apos) [e] [] cpos) (mIdx mo me) :=
  (pe_bm PySem.F.plainAttrs_list PySem.F.slot_list_index PySem.F.type_list_index mt_index ho (pa_cons he pa_nil hs) hbase hfew hline hs rfl).wk fun σ H Q ⟨g, sl, s, R, h⟩ => tD.first R h fun v wo g1 s1 H1 l1 n1 R1 r1 h1 => by
    split at h1
    · rename_i xs0 e0
      obtain ⟨a, vs0, rfl, ha0, _⟩ := R1.peek r1 e0
      refine ⟨.inl ⟨rfl, _, .of ha0⟩, tD.first R1 h1 fun u we g2 s2 H2 l2 n2 R2 r2 h2 => ?_⟩
      unfold op2 at h2
      split at h2
      · rename_i x y e1 e2
        have p1 := R2.peek (r1.le l2 n2) e1
        have p2 := R2.peek r2 e2
        unfold indexA at h2
        split at h2
        · rename_i xs z
          obtain ⟨a', vs, ea, ha, hr⟩ := p1
          cases ea
          split at h2
          · rename_i ys ez
            split at h2
            · rename_i hm
              have ev := strsF_rep ez hr
              subst ev
              have ey : u = .str z := p2
              subst ey
              have hj : ys.idxOf z < ys.length := List.idxOf_lt_length_of_mem hm
              refine ⟨a, ys.map V.str, .str z, ys.idxOf z, .str z, rfl, rfl, .of ha, rfl, ?_, ?_, ?_, ?_, ?_⟩
              · rw [List.all_eq_true]; intro w hw; obtain ⟨b, _, rfl⟩ := List.mem_map.mp hw; rfl
              · rw [List.getElem?_map, List.getElem?_eq_getElem hj, List.getElem_idxOf]; rfl
              · simp [eqV]
              · intro m z' hm2 hz
                rw [List.getElem?_map] at hz
                have hml : m < ys.length := Nat.lt_trans hm2 hj
                rw [List.getElem?_eq_getElem hml] at hz
                cases hz
                have := List.not_of_lt_findIdx (p := (· == z)) (xs := ys) (i := m) hm2
                simp [eqV] at this ⊢
                exact this
              · exact h2 (.int (ys.idxOf z : Nat)) g2 H2 .rfl (Nat.le_refl _) R2 (show Rep X.K g2.S (.int (ys.idxOf z : Nat)) (.int (ys.idxOf z : Nat)) from rep_int)
            · exact h2.elim
          · exact h2.elim
        · exact h2.elim
      · exact h2.elim
    · exact h1.elim
def kIdx2 (wo : W) (sl : List Sl) : Y → Sto → R Y := fun y s => op2 indexA wo (frz y) sl s
def kIdx1 (me : M) (sl : List Sl) : Y → Sto → R Y := fun y s => match pk sl s (frz y) with
  | some (.lst _) => (me sl s).bind (kIdx2 (frz y) sl)
  | _ => .bad
@[simp] theorem e_mIdx (mo me : M) (sl : List Sl) (s : Sto) : mIdx mo me sl s = (mo sl s).bind (kIdx1 me sl) := by
  have go : ∀ (r : R Y) (k1 k2 : Y → Sto → R Y), (∀ y s, k1 y s = k2 y s) → r.bind k1 = r.bind k2 := fun r k1 k2 h => by cases r <;> first | rfl | exact h _ _
  unfold mIdx mW
  refine go _ _ _ fun y s => ?_
  unfold kIdx1
  cases e : pk sl s (frz y) with
  | none => simp only [e]
  | some x => cases x <;> simp only [e] <;> rfl
@[simp] theorem e_kIdx1 {me : M} {sl : List Sl} {xs : List F} {s : Sto} : kIdx1 me sl (.w (.f (.lst xs))) s = (me sl s).bind (kIdx2 (.f (.lst xs)) sl) := rfl
@[simp] theorem e_kIdx2 (wo : W) (sl : List Sl) (y : Y) (s : Sto) : kIdx2 wo sl y s = op2 indexA wo (frz y) sl s := rfl
/-- x = e: a new object in a cell, or a value -/
def kCelV (i : Nat) (sl : List Sl) : Y → Sto → RS := fun y s1 => match y with
  | .fr c => .nx (sl.set i (.v (.c s1.O.length))) { s1 with O := s1.O ++ [c] }
  | .w w => if slotOk w then .nx (sl.set i (.v w)) s1 else .bad
def sCelV (i : Nat) (m : M) : MS := fun sl s => (m sl s).st sl (kCelV i sl)
@[simp] theorem e_sCelV (i : Nat) (m : M) (sl : List Sl) (s : Sto) : sCelV i m sl s = (m sl s).st sl (kCelV i sl) := rfl
@[simp] theorem e_kCelV_f (i : Nat) (sl : List Sl) (c : Ct) (s1 : Sto) : kCelV i sl (.fr c) s1 = .nx (sl.set i (.v (.c s1.O.length))) { s1 with O := s1.O ++ [c] } := rfl
@[simp] theorem e_kCelV_w (i : Nat) (sl : List Sl) (w : W) (s1 : Sto) : kCelV i sl (.w w) s1 = if slotOk w then .nx (sl.set i (.v w)) s1 else .bad := rfl
theorem ds_celV {X : Cx} {G : Gc} {e : Expr} {me : M} {pos : Pos} (i : Nat) {x : Str} {p2 : Pos} (hN : X.N.Nodup) (hi : X.N[i]? = some x) (hx : Loc X.env.scope x) (hxs : G.fr i) (he : DE X G e me) (hf : X.fn x = true ∨ X.env.scope.names.lookup x = some .local := by first | exact .inl rfl | exact .inr rfl) (hs : swapsWith e (some (.Name x p2)) pos.line X.env = pure false := by rfl) : DS X G (.Assign [.Name x p2] e pos) (sCelV i me) :=
  (ps_asg he (pg_name hN hi hx hf) hs).wk fun D σ H ⟨g, sl, s, R, h⟩ => tD.st R h fun v y g1 s1 H1 l1 n1 R1 r1 h1 => by
    unfold kCelV at h1
    split at h1
    · obtain ⟨p, rfl, f⟩ := r1
      obtain ⟨R2, l2⟩ := R1.push f
      refine h1 _ _ H1 l2.toLe (by simp) (R2.setV (w := .c s1.O.length) ⟨by simp, ?_⟩ rfl hxs)
      show V.ref p = .ref (if s1.O.length = s1.O.length then p else g1.rc s1.O.length)
      rw [if_pos rfl]
    · split at h1
      · rename_i hw
        exact h1 g1 _ H1 .rfl (Nat.le_refl _) (R1.setV r1 hw hxs)
      · exact h1.elim
/-! ### which class is caught -/
@[simp] theorem xs_BadForm_BadForm : exSub (Str.ofString "BadForm") (Str.ofString "BadForm") = true := by decide
@[simp] theorem xs_BadForm_BadName : exSub (Str.ofString "BadForm") (Str.ofString "BadName") = false := by decide
@[simp] theorem xs_BadForm_Taken : exSub (Str.ofString "BadForm") (Str.ofString "Taken") = false := by decide
@[simp] theorem xs_BadForm_NoForm : exSub (Str.ofString "BadForm") (Str.ofString "NoForm") = false := by decide
@[simp] theorem xs_BadForm_BadStep : exSub (Str.ofString "BadForm") (Str.ofString "BadStep") = false := by decide
@[simp] theorem xs_BadForm_NoField : exSub (Str.ofString "BadForm") (Str.ofString "NoField") = false := by decide
@[simp] theorem xs_BadForm_TooMany : exSub (Str.ofString "BadForm") (Str.ofString "TooMany") = false := by decide
@[simp] theorem xs_BadForm_BadNumber : exSub (Str.ofString "BadForm") (Str.ofString "BadNumber") = false := by decide
@[simp] theorem xs_BadForm_NoRecord : exSub (Str.ofString "BadForm") (Str.ofString "NoRecord") = false := by decide
@[simp] theorem xs_BadForm_FormError : exSub (Str.ofString "BadForm") (Str.ofString "FormError") = true := by decide
@[simp] theorem xs_BadForm_ValueError : exSub (Str.ofString "BadForm") (Str.ofString "ValueError") = true := by decide
@[simp] theorem xs_BadName_BadForm : exSub (Str.ofString "BadName") (Str.ofString "BadForm") = false := by decide
@[simp] theorem xs_BadName_BadName : exSub (Str.ofString "BadName") (Str.ofString "BadName") = true := by decide
@[simp] theorem xs_BadName_Taken : exSub (Str.ofString "BadName") (Str.ofString "Taken") = false := by decide
@[simp] theorem xs_BadName_NoForm : exSub (Str.ofString "BadName") (Str.ofString "NoForm") = false := by decide
@[simp] theorem xs_BadName_BadStep : exSub (Str.ofString "BadName") (Str.ofString "BadStep") = false := by decide
@[simp] theorem xs_BadName_NoField : exSub (Str.ofString "BadName") (Str.ofString "NoField") = false := by decide
@[simp] theorem xs_BadName_TooMany : exSub (Str.ofString "BadName") (Str.ofString "TooMany") = false := by decide
@[simp] theorem xs_BadName_BadNumber : exSub (Str.ofString "BadName") (Str.ofString "BadNumber") = false := by decide
@[simp] theorem xs_BadName_NoRecord : exSub (Str.ofString "BadName") (Str.ofString "NoRecord") = false := by decide
@[simp] theorem xs_BadName_FormError : exSub (Str.ofString "BadName") (Str.ofString "FormError") = true := by decide
@[simp] theorem xs_BadName_ValueError : exSub (Str.ofString "BadName") (Str.ofString "ValueError") = true := by decide
@[simp] theorem xs_Taken_BadForm : exSub (Str.ofString "Taken") (Str.ofString "BadForm") = false := by decide
@[simp] theorem xs_Taken_BadName : exSub (Str.ofString "Taken") (Str.ofString "BadName") = false := by decide
@[simp] theorem xs_Taken_Taken : exSub (Str.ofString "Taken") (Str.ofString "Taken") = true := by decide
@[simp] theorem xs_Taken_NoForm : exSub (Str.ofString "Taken") (Str.ofString "NoForm") = false := by decide
@[simp] theorem xs_Taken_BadStep : exSub (Str.ofString "Taken") (Str.ofString "BadStep") = false := by decide
@[simp] theorem xs_Taken_NoField : exSub (Str.ofString "Taken") (Str.ofString "NoField") = false := by decide
@[simp] theorem xs_Taken_TooMany : exSub (Str.ofString "Taken") (Str.ofString "TooMany") = false := by decide
@[simp] theorem xs_Taken_BadNumber : exSub (Str.ofString "Taken") (Str.ofString "BadNumber") = false := by decide
@[simp] theorem xs_Taken_NoRecord : exSub (Str.ofString "Taken") (Str.ofString "NoRecord") = false := by decide
@[simp] theorem xs_Taken_FormError : exSub (Str.ofString "Taken") (Str.ofString "FormError") = true := by decide
@[simp] theorem xs_Taken_ValueError : exSub (Str.ofString "Taken") (Str.ofString "ValueError") = true := by decide
@[simp] theorem xs_NoForm_BadForm : exSub (Str.ofString "NoForm") (Str.ofString "BadForm") = false := by decide
@[simp] theorem xs_NoForm_BadName : exSub (Str.ofString "NoForm") (Str.ofString "BadName") = false := by decide
@[simp] theorem xs_NoForm_Taken : exSub (Str.ofString "NoForm") (Str.ofString "Taken") = false := by decide
@[simp] theorem xs_NoForm_NoForm : exSub (Str.ofString "NoForm") (Str.ofString "NoForm") = true := by decide
@[simp] theorem xs_NoForm_BadStep : exSub (Str.ofString "NoForm") (Str.ofString "BadStep") = false := by decide
@[simp] theorem xs_NoForm_NoField : exSub (Str.ofString "NoForm") (Str.ofString "NoField") = false := by decide
@[simp] theorem xs_NoForm_TooMany : exSub (Str.ofString "NoForm") (Str.ofString "TooMany") = false := by decide
@[simp] theorem xs_NoForm_BadNumber : exSub (Str.ofString "NoForm") (Str.ofString "BadNumber") = false := by decide
@[simp] theorem xs_NoForm_NoRecord : exSub (Str.ofString "NoForm") (Str.ofString "NoRecord") = false := by decide
@[simp] theorem xs_NoForm_FormError : exSub (Str.ofString "NoForm") (Str.ofString "FormError") = true := by decide
@[simp] theorem xs_NoForm_ValueError : exSub (Str.ofString "NoForm") (Str.ofString "ValueError") = true := by decide
@[simp] theorem xs_BadStep_BadForm : exSub (Str.ofString "BadStep") (Str.ofString "BadForm") = false := by decide
@[simp] theorem xs_BadStep_BadName : exSub (Str.ofString "BadStep") (Str.ofString "BadName") = false := by decide
@[simp] theorem xs_BadStep_Taken : exSub (Str.ofString "BadStep") (Str.ofString "Taken") = false := by decide
@[simp] theorem xs_BadStep_NoForm : exSub (Str.ofString "BadStep") (Str.ofString "NoForm") = false := by decide
@[simp] theorem xs_BadStep_BadStep : exSub (Str.ofString "BadStep") (Str.ofString "BadStep") = true := by decide
@[simp] theorem xs_BadStep_NoField : exSub (Str.ofString "BadStep") (Str.ofString "NoField") = false := by decide
@[simp] theorem xs_BadStep_TooMany : exSub (Str.ofString "BadStep") (Str.ofString "TooMany") = false := by decide
@[simp] theorem xs_BadStep_BadNumber : exSub (Str.ofString "BadStep") (Str.ofString "BadNumber") = false := by decide
@[simp] theorem xs_BadStep_NoRecord : exSub (Str.ofString "BadStep") (Str.ofString "NoRecord") = false := by decide
@[simp] theorem xs_BadStep_FormError : exSub (Str.ofString "BadStep") (Str.ofString "FormError") = true := by decide
@[simp] theorem xs_BadStep_ValueError : exSub (Str.ofString "BadStep") (Str.ofString "ValueError") = true := by decide
@[simp] theorem xs_NoField_BadForm : exSub (Str.ofString "NoField") (Str.ofString "BadForm") = false := by decide
@[simp] theorem xs_NoField_BadName : exSub (Str.ofString "NoField") (Str.ofString "BadName") = false := by decide
@[simp] theorem xs_NoField_Taken : exSub (Str.ofString "NoField") (Str.ofString "Taken") = false := by decide
@[simp] theorem xs_NoField_NoForm : exSub (Str.ofString "NoField") (Str.ofString "NoForm") = false := by decide
@[simp] theorem xs_NoField_BadStep : exSub (Str.ofString "NoField") (Str.ofString "BadStep") = false := by decide
@[simp] theorem xs_NoField_NoField : exSub (Str.ofString "NoField") (Str.ofString "NoField") = true := by decide
@[simp] theorem xs_NoField_TooMany : exSub (Str.ofString "NoField") (Str.ofString "TooMany") = false := by decide
@[simp] theorem xs_NoField_BadNumber : exSub (Str.ofString "NoField") (Str.ofString "BadNumber") = false := by decide
@[simp] theorem xs_NoField_NoRecord : exSub (Str.ofString "NoField") (Str.ofString "NoRecord") = false := by decide
@[simp] theorem xs_NoField_FormError : exSub (Str.ofString "NoField") (Str.ofString "FormError") = true := by decide
@[simp] theorem xs_NoField_ValueError : exSub (Str.ofString "NoField") (Str.ofString "ValueError") = true := by decide
@[simp] theorem xs_TooMany_BadForm : exSub (Str.ofString "TooMany") (Str.ofString "BadForm") = false := by decide
@[simp] theorem xs_TooMany_BadName : exSub (Str.ofString "TooMany") (Str.ofString "BadName") = false := by decide
@[simp] theorem xs_TooMany_Taken : exSub (Str.ofString "TooMany") (Str.ofString "Taken") = false := by decide
@[simp] theorem xs_TooMany_NoForm : exSub (Str.ofString "TooMany") (Str.ofString "NoForm") = false := by decide
@[simp] theorem xs_TooMany_BadStep : exSub (Str.ofString "TooMany") (Str.ofString "BadStep") = false := by decide
@[simp] theorem xs_TooMany_NoField : exSub (Str.ofString "TooMany") (Str.ofString "NoField") = false := by decide
@[simp] theorem xs_TooMany_TooMany : exSub (Str.ofString "TooMany") (Str.ofString "TooMany") = true := by decide
@[simp] theorem xs_TooMany_BadNumber : exSub (Str.ofString "TooMany") (Str.ofString "BadNumber") = false := by decide
@[simp] theorem xs_TooMany_NoRecord : exSub (Str.ofString "TooMany") (Str.ofString "NoRecord") = false := by decide
@[simp] theorem xs_TooMany_FormError : exSub (Str.ofString "TooMany") (Str.ofString "FormError") = true := by decide
@[simp] theorem xs_TooMany_ValueError : exSub (Str.ofString "TooMany") (Str.ofString "ValueError") = true := by decide
@[simp] theorem xs_BadNumber_BadForm : exSub (Str.ofString "BadNumber") (Str.ofString "BadForm") = false := by decide
@[simp] theorem xs_BadNumber_BadName : exSub (Str.ofString "BadNumber") (Str.ofString "BadName") = false := by decide
@[simp] theorem xs_BadNumber_Taken : exSub (Str.ofString "BadNumber") (Str.ofString "Taken") = false := by decide
@[simp] theorem xs_BadNumber_NoForm : exSub (Str.ofString "BadNumber") (Str.ofString "NoForm") = false := by decide
@[simp] theorem xs_BadNumber_BadStep : exSub (Str.ofString "BadNumber") (Str.ofString "BadStep") = false := by decide
@[simp] theorem xs_BadNumber_NoField : exSub (Str.ofString "BadNumber") (Str.ofString "NoField") = false := by decide
@[simp] theorem xs_BadNumber_TooMany : exSub (Str.ofString "BadNumber") (Str.ofString "TooMany") = false := by decide
@[simp] theorem xs_BadNumber_BadNumber : exSub (Str.ofString "BadNumber") (Str.ofString "BadNumber") = true := by decide
@[simp] theorem xs_BadNumber_NoRecord : exSub (Str.ofString "BadNumber") (Str.ofString "NoRecord") = false := by decide
@[simp] theorem xs_BadNumber_FormError : exSub (Str.ofString "BadNumber") (Str.ofString "FormError") = true := by decide
@[simp] theorem xs_BadNumber_ValueError : exSub (Str.ofString "BadNumber") (Str.ofString "ValueError") = true := by decide
@[simp] theorem xs_NoRecord_BadForm : exSub (Str.ofString "NoRecord") (Str.ofString "BadForm") = false := by decide
@[simp] theorem xs_NoRecord_BadName : exSub (Str.ofString "NoRecord") (Str.ofString "BadName") = false := by decide
@[simp] theorem xs_NoRecord_Taken : exSub (Str.ofString "NoRecord") (Str.ofString "Taken") = false := by decide
@[simp] theorem xs_NoRecord_NoForm : exSub (Str.ofString "NoRecord") (Str.ofString "NoForm") = false := by decide
@[simp] theorem xs_NoRecord_BadStep : exSub (Str.ofString "NoRecord") (Str.ofString "BadStep") = false := by decide
@[simp] theorem xs_NoRecord_NoField : exSub (Str.ofString "NoRecord") (Str.ofString "NoField") = false := by decide
@[simp] theorem xs_NoRecord_TooMany : exSub (Str.ofString "NoRecord") (Str.ofString "TooMany") = false := by decide
@[simp] theorem xs_NoRecord_BadNumber : exSub (Str.ofString "NoRecord") (Str.ofString "BadNumber") = false := by decide
@[simp] theorem xs_NoRecord_NoRecord : exSub (Str.ofString "NoRecord") (Str.ofString "NoRecord") = true := by decide
@[simp] theorem xs_NoRecord_FormError : exSub (Str.ofString "NoRecord") (Str.ofString "FormError") = true := by decide
@[simp] theorem xs_NoRecord_ValueError : exSub (Str.ofString "NoRecord") (Str.ofString "ValueError") = true := by decide
end Fm

/-! GD: how many cells a list of cells has. -/
namespace Fm
open PySem L2
def kLenC (sl : List Sl) : List W → Sto → R Y := fun ws s1 => match ws with
  | [w] => match pkC sl s1 w with
    | some ks => .ok (.w (.f (.int (ks.length : Int)))) s1
    | none => .bad
  | _ => .bad
/-- len(xs), xs a list of cells -/
def mLenC (m : M) : M := fun sl s => (aCons m aNil sl s).bind (kLenC sl)
@[simp] theorem e_mLenC (m : M) (sl : List Sl) (s : Sto) : mLenC m sl s = (aCons m aNil sl s).bind (kLenC sl) := rfl
theorem e_kLenC {sl : List Sl} {s1 : Sto} {w : W} {ks : List Nat} (h : pkC sl s1 w = some ks) : kLenC sl [w] s1 = .ok (.w (.f (.int (ks.length : Int)))) s1 := by
  unfold kLenC; simp only [h]
theorem de_lenC {X : Cx} {G : Gc} {e : Expr} {me : M} {p pos : Pos} (hg : Gl X "len") (hm : X.mg "len" = none) (ha : DE X G e me)
    (he : starEach [e] X.env = (false, eval e X.env) :: starEach [] X.env := by rfl) (hpl : (backTo pos (starEach [] X.env)).any (·.1) = false := by rfl) : DE X G (.Call (.Name "len" p) [e] [] pos) (mLenC me) :=
  (pe_callB call_len hg hm rfl (da_cons ha da_nil he) (by decide) (by decide) he hpl).wk fun σ H Q ⟨g, sl, s, R, h⟩ => tDA.go (k := fun ws => fun sl s1 => kLenC sl ws s1) R h fun vs ws g1 s1 H1 l1 n1 R1 r1 h1 => by
    unfold kLenC at h1
    split at h1
    · rename_i w
      split at h1
      · rename_i ks hk
        cases r1 with
        | cons r t =>
          cases t
          obtain ⟨a, rfl, ha, _⟩ := R1.peekC r hk
          refine ⟨_, _, rfl, .inl ⟨_, .of ha, rfl⟩, ?_⟩
          rw [List.length_map]
          exact h1 _ g1 H1 .rfl (Nat.le_refl _) R1 (rep_int (K := X.K) (S := g1.S))
      · exact h1.elim
    · exact h1.elim
end Fm

/-! GE: d.update(e), d an own dict, e data. -/
namespace Fm
open PySem L2
section
variable {X : Cx} {pins : List (Addr × Obj)} {σ : St} {H : Hp} {s : Shared} {a b : Addr} {kvs more : List (Key × V)} {A : Around} {E : Value → Shared → Prop}
theorem d_upd {Q : Value → Shared → Prop} (I : Inv X pins σ H s) (e : H a = some (.dK kvs)) (e2 : Rd H b (.dK more)) (hne : a ≠ b) (hz : kvs.length + more.length ≤ sizeLine) (h : ∀ s', Inv X pins σ (upd H a (.dK (mergeK kvs more))) s' → Q .none s') :
    wpAny (model X.prog X.w) A (call (.builtin "dict.update") [.ref a, .ref b]) Q E s := by
  obtain ⟨z, hd, vs, rel, dd⟩ := dk_of I.hok e
  obtain ⟨z2, hd2, rs, rel2, dd2⟩ := dk_rd I.hok e2
  refine call_meetsIn PySem.F.slot_dict_update dd.typeIs PySem.F.entry_dict_update (PySem.F.args_dict_update_2 _ _) (meets_dict_update (mixKind X.prog X.w) a b hne hd2)
    ⟨vs, rs, dd, dd2, by rw [← rel.length, ← rel2.length]; exact hz, fun h' dd' _ hs => h _ ?_⟩
  have he : ∃ q, h'.get? a = some q := let ⟨q, _, _, hq, _⟩ := dd'; ⟨q, hq⟩
  exact d_write (t' := s.toks) I (by rw [e]; exact True.intro) hs he (dk_new (Nat.le_trans (length_mergeK _ _) hz) hd (rel2.merge rel) dd')
end
def tDUpd (td ty : TE) : TE := fun σ H Q => td σ H fun x H1 => ∃ a, x = .ref a ∧ IsD H1 a ∧ ty σ H1 fun y H2 => ∃ b kvs more, y = .ref b ∧ H2 a = some (.dK kvs) ∧ Rd H2 b (.dK more) ∧ a ≠ b ∧ kvs.length + more.length ≤ sizeLine ∧ Q .non (upd H2 a (.dK (mergeK kvs more)))
section
variable {X : Cx} {G : Gc} {o e : Expr} {apos cpos pos : Pos} {td ty : TE} {mo me : M}
theorem pe_dupd (ho : PE X o td) (he : PE X e ty) (m : M1 X o "update" apos e cpos) : PE X (.Call (.Attribute o "update" apos) [e] [] cpos) (tDUpd td ty) := by
  refine ⟨fun pins s σ H Q I h => ?_⟩
  refine wpAny_Call_method m.base m.few m.line PySem.F.plainAttrs_dict PySem.F.slot_dict_update PySem.F.type_dict_update (thn (ho.run pins s σ H _ I h) fun u s1 ⟨x, H1, I1, rx, a, ex, d, q1⟩ => ?_)
  subst ex
  obtain rfl : u = Value.ref a := rx
  obtain ⟨t1, t2, _⟩ := isD_at I1 d
  refine ⟨t1, t2, ?_⟩
  rw [m.trees]
  refine Calls.callWith_builtin rfl (Calls.evalArgs_plain (Calls.spliced_cons (thn (he.run pins s1 σ H1 _ I1 q1) fun iv s2 ⟨y, H2, I2, ry, b, kvs, more, ey, ea, eb, hne, hz, q2⟩ => Calls.spliced_nil ?_)))
  subst ey
  obtain rfl : iv = Value.ref b := ry
  exact d_upd I2 ea eb hne hz fun s3 I3 => ⟨.non, _, I3, rfl, q2⟩
def updD (wo we : W) : MS := fun sl s => match wo, we, pk sl s wo with
  | .o i, .f (.dct more), some (.dct kvs) => if kvs.length + more.length ≤ sizeLine then nxP (poke (.o i) (.dct (mK kvs more)) sl s) else .bad
  | _, _, _ => .bad
/-- o.update(e) -/
def sUpdD (mo me : M) : MS := fun sl s => (sW mo fun wo => chkD wo (sW me fun we => updD wo we)) sl s
theorem ds_updD (ho : DE X G o mo) (he : DE X G e me) (m : M1 X o "update" apos e cpos) (hsw : swapsWith (.Call (.Attribute o "update" apos) [e] [] cpos) none pos.line X.env = pure false := by rfl) :
    DS X G (.Expr (.Call (.Attribute o "update" apos) [e] [] cpos) pos) (sUpdD mo me) :=
  (ps_expr (pe_dupd ho he m) hsw).wk fun D σ H ⟨g, sl, s, R, h⟩ => tD.sw R h fun v wo g1 s1 H1 l1 n1 R1 r1 h1 => by
    simp only [chkD] at h1
    split at h1
    · rename_i xs0 e0
      obtain ⟨a, vs0, rfl, ha0, _⟩ := R1.peek r1 e0
      refine ⟨a, rfl, .inl ⟨_, ha0⟩, tD.sw R1 h1 fun u we g2 s2 H2 l2 n2 R2 r2 h2 => ?_⟩
      simp only [updD] at h2
      split at h2
      · rename_i i more kvs e1
        split at h2
        · rename_i hz
          obtain ⟨sl', s', ep⟩ := nx_some h2
          have ro := r1.le l2 n2
          obtain ⟨a', vs, ea, ha, hr⟩ := R2.plain_dct ro e1 ep
          cases ea
          have r2 : Rep X.K g2.S (.dct more) u := r2
          simp only [Rep] at r2
          obtain ⟨b, ms, rfl, hb, hm⟩ := r2
          obtain ⟨a', ea, R4, hl⟩ := R2.poke_dct ro e1 ep (RepK.merge hr hm)
          cases ea
          rw [ep] at h2
          have hgo : V.ref a = .ref (g2.ro i) := ro
          cases hgo
          have hown : g2.S (g2.ro i) = none := by
            simp only [pk] at e1
            split at e1
            · cases e1
            · rename_i d hd
              exact (R2.own i _ hd).1
            · cases e1
          have hne : g2.ro i ≠ b := fun q => by rw [q, hb] at hown; cases hown
          have hrd : Rd H2 b (.dK ms) := by
            have := R2.see b _ hb
            exact this
          exact ⟨b, vs, ms, rfl, ha, hrd, hne, by rw [← hr.length, ← hm.length]; exact hz, h2 g2 σ _ .rfl (Nat.le_of_eq hl.symm) R4⟩
        · exact h2.elim
      · exact h2.elim
    · exact h1.elim
end
def kUp2 (wo : W) (sl : List Sl) : Y → Sto → RS := fun y s => updD wo (frz y) sl s
def kUp1 (me : M) (sl : List Sl) : Y → Sto → RS := fun y s => match pk sl s (frz y) with
  | some (.dct _) => (me sl s).st sl (kUp2 (frz y) sl)
  | _ => .bad
@[simp] theorem e_sUpdD (mo me : M) (sl : List Sl) (s : Sto) : sUpdD mo me sl s = (mo sl s).st sl (kUp1 me sl) := by
  unfold sUpdD sW
  refine st_ext fun y s => ?_
  unfold chkD kUp1
  cases e : pk sl s (frz y) with
  | none => simp only [e]
  | some x => cases x <;> simp only [e] <;> rfl
theorem e_kUp1 {me : M} {sl : List Sl} {y : Y} {s : Sto} {kvs : List (Key × F)} (h : pk sl s (frz y) = some (.dct kvs)) : kUp1 me sl y s = (me sl s).st sl (kUp2 (frz y) sl) := by
  unfold kUp1; simp only [h]
/-- an own dict, data -/
theorem e_upd {i : Nat} {me : M} {sl : List Sl} {s : Sto} {kvs more : List (Key × F)} {y : Y} (h1 : sl[i]? = some (.own (.dct kvs))) (h2 : me sl s = .ok y s) (h3 : frz y = .f (.dct more)) (hz : kvs.length + more.length ≤ sizeLine) : sUpdD (mVar i) me sl s = .nx (sl.set i (.own (.dct (mK kvs more)))) s := by
  rw [e_sUpdD]
  have e1 : mVar i sl s = .ok (.w (.o i)) s := by simp [h1]
  rw [e1]
  simp only [Fm.R.st_ok]
  rw [e_kUp1 (kvs := kvs) (by simp [h1]), h2]
  simp only [Fm.R.st_ok]
  show updD (.o i) (frz y) sl s = _
  rw [h3]
  unfold updD
  simp [h1, hz, nxP]
end Fm

/-! PB: what the program's defs compute (printed by gen/mklib.py). -/
namespace PB
open PySem L2 Fm
def b_is_name : MS := (sSeq (sIf (mOr (mNot (mU (isiF .str) (mVar 0))) (mOr (mB ltF (mN lenF (aCons (mVar 0) aNil)) (mC (.int 1))) (mB gtF (mN lenF (aCons (mVar 0) aNil)) (mC (.int 8))))) (sRet (mC (.bl false))) sSkip) (sSeq (sFor 1 (iS (mVar 0)) (sIf (mB ninF (mVar 1) (mC (.str "abcdefghijklmnopqrstuvwxyz"))) (sRet (mC (.bl false))) sSkip)) (sRet (mC (.bl true)))))
def p_is_name : Psi := runA 2 b_is_name
def b_is_number : MS := (sRet (mAnd (mU (isiF .int) (mVar 0)) (mNot (mU (isiF .bl) (mVar 0)))))
def p_is_number : Psi := runA 1 b_is_number
def b_is_size : MS := (sRet (mAnd (mCall p_is_number (aCons (mVar 0) aNil)) (mCh leF leF (mC (.int 2)) (mVar 0) (mC (.int 1000000)))))
def p_is_size : Psi := runA 1 b_is_size
def b_is_step : MS := (sSeq (sIf (mOr (mNot (mU (isiF .tup) (mVar 0))) (mOr (mB ltF (mN lenF (aCons (mVar 0) aNil)) (mC (.int 2))) (mOr (mNot (mU (isiF .str) (mB ixF (mVar 0) (mC (.int 0))))) (mNot (mCall p_is_name (aCons (mB ixF (mVar 0) (mC (.int 1))) aNil)))))) (sRet (mC (.bl false))) sSkip) (sSeq (sSet 1 (mB ixF (mVar 0) (mC (.int 0)))) (sSeq (sIf (mOr (mB eqF (mVar 1) (mC (.str "drop"))) (mB eqF (mVar 1) (mC (.str "turn")))) (sRet (mB eqF (mN lenF (aCons (mVar 0) aNil)) (mC (.int 2)))) sSkip) (sSeq (sIf (mOr (mB eqF (mVar 1) (mC (.str "add"))) (mB eqF (mVar 1) (mC (.str "shift")))) (sRet (mAnd (mB eqF (mN lenF (aCons (mVar 0) aNil)) (mC (.int 3))) (mCall p_is_number (aCons (mB ixF (mVar 0) (mC (.int 2))) aNil)))) sSkip) (sSeq (sIf (mB eqF (mVar 1) (mC (.str "name"))) (sRet (mAnd (mB eqF (mN lenF (aCons (mVar 0) aNil)) (mC (.int 3))) (mCall p_is_name (aCons (mB ixF (mVar 0) (mC (.int 2))) aNil)))) sSkip) (sSeq (sIf (mOr (mB neF (mN lenF (aCons (mVar 0) aNil)) (mC (.int 5))) (mOr (mNot (mCall p_is_name (aCons (mB ixF (mVar 0) (mC (.int 2))) aNil))) (mOr (mNot (mCall p_is_name (aCons (mB ixF (mVar 0) (mC (.int 3))) aNil))) (mNot (mCall p_is_size (aCons (mB ixF (mVar 0) (mC (.int 4))) aNil)))))) (sRet (mC (.bl false))) sSkip) (sSeq (sIf (mB eqF (mVar 1) (mC (.str "part"))) (sRet (mB neF (mB ixF (mVar 0) (mC (.int 2))) (mB ixF (mVar 0) (mC (.int 3))))) sSkip) (sRet (mAnd (mB eqF (mVar 1) (mC (.str "join"))) (mB neF (mB ixF (mVar 0) (mC (.int 1))) (mB ixF (mVar 0) (mC (.int 2)))))))))))))
def p_is_step : Psi := runA 2 b_is_step
def b_begins_from : MS := (sSeq (sIf (mB eqF (mB ixF (mVar 0) (mC (.int 0))) (mC (.str "add"))) (sRet (mLst aNil)) sSkip) (sSeq (sIf (mB eqF (mB ixF (mVar 0) (mC (.int 0))) (mC (.str "join"))) (sRet (mLst (aCons (mB ixF (mVar 0) (mC (.int 1))) (aCons (mB ixF (mVar 0) (mC (.int 2))) aNil)))) sSkip) (sRet (mLst (aCons (mB ixF (mVar 0) (mC (.int 1))) aNil)))))
def p_begins_from : Psi := runA 1 b_begins_from
def b_brings : MS := (sSeq (sIf (mB eqF (mB ixF (mVar 0) (mC (.int 0))) (mC (.str "drop"))) (sRet (mLst aNil)) sSkip) (sSeq (sIf (mB eqF (mB ixF (mVar 0) (mC (.int 0))) (mC (.str "name"))) (sRet (mLst (aCons (mB ixF (mVar 0) (mC (.int 2))) aNil))) sSkip) (sSeq (sIf (mB eqF (mB ixF (mVar 0) (mC (.int 0))) (mC (.str "part"))) (sRet (mLst (aCons (mB ixF (mVar 0) (mC (.int 2))) (aCons (mB ixF (mVar 0) (mC (.int 3))) aNil)))) sSkip) (sSeq (sIf (mB eqF (mB ixF (mVar 0) (mC (.int 0))) (mC (.str "join"))) (sRet (mLst (aCons (mB ixF (mVar 0) (mC (.int 3))) aNil))) sSkip) (sRet (mLst (aCons (mB ixF (mVar 0) (mC (.int 1))) aNil)))))))
def p_brings : Psi := runA 1 b_brings
def b_names_behind : MS := (sSeq (sSet 2 (mCall p_begins_from (aCons (mVar 0) aNil))) (sSeq (sSet 3 (mCall p_brings (aCons (mVar 0) aNil))) (sSeq (sFor 4 (iL (mVar 2)) (sIf (mB ninF (mVar 4) (mVar 1)) (sRaise "NoField") sSkip)) (sSeq (sFor 4 (iL (mVar 1)) (sIf (mAnd (mB ninF (mVar 4) (mVar 2)) (mB inF (mVar 4) (mVar 3))) (sRaise "Taken") sSkip)) (sSeq (sOwn 5 (mLst aNil)) (sSeq (sFor 4 (iL (mVar 1)) (sIf (mAnd (mB neF (mVar 2) (mLst aNil)) (mB eqF (mVar 4) (mB ixF (mVar 2) (mC (.int 0))))) (sOwn 5 (mB addF (mVar 5) (mVar 3))) (sIf (mB ninF (mVar 4) (mVar 2)) (sAppL (mVar 5) (mVar 4)) sSkip))) (sSeq (sIf (mB eqF (mVar 2) (mLst aNil)) (sOwn 5 (mB addF (mVar 5) (mVar 3))) sSkip) (sSeq (sIf (mOr (mB ltF (mN lenF (aCons (mVar 5) aNil)) (mC (.int 1))) (mB gtF (mN lenF (aCons (mVar 5) aNil)) (mC (.int 12)))) (sRaise "BadForm") sSkip) (sRet (mVar 5))))))))))
def p_names_behind : Psi := runA 6 b_names_behind
def b_forth : MS := (sSeq (sOwn 3 (mN dictF (aCons (mVar 1) aNil))) (sSeq (sFor 4 (iL (mCall p_begins_from (aCons (mVar 0) aNil))) (sPopD (mVar 3) (mVar 4))) (sSeq (sSet 5 (mB ixF (mVar 0) (mC (.int 0)))) (sSeq (sIf (mB eqF (mVar 5) (mC (.str "add"))) (sPutD (mVar 3) (mB ixF (mVar 0) (mC (.int 1))) (mVar 2)) (sIf (mB eqF (mVar 5) (mC (.str "name"))) (sPutD (mVar 3) (mB ixF (mVar 0) (mC (.int 2))) (mB dgetF (mVar 1) (mB ixF (mVar 0) (mC (.int 1))))) (sIf (mB eqF (mVar 5) (mC (.str "shift"))) (sPutD (mVar 3) (mB ixF (mVar 0) (mC (.int 1))) (mB addF (mB dgetF (mVar 1) (mB ixF (mVar 0) (mC (.int 1)))) (mB ixF (mVar 0) (mC (.int 2))))) (sIf (mB eqF (mVar 5) (mC (.str "turn"))) (sPutD (mVar 3) (mB ixF (mVar 0) (mC (.int 1))) (mB subF (mC (.int 0)) (mB dgetF (mVar 1) (mB ixF (mVar 0) (mC (.int 1)))))) (sIf (mB eqF (mVar 5) (mC (.str "part"))) (sSeq (sPutD (mVar 3) (mB ixF (mVar 0) (mC (.int 2))) (mB divF (mB dgetF (mVar 1) (mB ixF (mVar 0) (mC (.int 1)))) (mB ixF (mVar 0) (mC (.int 4))))) (sPutD (mVar 3) (mB ixF (mVar 0) (mC (.int 3))) (mB modF (mB dgetF (mVar 1) (mB ixF (mVar 0) (mC (.int 1)))) (mB ixF (mVar 0) (mC (.int 4)))))) (sIf (mB eqF (mVar 5) (mC (.str "join"))) (sPutD (mVar 3) (mB ixF (mVar 0) (mC (.int 3))) (mB addF (mB mulF (mB dgetF (mVar 1) (mB ixF (mVar 0) (mC (.int 1)))) (mB ixF (mVar 0) (mC (.int 4)))) (mB dgetF (mVar 1) (mB ixF (mVar 0) (mC (.int 2)))))) sSkip)))))) (sRet (mVar 3))))))
def p_forth : Psi := runA 6 b_forth
def b_back : MS := (sSeq (sOwn 3 (mN dictF (aCons (mVar 1) aNil))) (sSeq (sFor 4 (iL (mCall p_brings (aCons (mVar 0) aNil))) (sPopD (mVar 3) (mVar 4))) (sSeq (sSet 5 (mB ixF (mVar 0) (mC (.int 0)))) (sSeq (sIf (mB eqF (mVar 5) (mC (.str "drop"))) (sPutD (mVar 3) (mB ixF (mVar 0) (mC (.int 1))) (mB dgetF (mVar 2) (mB ixF (mVar 0) (mC (.int 1))))) (sIf (mB eqF (mVar 5) (mC (.str "name"))) (sPutD (mVar 3) (mB ixF (mVar 0) (mC (.int 1))) (mB dgetF (mVar 1) (mB ixF (mVar 0) (mC (.int 2))))) (sIf (mB eqF (mVar 5) (mC (.str "shift"))) (sPutD (mVar 3) (mB ixF (mVar 0) (mC (.int 1))) (mB subF (mB dgetF (mVar 1) (mB ixF (mVar 0) (mC (.int 1)))) (mB ixF (mVar 0) (mC (.int 2))))) (sIf (mB eqF (mVar 5) (mC (.str "turn"))) (sPutD (mVar 3) (mB ixF (mVar 0) (mC (.int 1))) (mB subF (mC (.int 0)) (mB dgetF (mVar 1) (mB ixF (mVar 0) (mC (.int 1)))))) (sIf (mB eqF (mVar 5) (mC (.str "part"))) (sSeq (sIf (mOr (mB ltF (mB dgetF (mVar 1) (mB ixF (mVar 0) (mC (.int 3)))) (mC (.int 0))) (mB geF (mB dgetF (mVar 1) (mB ixF (mVar 0) (mC (.int 3)))) (mB ixF (mVar 0) (mC (.int 4))))) (sRaise "BadNumber") sSkip) (sPutD (mVar 3) (mB ixF (mVar 0) (mC (.int 1))) (mB addF (mB mulF (mB dgetF (mVar 1) (mB ixF (mVar 0) (mC (.int 2)))) (mB ixF (mVar 0) (mC (.int 4)))) (mB dgetF (mVar 1) (mB ixF (mVar 0) (mC (.int 3))))))) (sIf (mB eqF (mVar 5) (mC (.str "join"))) (sSeq (sSet 6 (mB divF (mB dgetF (mVar 2) (mB ixF (mVar 0) (mC (.int 2)))) (mB ixF (mVar 0) (mC (.int 4))))) (sSeq (sPutD (mVar 3) (mB ixF (mVar 0) (mC (.int 1))) (mB subF (mB divF (mB dgetF (mVar 1) (mB ixF (mVar 0) (mC (.int 3)))) (mB ixF (mVar 0) (mC (.int 4)))) (mVar 6))) (sPutD (mVar 3) (mB ixF (mVar 0) (mC (.int 2))) (mB addF (mB modF (mB dgetF (mVar 1) (mB ixF (mVar 0) (mC (.int 3)))) (mB ixF (mVar 0) (mC (.int 4)))) (mB mulF (mVar 6) (mB ixF (mVar 0) (mC (.int 4)))))))) sSkip)))))) (sRet (mVar 3))))))
def p_back : Psi := runA 7 b_back
def b_good_names : MS := (sSeq (sIf (mOr (mB ltF (mN lenF (aCons (mVar 0) aNil)) (mC (.int 1))) (mB gtF (mN lenF (aCons (mVar 0) aNil)) (mC (.int 12)))) (sRaise "BadForm") sSkip) (sSeq (sFor 1 (iL (mVar 0)) (sIf (mNot (mCall p_is_name (aCons (mVar 1) aNil))) (sRaise "BadName") sSkip)) (sSeq (sFor 2 (iR1 (mN lenF (aCons (mVar 0) aNil))) (sIf (mB inF (mB ixF (mVar 0) (mVar 2)) (mSl slF (mVar 0) none (some (mVar 2)))) (sRaise "Taken") sSkip)) (sRet (mN listF (aCons (mVar 0) aNil))))))
def p_good_names : Psi := runA 3 b_good_names
def b_B_init : MS := (sSeq (sFldN "lists" (mVar 0) (mLst (aCons (mCall p_good_names (aCons (mVar 1) aNil)) aNil))) (sSeq (sFldN "elders" (mVar 0) (mLst (aCons (mC .non) aNil))) (sSeq (sFldN "ways" (mVar 0) (mLst (aCons (mC .non) aNil))) (sSeq (sFldN "kept" (mVar 0) (mLst aNil)) (sFldN "owns" (mVar 0) (mLst aNil))))))
def p_B_init : Psi := runB 2 b_B_init
def b_B_need_form : MS := (sIf (mOr (mNot (mCall p_is_number (aCons (mVar 1) aNil))) (mOr (mB ltF (mVar 1) (mC (.int 0))) (mB geF (mVar 1) (mN lenF (aCons (mFld "lists" (mVar 0)) aNil))))) (sRaise "NoForm") sSkip)
def p_B_need_form : Psi := runA 2 b_B_need_form
def b_B_need_record : MS := (sIf (mOr (mNot (mCall p_is_number (aCons (mVar 1) aNil))) (mOr (mB ltF (mVar 1) (mC (.int 0))) (mB geF (mVar 1) (mN lenF (aCons (mFld "kept" (mVar 0)) aNil))))) (sRaise "NoRecord") sSkip)
def p_B_need_record : Psi := runA 2 b_B_need_record
def b_B_grow : MS := (sSeq (sExp (mMeth p_B_need_form "need_form" (mVar 0) (aCons (mVar 1) aNil))) (sSeq (sIf (mNot (mCall p_is_step (aCons (mVar 2) aNil))) (sRaise "BadStep") sSkip) (sSeq (sSet 3 (mCall p_names_behind (aCons (mVar 2) (aCons (mB ixF (mFld "lists" (mVar 0)) (mVar 1)) aNil)))) (sSeq (sIf (mB geF (mN lenF (aCons (mFld "lists" (mVar 0)) aNil)) (mC (.int 30))) (sRaise "TooMany") sSkip) (sSeq (sAppL (mFld "lists" (mVar 0)) (mVar 3)) (sSeq (sAppL (mFld "elders" (mVar 0)) (mVar 1)) (sSeq (sAppL (mFld "ways" (mVar 0)) (mVar 2)) (sRet (mB subF (mN lenF (aCons (mFld "lists" (mVar 0)) aNil)) (mC (.int 1)))))))))))
def p_B_grow : Psi := runA 4 b_B_grow
def b_B_forms : MS := (sRet (mN lenF (aCons (mFld "lists" (mVar 0)) aNil)))
def p_B_forms : Psi := runA 1 b_B_forms
def b_B_fields : MS := (sSeq (sExp (mMeth p_B_need_form "need_form" (mVar 0) (aCons (mVar 1) aNil))) (sRet (mN listF (aCons (mB ixF (mFld "lists" (mVar 0)) (mVar 1)) aNil))))
def p_B_fields : Psi := runA 2 b_B_fields
def b_B_elder : MS := (sSeq (sExp (mMeth p_B_need_form "need_form" (mVar 0) (aCons (mVar 1) aNil))) (sRet (mB ixF (mFld "elders" (mVar 0)) (mVar 1))))
def p_B_elder : Psi := runA 2 b_B_elder
def b_B_step : MS := (sSeq (sExp (mMeth p_B_need_form "need_form" (mVar 0) (aCons (mVar 1) aNil))) (sRet (mB ixF (mFld "ways" (mVar 0)) (mVar 1))))
def p_B_step : Psi := runA 2 b_B_step
def b_B_make : MS := (sSeq (sOwn 1 mDnew) (sSeq (sFor 2 (iL (mB ixF (mFld "lists" (mVar 0)) (mC (.int 0)))) (sPutD (mVar 1) (mVar 2) (mC (.int 0)))) (sSeq (sFrz 1) (sSeq (sAppL (mFld "kept" (mVar 0)) (mVar 1)) (sSeq (sAppL (mFld "owns" (mVar 0)) mDnew) (sRet (mB subF (mN lenF (aCons (mFld "kept" (mVar 0)) aNil)) (mC (.int 1)))))))))
def p_B_make : Psi := runA 3 b_B_make
def b_B_records : MS := (sRet (mN lenF (aCons (mFld "kept" (mVar 0)) aNil)))
def p_B_records : Psi := runA 1 b_B_records
def b_B_line : MS := (sSeq (sOwn 2 (mLst (aCons (mVar 1) aNil))) (sSeq (sWhile (mNotN (mB ixF (mFld "elders" (mVar 0)) (mB ixF (mVar 2) (mU negF (mC (.int 1)))))) (sAppL (mVar 2) (mB ixF (mFld "elders" (mVar 0)) (mB ixF (mVar 2) (mU negF (mC (.int 1)))))) 100) (sSeq (sFrz 2) (sRet (mLc 3 (iR1 (mN lenF (aCons (mVar 2) aNil))) (mC (.bl true)) (mB ixF (mVar 2) (mB subF (mB subF (mN lenF (aCons (mVar 2) aNil)) (mC (.int 1))) (mVar 3))))))))
def p_B_line : Psi := runA 4 b_B_line
def b_B_own : MS := (sSeq (sIf (mB neF (mB ixF (mB ixF (mFld "ways" (mVar 0)) (mVar 2)) (mC (.int 0))) (mC (.str "add"))) (sRet (mC .non)) sSkip) (sRet (mGet (mB ixF (mFld "owns" (mVar 0)) (mVar 1)) (mVar 2) (mB ixF (mB ixF (mFld "ways" (mVar 0)) (mVar 2)) (mC (.int 2))))))
def p_B_own : Psi := runA 3 b_B_own
def b_B_readings : MS := (sSeq (sOwn 3 (mLstC (mN dictF (aCons (mB ixF (mFld "kept" (mVar 0)) (mVar 1)) aNil)))) (sSeq (sFor 4 (iL (mSl slF (mMeth p_B_line "line" (mVar 0) (aCons (mVar 2) aNil)) (some (mC (.int 1))) none)) (sAppC (mVar 3) (mCall p_forth (aCons (mB ixF (mFld "ways" (mVar 0)) (mVar 4)) (aCons (mIxC (mVar 3) (mU negF (mC (.int 1)))) (aCons (mMeth p_B_own "own" (mVar 0) (aCons (mVar 1) (aCons (mVar 4) aNil))) aNil)))))) (sRet (mVar 3))))
def p_B_readings : Psi := runB 5 b_B_readings
def b_B_reading : MS := (sSeq (sExp (mMeth p_B_need_record "need_record" (mVar 0) (aCons (mVar 1) aNil))) (sSeq (sExp (mMeth p_B_need_form "need_form" (mVar 0) (aCons (mVar 2) aNil))) (sRet (mIxC (mMeth p_B_readings "readings" (mVar 0) (aCons (mVar 1) (aCons (mVar 2) aNil))) (mU negF (mC (.int 1)))))))
def p_B_reading : Psi := runA 3 b_B_reading
def b_B_all_readings : MS := (sSeq (sOwn 2 (mLst (aCons (mN dictF (aCons (mB ixF (mFld "kept" (mVar 0)) (mVar 1)) aNil)) aNil))) (sSeq (sFor 3 (iR2 (mC (.int 1)) (mN lenF (aCons (mFld "lists" (mVar 0)) aNil))) (sAppL (mVar 2) (mCall p_forth (aCons (mB ixF (mFld "ways" (mVar 0)) (mVar 3)) (aCons (mB ixF (mVar 2) (mB ixF (mFld "elders" (mVar 0)) (mVar 3))) (aCons (mMeth p_B_own "own" (mVar 0) (aCons (mVar 1) (aCons (mVar 3) aNil))) aNil)))))) (sRet (mVar 2))))
def p_B_all_readings : Psi := runA 4 b_B_all_readings
def b_B_changed : MS := (sSeq (sOwn 4 (mMeth p_B_reading "reading" (mVar 0) (aCons (mVar 1) (aCons (mVar 2) aNil)))) (sSeq (sForD 5 (mVar 3) (sIf (mB dninF (mVar 5) (mVar 4)) (sRaise "NoField") sSkip)) (sSeq (sForD 5 (mVar 3) (sSeq (sIf (mNot (mCall p_is_number (aCons (mB dgetF (mVar 3) (mVar 5)) aNil))) (sRaise "BadNumber") sSkip) (sPutD (mVar 4) (mVar 5) (mB dgetF (mVar 3) (mVar 5))))) (sRet (mVar 4)))))
def p_B_changed : Psi := runA 6 b_B_changed
def b_B_change : MS := (sSeq (sSet 4 (mMeth p_B_changed "changed" (mVar 0) (aCons (mVar 1) (aCons (mVar 2) (aCons (mVar 3) aNil))))) (sSeq (sSet 5 (mMeth p_B_line "line" (mVar 0) (aCons (mVar 2) aNil))) (sSeq (sOwn 6 (mMeth p_B_readings "readings" (mVar 0) (aCons (mVar 1) (aCons (mVar 2) aNil)))) (sSeq (sOwn 7 (mN dictF (aCons (mB ixF (mFld "owns" (mVar 0)) (mVar 1)) aNil))) (sSeq (sFor 8 (iR3 (mB subF (mN lenF (aCons (mVar 5) aNil)) (mC (.int 1))) (mC (.int 0)) (mU negF (mC (.int 1)))) (sSeq (sSet 11 (mB ixF (mFld "ways" (mVar 0)) (mB ixF (mVar 5) (mVar 8)))) (sSeq (sIf (mB eqF (mB ixF (mVar 11) (mC (.int 0))) (mC (.str "add"))) (sPutD (mVar 7) (mB ixF (mVar 5) (mVar 8)) (mB dgetF (mVar 4) (mB ixF (mVar 11) (mC (.int 1))))) sSkip) (sSet 4 (mCall p_back (aCons (mVar 11) (aCons (mVar 4) (aCons (mIxC (mVar 6) (mB subF (mVar 8) (mC (.int 1)))) aNil)))))))) (sSeq (sFrz 7) (sSeq (sSet 9 (mMeth p_B_all_readings "all_readings" (mVar 0) (aCons (mVar 1) aNil))) (sSeq (sPutL (mFld "kept" (mVar 0)) (mVar 1) (mVar 4)) (sSeq (sPutL (mFld "owns" (mVar 0)) (mVar 1) (mVar 7)) (sSeq (sSet 10 (mMeth p_B_all_readings "all_readings" (mVar 0) (aCons (mVar 1) aNil))) (sRet (mLc 8 (iR1 (mN lenF (aCons (mVar 10) aNil))) (mB neF (mB ixF (mVar 10) (mVar 8)) (mB ixF (mVar 9) (mVar 8))) (mVar 8)))))))))))))
def p_B_change : Psi := runA 12 b_B_change
def b_l_whole : MS := (sRet (mAnd (mU (isiF .int) (mVar 0)) (mNot (mU (isiF .bl) (mVar 0)))))
def p_l_whole : Psi := runA 1 b_l_whole
def b_l_cell_at : MS := (sSeq (sIf (mB ltF (mVar 1) (mN lenF (aCons (mVar 0) aNil))) (sRet (mB ixF (mVar 0) (mVar 1))) sSkip) (sRet (mC (.int 0))))
def p_l_cell_at : Psi := runA 2 b_l_cell_at
def b_l_pool : MS := (sSeq (sSet 1 (mC (.str "abcdefghijklmnopqrstuvwxyz"))) (sSeq (sOwn 2 (mLst aNil)) (sSeq (sFor 3 (iR1 (mC (.int 26))) (sSeq (sSet 4 (mB ixF (mVar 1) (mB modF (mB divF (mVar 0) (mC (.int 2))) (mC (.int 26))))) (sSeq (sSet 5 (mB modF (mB divF (mVar 0) (mC (.int 52))) (mC (.int 8)))) (sSeq (sSet 6 (mB addF (mB mulF (mVar 4) (mVar 5)) (mB ixF (mVar 1) (mB modF (mB addF (mB divF (mVar 0) (mC (.int 416))) (mB mulF (mC (.int 7)) (mVar 3))) (mC (.int 26)))))) (sSeq (sSet 6 (mB addF (mVar 6) (mB mulF (mVar 4) (mB modF (mB divF (mVar 0) (mC (.int 416))) (mB subF (mC (.int 8)) (mVar 5)))))) (sSeq (sIf (mB eqF (mB modF (mVar 0) (mC (.int 2))) (mC (.int 1))) (sSeq (sSet 7 (mB addF (mB divF (mVar 0) (mC (.int 2))) (mB mulF (mB divF (mVar 3) (mC (.int 8))) (mC (.int 3))))) (sSet 6 (mU (joinA "") (mLc 8 (iR1 (mB addF (mC (.int 1)) (mB modF (mVar 3) (mC (.int 8))))) (mC (.bl true)) (mB ixF (mVar 1) (mB modF (mB addF (mVar 7) (mVar 8)) (mC (.int 26)))))))) sSkip) (sAppL (mVar 2) (mVar 6)))))))) (sRet (mVar 2)))))
def p_l_pool : Psi := runA 9 b_l_pool
end PB

/-! PA: readings and steps in plain Lean. -/
namespace PB
open PySem L2 Fm
abbrev sk (a : Str) : Key := .inr a
/-- a reading: names and numbers -/
abbrev Rd := List (Str × Int)
def gR (d : Rd) (a : Str) : Option Int := (d.find? fun p => decide (p.1 = a)).map (·.2)
def pR (d : Rd) (a : Str) (i : Int) : Rd := if (d.any fun p => decide (p.1 = a)) = true then d.map (fun p => if p.1 = a then (p.1, i) else p) else d ++ [(a, i)]
def dR (d : Rd) (a : Str) : Rd := d.filter fun p => decide (p.1 ≠ a)
def rK (d : Rd) : List (Key × F) := d.map fun p => (sk p.1, F.int p.2)
abbrev rF (d : Rd) : F := .dct (rK d)
abbrev nm (d : Rd) : List Str := d.map (·.1)
theorem skinj {a b : Str} : (sk a = sk b) = (a = b) := by
  simp [sk]
@[simp] theorem vK_rK (d : Rd) (a : Str) : vK (rK d) (sk a) = (gR d a).map F.int := by
  induction d with
  | nil => rfl
  | cons p r ih =>
    obtain ⟨l, x⟩ := p
    show vK ((sk l, F.int x) :: rK r) (sk a) = _
    rw [vK_cons, ih]
    unfold gR
    rw [List.find?_cons]
    by_cases h : l = a
    · simp [h]
    · simp [h, skinj]
theorem any_rK (d : Rd) (a : Str) : ((rK d).any fun kv => decide (kv.1 = sk a)) = d.any fun p => decide (p.1 = a) := by
  unfold rK
  rw [List.any_map]
  congr 1
  funext p
  simp
@[simp] theorem pK_rK (d : Rd) (a : Str) (i : Int) : pK (rK d) (sk a) (.int i) = rK (pR d a i) := by
  unfold pK pR
  rw [any_rK]
  split
  · unfold rK
    rw [List.map_map, List.map_map]
    apply List.map_congr_left
    intro p _
    simp only [Function.comp]
    by_cases h : p.1 = a <;> simp [h]
  · unfold rK
    rw [List.map_append]
    rfl
@[simp] theorem dK_rK (d : Rd) (a : Str) : dK (rK d) (sk a) = rK (dR d a) := by
  unfold dK dR rK
  rw [List.filter_map]
  congr 1
  apply List.filter_congr
  intro p _
  simp
@[simp] theorem rK_len (d : Rd) : (rK d).length = d.length := by simp [rK]
@[simp] theorem rK_nil : rK [] = [] := rfl
theorem rK_keys (d : Rd) : (rK d).map (·.1) = (nm d).map sk := by
  simp [rK, nm]
theorem gR_nil (a : Str) : gR [] a = none := rfl
theorem gR_cons (l : Str) (x : Int) (r : Rd) (a : Str) : gR ((l, x) :: r) a = if l = a then some x else gR r a := by
  unfold gR
  rw [List.find?_cons]
  by_cases h : l = a <;> simp [h]
theorem map_int_inj {x y : Option Int} (h : x.map F.int = y.map F.int) : x = y := by
  cases x <;> cases y <;> simp at h ⊢
  exact h
theorem gR_put (d : Rd) (a : Str) (i : Int) (b : Str) : gR (pR d a i) b = if b = a then some i else gR d b := by
  apply map_int_inj
  rw [← vK_rK, ← pK_rK, vK_put]
  by_cases h : b = a
  · simp [h]
  · simp [h, skinj]
theorem gR_drp (d : Rd) (a b : Str) : gR (dR d a) b = if b = a then none else gR d b := by
  apply map_int_inj
  rw [← vK_rK, ← dK_rK, vK_drp]
  by_cases h : b = a
  · simp [h]
  · simp [h, skinj]
theorem mem_gR {d : Rd} {a : Str} : a ∈ nm d ↔ (gR d a).isSome = true := by
  induction d with
  | nil => simp [gR_nil]
  | cons p r ih =>
    obtain ⟨l, x⟩ := p
    rw [gR_cons]
    simp only [List.map_cons, List.mem_cons]
    by_cases h : l = a
    · simp [h]
    · have : ¬ a = l := fun z => h z.symm
      simp [h, this, ih]
theorem gR_of_mem {d : Rd} {a : Str} (h : a ∈ nm d) : ∃ i, gR d a = some i := Option.isSome_iff_exists.mp (mem_gR.mp h)
theorem gR_no {d : Rd} {a : Str} (h : a ∉ nm d) : gR d a = none := by
  cases e : gR d a with
  | none => rfl
  | some i => exact absurd (mem_gR.mpr (by rw [e]; rfl)) h
/-- names, each once -/
abbrev NdR (d : Rd) : Prop := (nm d).Nodup
theorem NdR.k {d : Rd} (h : NdR d) : NdK (rK d) := by
  unfold NdK
  rw [rK_keys]
  have h : (nm d).Nodup := h
  rw [List.nodup_iff_pairwise_ne] at h ⊢
  rw [List.pairwise_map]
  exact h.imp fun {a b} q z => q (Sum.inr.inj z)
theorem NdR.of {d : Rd} (h : NdK (rK d)) : NdR d := by
  unfold NdK at h
  rw [rK_keys] at h
  show (nm d).Nodup
  rw [List.nodup_iff_pairwise_ne] at h ⊢
  rw [List.pairwise_map] at h
  exact h.imp fun {a b} q z => q (by rw [z])
theorem NdR.put {d : Rd} (h : NdR d) (a : Str) (i : Int) : NdR (pR d a i) := .of (by rw [← pK_rK]; exact h.k.put _ _)
theorem NdR.drp {d : Rd} (h : NdR d) (a : Str) : NdR (dR d a) := .of (by rw [← dK_rK]; exact h.k.drp _)
theorem IntD_rK (d : Rd) : IntD (rK d) := fun k x h => by
  induction d with
  | nil => simp [vK_nil] at h
  | cons p r ih =>
    obtain ⟨l, y⟩ := p
    have h : vK ((sk l, F.int y) :: rK r) k = some x := h
    rw [vK_cons] at h
    split at h
    · cases h; exact ⟨y, rfl⟩
    · exact ih h
theorem pR_len (d : Rd) (a : Str) (i : Int) : (pR d a i).length ≤ d.length + 1 := by
  unfold pR
  split
  · rw [List.length_map]; omega
  · rw [List.length_append]; simp
theorem dR_len (d : Rd) (a : Str) : (dR d a).length ≤ d.length := List.length_filter_le _ _
theorem mem_put {d : Rd} {a b : Str} {i : Int} : b ∈ nm (pR d a i) ↔ b = a ∨ b ∈ nm d := by
  rw [mem_gR, mem_gR, gR_put]
  by_cases h : b = a <;> simp [h]
theorem mem_drp {d : Rd} {a b : Str} : b ∈ nm (dR d a) ↔ b ≠ a ∧ b ∈ nm d := by
  rw [mem_gR, mem_gR, gR_drp]
  by_cases h : b = a <;> simp [h]
theorem NdR.len {d e : Rd} (h : NdR d) (h2 : NdR e) (q : ∀ a, a ∈ nm d ↔ a ∈ nm e) : d.length = e.length := by
  have : (nm d).Perm (nm e) := (List.perm_ext_iff_of_nodup h h2).mpr q
  simpa using this.length_eq
/-- equal as readings -/
def EqR (d e : Rd) : Prop := ∀ a, gR d a = gR e a
theorem EqR.rfl {d : Rd} : EqR d d := fun _ => by rfl
theorem EqR.symm {d e : Rd} (h : EqR d e) : EqR e d := fun a => (h a).symm
theorem EqR.trans {d e f : Rd} (h : EqR d e) (k : EqR e f) : EqR d f := fun a => (h a).trans (k a)
theorem EqR.mem {d e : Rd} (h : EqR d e) {a : Str} : a ∈ nm d ↔ a ∈ nm e := by rw [mem_gR, mem_gR, h a]
/-- .. as a test -/
def eqRb (d e : Rd) : Bool := decide (d.length = e.length) && d.all fun p => decide (gR e p.1 = some p.2)
theorem gR_mem {d : Rd} (h : NdR d) {a : Str} {i : Int} (m : (a, i) ∈ d) : gR d a = some i := by
  induction d with
  | nil => cases m
  | cons p r ih =>
    obtain ⟨l, y⟩ := p
    rw [gR_cons]
    have h : (l :: nm r).Nodup := h
    rw [List.nodup_cons] at h
    rcases List.mem_cons.mp m with e | m
    · cases e; simp
    · rw [if_neg fun z => h.1 (by rw [z]; exact List.mem_map.mpr ⟨_, m, rfl⟩)]
      exact ih h.2 m
theorem mem_of_gR {d : Rd} {a : Str} {i : Int} (h : gR d a = some i) : (a, i) ∈ d := by
  unfold gR at h
  rw [Option.map_eq_some_iff] at h
  obtain ⟨p, hp, e⟩ := h
  have h1 := List.mem_of_find?_eq_some hp
  have h2 := List.find?_some hp
  simp at h2
  rw [← h2, ← e]; exact h1
theorem eqRb_iff {d e : Rd} (h : NdR d) (h2 : NdR e) : eqRb d e = true ↔ EqR d e := by
  unfold eqRb
  rw [Bool.and_eq_true, decide_eq_true_eq, List.all_eq_true]
  constructor
  · rintro ⟨hl, ha⟩ a
    have sub : ∀ a, a ∈ nm d → a ∈ nm e := fun a hm => by
      obtain ⟨p, hp, rfl⟩ := List.mem_map.mp hm
      have := ha p hp
      simp at this
      rw [mem_gR, this]; rfl
    by_cases hd : a ∈ nm d
    · obtain ⟨i, hi⟩ := gR_of_mem hd
      have := ha _ (mem_of_gR hi)
      simp at this
      rw [hi, this]
    · rw [gR_no hd]
      by_cases he : a ∈ nm e
      · exfalso
        have := List.Nodup.length_le_of_subset (l₁ := a :: nm d) (l₂ := nm e) (List.nodup_cons.mpr ⟨hd, h⟩) (fun b hb => by
          rcases List.mem_cons.mp hb with rfl | hb
          · exact he
          · exact sub b hb)
        simp at this
        omega
      · rw [gR_no he]
  · intro q
    refine ⟨h.len h2 fun a => q.mem, fun p hp => ?_⟩
    obtain ⟨a, i⟩ := p
    simp only [decide_eq_true_eq]
    rw [← q a]
    exact gR_mem h hp
theorem flat_rK (d : Rd) : ((rK d).all fun p => flatF p.2) = true := by
  rw [List.all_eq_true]
  intro p hp
  obtain ⟨q, _, rfl⟩ := List.mem_map.mp hp
  rfl
theorem eqN_rK (n : Nat) (d e : Rd) : eqN (n + 1) (rF d) (rF e) = some (eqRb d e) := by
  unfold rF eqN
  rw [flat_rK, flat_rK]
  simp only [Bool.and_self, if_true, rK_len]
  congr 1
  unfold eqRb
  congr 1
  unfold rK
  rw [List.all_map]
  congr 1
  funext p
  simp only [Function.comp]
  show (match vK (rK e) (sk p.1) with
    | some y => eqFl (.int p.2) y
    | none => false) = _
  rw [vK_rK]
  cases h : gR e p.1 with
  | none => simp
  | some i =>
    simp only [Option.map_some, eqFl]
    by_cases q : i = p.2
    · simp [q]
    · have : ¬ p.2 = i := fun z => q z.symm
      simp [q, this]
@[simp] theorem eqT_rK (d e : Rd) : eqT (rF d) (rF e) = some (eqRb d e) := eqN_rK 5 d e
end PB

/-! PC: steps; forth and back, run. -/
namespace PB
open PySem L2 Fm
inductive Stp where
  | add (c : Str) (n : Int) | drop (a : Str) | name (a c : Str) | shift (a : Str) (n : Int) | turn (a : Str) | part (a c e : Str) (z : Int) | join (a b c : Str) (z : Int)
  deriving DecidableEq
namespace Stp
def l : Stp → List F
  | .add c n => [.str (Str.ofString "add"), .str c, .int n]
  | .drop a => [.str (Str.ofString "drop"), .str a]
  | .name a c => [.str (Str.ofString "name"), .str a, .str c]
  | .shift a n => [.str (Str.ofString "shift"), .str a, .int n]
  | .turn a => [.str (Str.ofString "turn"), .str a]
  | .part a c e z => [.str (Str.ofString "part"), .str a, .str c, .str e, .int z]
  | .join a b c z => [.str (Str.ofString "join"), .str a, .str b, .str c, .int z]
abbrev f (st : Stp) : F := .tup st.l
def old : Stp → List Str
  | .add _ _ => []
  | .drop a => [a] | .name a _ => [a] | .shift a _ => [a] | .turn a => [a] | .part a _ _ _ => [a]
  | .join a b _ _ => [a, b]
def new : Stp → List Str
  | .add c _ => [c]
  | .drop _ => []
  | .name _ c => [c]
  | .shift a _ => [a] | .turn a => [a]
  | .part _ c e _ => [c, e]
  | .join _ _ c _ => [c]
def wf : Stp → Prop
  | .part _ c e z => c ≠ e ∧ 2 ≤ z ∧ z ≤ 1000000
  | .join a b _ z => a ≠ b ∧ 2 ≤ z ∧ z ≤ 1000000
  | _ => True
def isAdd : Stp → Bool
  | .add _ _ => true
  | _ => false
end Stp
def vR (d : Rd) (a : Str) : Int := (gR d a).getD 0
def forthR (st : Stp) (d : Rd) (own : Int) : Rd := match st with
  | .add c _ => pR d c own
  | .drop a => dR d a
  | .name a c => pR (dR d a) c (vR d a)
  | .shift a n => pR (dR d a) a (vR d a + n)
  | .turn a => pR (dR d a) a (0 - vR d a)
  | .part a c e z => pR (pR (dR d a) c ((vR d a).fdiv z)) e ((vR d a).fmod z)
  | .join a b c z => pR (dR (dR d a) b) c (vR d a * z + vR d b)
/-- back; none: refused -/
def backR (st : Stp) (d e : Rd) : Option Rd := match st with
  | .add c _ => some (dR d c)
  | .drop a => some (pR d a (vR e a))
  | .name a c => some (pR (dR d c) a (vR d c))
  | .shift a n => some (pR (dR d a) a (vR d a - n))
  | .turn a => some (pR (dR d a) a (0 - vR d a))
  | .part a c b z => if vR d b < 0 ∨ z ≤ vR d b then none else some (pR (dR (dR d c) b) a (vR d c * z + vR d b))
  | .join a b c z => some (pR (pR (dR d c) a ((vR d c).fdiv z - (vR e b).fdiv z)) b ((vR d c).fmod z + (vR e b).fdiv z * z))
theorem gR_v {d : Rd} {a : Str} (h : a ∈ nm d) : gR d a = some (vR d a) := by
  obtain ⟨i, hi⟩ := gR_of_mem h
  unfold vR; rw [hi]; rfl
theorem ltz {n m : Nat} (h : n ≤ m) (hm : m ≤ 2000) : n < sizeLine := Nat.lt_of_le_of_lt (Nat.le_trans h hm) (by decide)
section
variable {s : Sto} (hs : insOk s)
include hs
theorem bf_ok (st : Stp) : p_begins_from [.f st.f] s = .ok (.fr (.lst (st.old.map F.str))) s := by
  refine runA_fr hs ?_
  cases st <;> simp [b_begins_from, Stp.l, Stp.old, show 1 ≤ sizeLine by decide, show 2 ≤ sizeLine by decide]
theorem br_ok (st : Stp) : p_brings [.f st.f] s = .ok (.fr (.lst (st.new.map F.str))) s := by
  refine runA_fr hs ?_
  cases st <;> simp [b_brings, Stp.l, Stp.new, show 1 ≤ sizeLine by decide, show 2 ≤ sizeLine by decide]
end
def ownF : Option Int → F
  | none => .non
  | some i => .int i
set_option maxHeartbeats 0
theorem forth_ok {s : Sto} (hs : insOk s) {d : Rd} {w : W} (hw : w = .f (rF d) ∨ ∃ k, w = .c k ∧ s.O[k]? = some (.dct (rK d))) (hl : d.length ≤ 1000) {st : Stp} (wf : st.wf) (fit : ∀ a ∈ st.old, a ∈ nm d) {own : Option Int} (ho : st.isAdd = true → own.isSome = true) :
    p_forth [.f st.f, w, .f (ownF own)] s = .ok (.fr (.dct (rK (forthR st d (own.getD 0))))) s := by
  have l0 : d.length < sizeLine := ltz hl (by decide)
  have hd : ∀ a, (dR d a).length < sizeLine := fun a => ltz (Nat.le_trans (dR_len _ _) hl) (by decide)
  have hdd : ∀ a b, (dR (dR d a) b).length < sizeLine := fun a b => ltz (Nat.le_trans (dR_len _ _) (Nat.le_trans (dR_len _ _) hl)) (by decide)
  have hp : ∀ a c i, (pR (dR d a) c i).length < sizeLine := fun a c i => ltz (Nat.le_trans (pR_len _ _ _) (Nat.succ_le_succ (Nat.le_trans (dR_len _ _) hl))) (by decide)
  have hb := bf_ok hs st
  refine runA_fr hs ?_
  cases st with
  | add c n =>
    obtain ⟨i, rfl⟩ := Option.isSome_iff_exists.mp (ho rfl)
    clear fit; rcases hw with rfl | ⟨k, rfl, hw⟩ <;> simp [b_forth, Stp.l, Stp.old, loopF, forthR, ownF, l0, *]
  | drop a =>
    have ga := gR_v (fit a (by simp [Stp.old]))
    clear fit; rcases hw with rfl | ⟨k, rfl, hw⟩ <;> simp [b_forth, Stp.l, Stp.old, loopF, forthR, ga, *]
  | name a c =>
    have ga := gR_v (fit a (by simp [Stp.old]))
    clear fit; rcases hw with rfl | ⟨k, rfl, hw⟩ <;> simp [b_forth, Stp.l, Stp.old, loopF, forthR, ga, hd, *]
  | shift a n =>
    have ga := gR_v (fit a (by simp [Stp.old]))
    clear fit; rcases hw with rfl | ⟨k, rfl, hw⟩ <;> simp [b_forth, Stp.l, Stp.old, loopF, forthR, ga, hd, *]
  | turn a =>
    have ga := gR_v (fit a (by simp [Stp.old]))
    clear fit; rcases hw with rfl | ⟨k, rfl, hw⟩ <;> simp [b_forth, Stp.l, Stp.old, loopF, forthR, ga, hd, *]
  | part a c e z =>
    have ga := gR_v (fit a (by simp [Stp.old]))
    obtain ⟨_, z2, z3⟩ := wf
    have zd : divOk z = true := divOk_of (by omega)
    have z0 : ¬ z = 0 := by omega
    clear fit; rcases hw with rfl | ⟨k, rfl, hw⟩ <;> simp [b_forth, Stp.l, Stp.old, loopF, forthR, ga, hd, hp, zd, z0, *]
  | join a b c z =>
    have ga := gR_v (fit a (by simp [Stp.old]))
    have gb := gR_v (fit b (by simp [Stp.old]))
    obtain ⟨ab, z2, z3⟩ := wf
    have zm : mulOk (vR d a) z = true := mulOk_of (.inr (by omega))
    have gb2 : gR (dR d a) b = some (vR d b) := by rw [gR_drp, if_neg (fun q => ab q.symm), gb]
    clear fit; rcases hw with rfl | ⟨k, rfl, hw⟩ <;> simp [b_forth, Stp.l, Stp.old, loopF, forthR, ga, gb, gb2, hdd, zm, *]
theorem back_ok {s : Sto} (hs : insOk s) {d e : Rd} {w w2 : W} (hw : w = .f (rF d) ∨ ∃ k, w = .c k ∧ s.O[k]? = some (.dct (rK d))) (hw2 : w2 = .f (rF e) ∨ ∃ k, w2 = .c k ∧ s.O[k]? = some (.dct (rK e))) (hl : d.length ≤ 1000) {st : Stp} (wf : st.wf)
    (fit : ∀ a ∈ st.new, a ∈ nm d) (fit2 : ∀ a ∈ st.old, a ∈ nm e) :
    (∀ r, backR st d e = some r → p_back [.f st.f, w, w2] s = .ok (.fr (.dct (rK r))) s) ∧ (backR st d e = none → p_back [.f st.f, w, w2] s = .exc "BadNumber" s) := by
  have l0 : d.length < sizeLine := ltz hl (by decide)
  have hd : ∀ a, (dR d a).length < sizeLine := fun a => ltz (Nat.le_trans (dR_len _ _) hl) (by decide)
  have hdd : ∀ a b, (dR (dR d a) b).length < sizeLine := fun a b => ltz (Nat.le_trans (dR_len _ _) (Nat.le_trans (dR_len _ _) hl)) (by decide)
  have hp : ∀ a c i, (pR (dR d a) c i).length < sizeLine := fun a c i => ltz (Nat.le_trans (pR_len _ _ _) (Nat.succ_le_succ (Nat.le_trans (dR_len _ _) hl))) (by decide)
  have hb := br_ok hs st
  cases st with
  | add c n =>
    have gc := gR_v (fit c (by simp [Stp.new]))
    refine ⟨fun r hr => runA_fr hs ?_, fun hr => by cases hr⟩
    cases hr
    clear fit fit2
    rcases hw with rfl | ⟨k, rfl, hw⟩ <;> rcases hw2 with rfl | ⟨k2, rfl, hw2⟩ <;> simp [b_back, Stp.l, Stp.new, loopF, gc, *]
  | drop a =>
    have ga := gR_v (fit2 a (by simp [Stp.old]))
    refine ⟨fun r hr => runA_fr hs ?_, fun hr => by cases hr⟩
    cases hr
    clear fit fit2
    rcases hw with rfl | ⟨k, rfl, hw⟩ <;> rcases hw2 with rfl | ⟨k2, rfl, hw2⟩ <;> simp [b_back, Stp.l, Stp.new, loopF, ga, *]
  | name a c =>
    have gc := gR_v (fit c (by simp [Stp.new]))
    refine ⟨fun r hr => runA_fr hs ?_, fun hr => by cases hr⟩
    cases hr
    clear fit fit2
    rcases hw with rfl | ⟨k, rfl, hw⟩ <;> rcases hw2 with rfl | ⟨k2, rfl, hw2⟩ <;> simp [b_back, Stp.l, Stp.new, loopF, gc, *]
  | shift a n =>
    have gc := gR_v (fit a (by simp [Stp.new]))
    refine ⟨fun r hr => runA_fr hs ?_, fun hr => by cases hr⟩
    cases hr
    clear fit fit2
    rcases hw with rfl | ⟨k, rfl, hw⟩ <;> rcases hw2 with rfl | ⟨k2, rfl, hw2⟩ <;> simp [b_back, Stp.l, Stp.new, loopF, gc, *]
  | turn a =>
    have gc := gR_v (fit a (by simp [Stp.new]))
    refine ⟨fun r hr => runA_fr hs ?_, fun hr => by cases hr⟩
    cases hr
    clear fit fit2
    rcases hw with rfl | ⟨k, rfl, hw⟩ <;> rcases hw2 with rfl | ⟨k2, rfl, hw2⟩ <;> simp [b_back, Stp.l, Stp.new, loopF, gc, *]
  | part a c b z =>
    have gc := gR_v (fit c (by simp [Stp.new]))
    have gb := gR_v (fit b (by simp [Stp.new]))
    obtain ⟨cb, z2, z3⟩ := wf
    have gb2 : gR (dR d c) b = some (vR d b) := by rw [gR_drp, if_neg (fun q => cb q.symm), gb]
    have zm : mulOk (vR d c) z = true := mulOk_of (.inr (by omega))
    by_cases q1 : vR d b < 0
    · refine ⟨fun r hr => by simp [backR, q1] at hr, fun hr => runA_exc (sl := [.v (.f (Stp.part a c b z).f), .v w, .v w2, .own (.dct (rK (dR (dR d c) b))), .v (.f (.str b)), .v (.f (.str "part")), .no]) hs ?_⟩
      clear fit fit2
      rcases hw with rfl | ⟨k, rfl, hw⟩ <;> rcases hw2 with rfl | ⟨k2, rfl, hw2⟩ <;> simp [b_back, Stp.l, Stp.new, loopF, gc, gb, gb2, *]
    · by_cases q2 : z ≤ vR d b
      · refine ⟨fun r hr => by simp [backR, q2] at hr, fun hr => runA_exc (sl := [.v (.f (Stp.part a c b z).f), .v w, .v w2, .own (.dct (rK (dR (dR d c) b))), .v (.f (.str b)), .v (.f (.str "part")), .no]) hs ?_⟩
        clear fit fit2
        rcases hw with rfl | ⟨k, rfl, hw⟩ <;> rcases hw2 with rfl | ⟨k2, rfl, hw2⟩ <;> simp [b_back, Stp.l, Stp.new, loopF, gc, gb, gb2, *]
      · refine ⟨fun r hr => runA_fr hs ?_, fun hr => by simp [backR, q1, q2] at hr⟩
        simp only [backR, q1, q2, or_self, if_false] at hr
        cases hr
        clear fit fit2
        rcases hw with rfl | ⟨k, rfl, hw⟩ <;> rcases hw2 with rfl | ⟨k2, rfl, hw2⟩ <;> simp [b_back, Stp.l, Stp.new, loopF, gc, gb, gb2, *]
  | join a b c z =>
    have gc := gR_v (fit c (by simp [Stp.new]))
    have gb := gR_v (fit2 b (by simp [Stp.old]))
    obtain ⟨ab, z2, z3⟩ := wf
    have zd : divOk z = true := divOk_of (by omega)
    have z0 : ¬ z = 0 := by omega
    have zm : mulOk ((vR e b).fdiv z) z = true := mulOk_of (.inr (by omega))
    refine ⟨fun r hr => runA_fr hs ?_, fun hr => by cases hr⟩
    cases hr
    clear fit fit2
    rcases hw with rfl | ⟨k, rfl, hw⟩ <;> rcases hw2 with rfl | ⟨k2, rfl, hw2⟩ <;> simp [b_back, Stp.l, Stp.new, loopF, gc, gb, *]
end PB

/-! PD: names_behind, is_name, is_number, is_step, run. -/
namespace PB
open PySem L2 Fm
abbrev nsF (L : List Str) : F := .lst (L.map F.str)
/-- a loop that tests, out by an error at the first that fails -/
theorem loopF_exc {i : Nat} {body : MS} {s : Sto} {P : List Sl → Prop} {p : F → Bool} {c : Str} : ∀ (xs : List F) (sl : List Sl), P sl → (∀ x ∈ xs, ∀ sl, P sl → if p x = true then ∃ sl', body (sl.set i (.v (.f x))) s = .nx sl' s ∧ P sl' else ∃ sl', body (sl.set i (.v (.f x))) s = .exc c sl' s) →
    (xs.all p = true ∧ ∃ sl', loopF i body xs sl s = .nx sl' s ∧ P sl') ∨ (xs.all p = false ∧ ∃ sl', loopF i body xs sl s = .exc c sl' s)
  | [], sl, hp, _ => .inl ⟨rfl, sl, rfl, hp⟩
  | x :: xs, sl, hp, h => by
    have h0 := h x List.mem_cons_self sl hp
    cases hx : p x with
    | true =>
      rw [if_pos hx] at h0
      obtain ⟨sl1, e, h1⟩ := h0
      rcases loopF_exc xs sl1 h1 fun y hy => h y (List.mem_cons_of_mem _ hy) with ⟨q1, sl2, e2, h2⟩ | ⟨q1, sl2, e2⟩
      · exact .inl ⟨by rw [List.all_cons, hx, q1]; rfl, sl2, by unfold loopF; rw [e]; exact e2, h2⟩
      · exact .inr ⟨by rw [List.all_cons, hx, q1]; rfl, sl2, by unfold loopF; rw [e]; exact e2⟩
    | false =>
      rw [if_neg (by rw [hx]; exact Bool.false_ne_true)] at h0
      obtain ⟨sl2, e2⟩ := h0
      exact .inr ⟨by rw [List.all_cons, hx]; rfl, sl2, by unfold loopF; rw [e2]⟩
/-- a loop by an invariant over what was walked -/
theorem loopF_inv0 {i : Nat} {body : MS} {P : List F → List Sl → Sto → Prop} {full : List F} (h : ∀ pre x post, full = pre ++ x :: post → ∀ sl s, P pre sl s → ∃ sl' s', body (sl.set i (.v (.f x))) s = .nx sl' s' ∧ P (pre ++ [x]) sl' s') :
    ∀ (xs pre : List F) (sl : List Sl) (s : Sto), full = pre ++ xs → P pre sl s → ∃ sl' s', loopF i body xs sl s = .nx sl' s' ∧ P full sl' s'
  | [], pre, sl, s, e, hp => ⟨sl, s, rfl, by rw [e, List.append_nil]; exact hp⟩
  | x :: xs, pre, sl, s, e, hp => by
    obtain ⟨sl1, s1, e1, h1⟩ := h pre x xs e sl s hp
    obtain ⟨sl2, s2, e2, h2⟩ := loopF_inv0 h xs (pre ++ [x]) sl1 s1 (by rw [e, List.append_assoc]; rfl) h1
    refine ⟨sl2, s2, ?_, h2⟩
    unfold loopF
    rw [e1]
    exact e2
theorem loopF_inv {i : Nat} {body : MS} (P : List F → List Sl → Sto → Prop) (xs : List F) (sl : List Sl) (s : Sto) (hp : P [] sl s) (h : ∀ pre x post, xs = pre ++ x :: post → ∀ sl s, P pre sl s → ∃ sl' s', body (sl.set i (.v (.f x))) s = .nx sl' s' ∧ P (pre ++ [x]) sl' s') :
    ∃ sl' s', loopF i body xs sl s = .nx sl' s' ∧ P xs sl' s' := loopF_inv0 h xs [] sl s rfl hp
theorem strs_inj : ∀ {A B : List Str}, A.map F.str = B.map F.str → A = B
  | [], [], _ => rfl
  | [], _ :: _, h => by cases h
  | _ :: _, [], h => by cases h
  | a :: A, b :: B, h => by
    rw [List.map_cons, List.map_cons] at h
    cases (List.cons.inj h).1
    rw [strs_inj (List.cons.inj h).2]
/-- .. over names, the store as it is -/
theorem loop_strs {i : Nat} {body : MS} {s : Sto} (P : List Str → List Sl → Prop) (L : List Str) (sl : List Sl) (hp : P [] sl) (h : ∀ pre x post, L = pre ++ x :: post → ∀ sl, P pre sl → ∃ sl', body (sl.set i (.v (.f (.str x)))) s = .nx sl' s ∧ P (pre ++ [x]) sl') :
    ∃ sl', loopF i body (L.map F.str) sl s = .nx sl' s ∧ P L sl' := by
  obtain ⟨sl', s', e, rfl, pre, ep, hp'⟩ := loopF_inv (i := i) (body := body) (fun xs sl s' => s' = s ∧ ∃ pre : List Str, xs = pre.map F.str ∧ P pre sl) (L.map F.str) sl s ⟨rfl, [], rfl, hp⟩ (fun xs x post e sl s' ⟨es, pre, ep, hP⟩ => by
    subst es ep
    obtain ⟨l1, l2, rfl, h1, h2⟩ := List.map_eq_append_iff.mp e
    cases l2 with
    | nil => cases h2
    | cons a l2 =>
      cases h2
      have e1 : l1 = pre := strs_inj h1
      subst e1
      obtain ⟨sl', e2, h3⟩ := h l1 a l2 rfl sl hP
      exact ⟨sl', s', e2, rfl, l1 ++ [a], by simp, h3⟩)
  have : L = pre := strs_inj ep
  subst this
  exact ⟨sl', e, hp'⟩
@[simp] theorem all_strs (L : List Str) : (L.map F.str).all flatF = true := by
  rw [List.all_eq_true]; intro x hx; obtain ⟨y, _, rfl⟩ := List.mem_map.mp hx; rfl
@[simp] theorem any_strs (L : List Str) (x : Str) : ((L.map F.str).any fun y => eqFl y (.str x)) = decide (x ∈ L) := by
  induction L with
  | nil => rfl
  | cons a l ih =>
    rw [List.map_cons, List.any_cons, ih]
    simp only [eqFl, strBeq, List.mem_cons, Bool.decide_or]
    congr 1
    by_cases h : a = x
    · simp [h]
    · have : ¬ x = a := fun z => h z.symm
      simp [h, this]
theorem in_strs (L : List Str) (x : Str) : inF (.str x) (nsF L) = .val (.bl (decide (x ∈ L))) := by
  simp only [inF, flatF, all_strs, Bool.and_self, if_true, any_strs]
theorem nin_strs (L : List Str) (x : Str) : ninF (.str x) (nsF L) = .val (.bl (!decide (x ∈ L))) := by
  simp only [ninF, flatF, all_strs, Bool.and_self, if_true, any_strs]
/-- the newer form's names -/
def nbF (st : Stp) (L : List Str) : List Str := (L.flatMap fun x => if st.old.head? = some x then st.new else if x ∈ st.old then [] else [x]) ++ (if st.old = [] then st.new else [])
def nbR (st : Stp) (L : List Str) : Except Str (List Str) :=
  if (st.old.all fun a => decide (a ∈ L)) = false then .error "NoField"
  else if (L.all fun x => decide (x ∈ st.old) || !decide (x ∈ st.new)) = false then .error "Taken"
  else if (nbF st L).length < 1 ∨ 12 < (nbF st L).length then .error "BadForm"
  else .ok (nbF st L)
theorem all_map_str (L : List Str) (p : Str → Bool) : ((L.map F.str).all fun x => match x with
    | .str a => p a
    | _ => true) = L.all p := by
  rw [List.all_map]; rfl
theorem st1 {m1 m2 : MS} {sl sl' : List Sl} {s s' : Sto} (h : m1 sl s = .nx sl' s') : sSeq m1 m2 sl s = m2 sl' s' := by simp [h]
theorem stx {m1 m2 : MS} {sl sl' : List Sl} {s s' : Sto} {c : Str} (h : m1 sl s = .exc c sl' s') : sSeq m1 m2 sl s = .exc c sl' s' := by simp [h]
theorem flatMap_len (L : List Str) (st : Stp) : (L.flatMap fun x => if st.old.head? = some x then st.new else if x ∈ st.old then [] else [x]).length ≤ 2 * L.length := by
  induction L with
  | nil => simp
  | cons a l ih =>
    rw [List.flatMap_cons, List.length_append, List.length_cons]
    have : (if st.old.head? = some a then st.new else if a ∈ st.old then [] else [a]).length ≤ 2 := by
      split
      · cases st <;> simp [Stp.new]
      · split <;> simp
    omega
/-! ### running a body, statement by statement -/
def outA (s : Sto) (r : RS) : R Y := match r with
  | .rt (.w (.f x)) s' => if bOk s s' then .ok (.w (.f x)) (s.back s') else .bad
  | .rt (.w (.c k)) s' => if bOk s s' then (if k < s.O.length then .ok (.w (.c k)) (s.back s') else match s'.O[k]? with
      | some (.lst xs) => .ok (.fr (.lst xs)) (s.back s')
      | some (.dct kvs) => .ok (.fr (.dct kvs)) (s.back s')
      | _ => .bad) else .bad
  | .rt (.fr c) s' => if bOk s s' && c.ptrs.all fun p => decide (p < s.O.length) then .ok (.fr c) (s.back s') else .bad
  | .nx _ s' => if bOk s s' then .ok (.w (.f .non)) (s.back s') else .bad
  | .exc c _ s' => if bOk s s' then .exc c (s.back s') else .bad
  | _ => .bad
theorem run_of (N : Nat) (body : MS) (ws : List W) (s : Sto) : ∃ r, body (slots N ws) s = r ∧ runA N body ws s = outA s r := ⟨_, rfl, by
  unfold runA outA
  rfl⟩
theorem outA_rt {s : Sto} {x : F} (hs : insOk s) : outA s (.rt (.w (.f x)) s) = .ok (.w (.f x)) s := by simp [outA, bOk_self hs, back_self]
theorem outA_lst {s : Sto} {x : List F} (hs : insOk s) : outA s (.rt (.fr (.lst x)) s) = .ok (.fr (.lst x)) s := by simp [outA, bOk_self hs, back_self, Ct.ptrs]
theorem outA_dct {s : Sto} {x : List (Key × F)} (hs : insOk s) : outA s (.rt (.fr (.dct x)) s) = .ok (.fr (.dct x)) s := by simp [outA, bOk_self hs, back_self, Ct.ptrs]
theorem outA_exc {s : Sto} {c : Str} {sl : List Sl} (hs : insOk s) : outA s (.exc c sl s) = .exc c s := by simp [outA, bOk_self hs, back_self]
theorem outA_nx {s : Sto} {sl : List Sl} (hs : insOk s) : outA s (.nx sl s) = .ok (.w (.f .non)) s := by simp [outA, bOk_self hs, back_self]
theorem stepS {m1 m2 : MS} {sl sl' : List Sl} {s s' : Sto} {r : RS} (hr : sSeq m1 m2 sl s = r) (h : m1 sl s = .nx sl' s') : m2 sl' s' = r := by rw [← hr]; simp [h]
theorem step {m1 m2 : MS} {sl sl' : List Sl} {s : Sto} {r : RS} (hr : sSeq m1 m2 sl s = r) (h : m1 sl s = .nx sl' s) : m2 sl' s = r := stepS hr h
theorem stepx {m1 m2 : MS} {sl sl' : List Sl} {s s' : Sto} {c : Str} {r : RS} (hr : sSeq m1 m2 sl s = r) (h : m1 sl s = .exc c sl' s') : r = .exc c sl' s' := by rw [← hr]; simp [h]
theorem stepr {m1 m2 : MS} {sl : List Sl} {s s' : Sto} {y : Y} {r : RS} (hr : sSeq m1 m2 sl s = r) (h : m1 sl s = .rt y s') : r = .rt y s' := by rw [← hr]; simp [h]
def runX (r : Except Str (List Str)) (s : Sto) : R Y := match r with
  | .ok M => .ok (.fr (.lst (M.map F.str))) s
  | .error c => .exc c s
theorem eqT_strs (A B : List Str) : eqT (nsF A) (nsF B) = some (decide (A = B)) := by
  show eqN 6 (nsF A) (nsF B) = _
  unfold eqN
  simp only [List.length_map]
  have go : ∀ A B : List Str, A.length = B.length → allO (List.zipWith (eqN 5) (A.map F.str) (B.map F.str)) = some (decide (A = B)) := by
    intro A
    induction A with
    | nil => intro B hB; cases B with
      | nil => rfl
      | cons b B => cases hB
    | cons a A ih => intro B hB; cases B with
      | nil => cases hB
      | cons b B =>
        have h1 : eqN 5 (.str a) (.str b) = some (decide (a = b)) := by unfold eqN; simp
        simp only [List.map_cons, List.zipWith_cons_cons, h1, allO, ih B (by simpa using hB)]
        simp [List.cons.injEq, Bool.decide_and]
  by_cases h : A.length = B.length
  · rw [if_pos h, go A B h]
  · rw [if_neg h]
    have : ¬ A = B := fun z => h (by rw [z])
    simp [this]
theorem if_hd {α : Type} [DecidableEq α] {x : α} {xs : List α} {a : α} : ((x :: xs).head? = some a) = (x = a) := by simp
set_option maxHeartbeats 0 in
theorem nb_ok {s : Sto} (hs : insOk s) (st : Stp) (L : List Str) (hl : L.length ≤ 500) : p_names_behind [.f st.f, .f (nsF L)] s = runX (nbR st L) s := by
  have h1 := bf_ok hs st
  have h2 := br_ok hs st
  have ho : st.old.length ≤ 2 := by cases st <;> simp [Stp.old]
  have hn : st.new.length ≤ 2 := by cases st <;> simp [Stp.new]
  obtain ⟨r, hr, he⟩ := run_of 6 b_names_behind [.f st.f, .f (nsF L)] s
  show runA 6 b_names_behind [.f st.f, .f (nsF L)] s = _
  rw [he]
  clear he
  unfold b_names_behind at hr
  replace hr := step hr (sl' := [.v (.f st.f), .v (.f (nsF L)), .v (.f (nsF st.old)), .no, .no, .no]) (by simp [h1])
  replace hr := step hr (sl' := [.v (.f st.f), .v (.f (nsF L)), .v (.f (nsF st.old)), .v (.f (nsF st.new)), .no, .no]) (by simp [h2])
  -- the names that it begins from
  rcases loopF_exc (i := 4) (s := s) (c := "NoField") (body := sIf (mB ninF (mVar 4) (mVar 1)) (sRaise "NoField") sSkip) (p := fun x => match x with
    | .str a => decide (a ∈ L)
    | _ => true) (P := fun sl => ∃ x4, sl = [.v (.f st.f), .v (.f (nsF L)), .v (.f (nsF st.old)), .v (.f (nsF st.new)), x4, .no]) (st.old.map F.str) [.v (.f st.f), .v (.f (nsF L)), .v (.f (nsF st.old)), .v (.f (nsF st.new)), .no, .no] ⟨_, rfl⟩ (fun x hx sl ⟨x4, e⟩ => by
      obtain ⟨a, _, rfl⟩ := List.mem_map.mp hx
      subst e
      by_cases q : a ∈ L
      · simp [-ninF, nin_strs, q]
      · simp [-ninF, nin_strs, q]) with ⟨a1, sl1, l1, x4, rfl⟩ | ⟨a1, sl1, l1⟩
  case inr =>
    have e : nbR st L = .error "NoField" := by
      rw [all_map_str] at a1
      unfold nbR; rw [if_pos a1]
    rw [e, stepx hr (by simpa using l1), outA_exc hs]
    rfl
  rw [all_map_str] at a1
  replace hr := step hr (sl' := [.v (.f st.f), .v (.f (nsF L)), .v (.f (nsF st.old)), .v (.f (nsF st.new)), x4, .no]) (by simpa using l1)
  -- the names that stay
  rcases loopF_exc (i := 4) (s := s) (c := "Taken") (body := sIf (mAnd (mB ninF (mVar 4) (mVar 2)) (mB inF (mVar 4) (mVar 3))) (sRaise "Taken") sSkip) (p := fun x => match x with
    | .str a => decide (a ∈ st.old) || !decide (a ∈ st.new)
    | _ => true) (P := fun sl => ∃ x4, sl = [.v (.f st.f), .v (.f (nsF L)), .v (.f (nsF st.old)), .v (.f (nsF st.new)), x4, .no]) (L.map F.str) [.v (.f st.f), .v (.f (nsF L)), .v (.f (nsF st.old)), .v (.f (nsF st.new)), x4, .no] ⟨_, rfl⟩ (fun x hx sl ⟨x4, e⟩ => by
      obtain ⟨a, _, rfl⟩ := List.mem_map.mp hx
      subst e
      by_cases q : a ∈ st.old
      · simp [-ninF, -inF, nin_strs, in_strs, q]
      · by_cases q2 : a ∈ st.new
        · simp [-ninF, -inF, nin_strs, in_strs, q, q2]
        · simp [-ninF, -inF, nin_strs, in_strs, q, q2]) with ⟨a2, sl2, l2, x5, rfl⟩ | ⟨a2, sl2, l2⟩
  case inr =>
    have e : nbR st L = .error "Taken" := by
      rw [all_map_str] at a2
      unfold nbR; rw [if_neg (by rw [a1]; simp), if_pos a2]
    rw [e, stepx hr (by simpa using l2), outA_exc hs]
    rfl
  rw [all_map_str] at a2
  replace hr := step hr (sl' := [.v (.f st.f), .v (.f (nsF L)), .v (.f (nsF st.old)), .v (.f (nsF st.new)), x5, .no]) (by simpa using l2)
  replace hr := step hr (sl' := [.v (.f st.f), .v (.f (nsF L)), .v (.f (nsF st.old)), .v (.f (nsF st.new)), x5, .own (.lst [])]) (by simp)
  -- the newer names
  obtain ⟨sl3, l3, x6, rfl⟩ := loop_strs (i := 4) (s := s) (body := sIf (mAnd (mB neF (mVar 2) (mLst aNil)) (mB eqF (mVar 4) (mB ixF (mVar 2) (mC (.int 0))))) (sOwn 5 (mB addF (mVar 5) (mVar 3))) (sIf (mB ninF (mVar 4) (mVar 2)) (sAppL (mVar 5) (mVar 4)) sSkip))
    (fun pre sl => ∃ x6, sl = [.v (.f st.f), .v (.f (nsF L)), .v (.f (nsF st.old)), .v (.f (nsF st.new)), x6, .own (.lst ((pre.flatMap fun x => if st.old.head? = some x then st.new else if x ∈ st.old then [] else [x]).map F.str))])
    L [.v (.f st.f), .v (.f (nsF L)), .v (.f (nsF st.old)), .v (.f (nsF st.new)), x5, .own (.lst [])] ⟨_, rfl⟩ (fun pre x post e sl ⟨x6, e2⟩ => by
      subst e2
      have hpl : pre.length < L.length := by rw [e]; simp
      have fl := flatMap_len pre st
      rw [List.flatMap_append]
      generalize (pre.flatMap fun x => if st.old.head? = some x then st.new else if x ∈ st.old then [] else [x]) = fm at fl
      have hz : fm.length + st.new.length ≤ sizeLine := Nat.le_of_lt (ltz (show fm.length + st.new.length ≤ 1002 by omega) (by decide))
      have hz2 : fm.length < sizeLine := ltz (show fm.length ≤ 1002 by omega) (by decide)
      cases eo : st.old with
      | nil =>
        refine ⟨_, ?_, .v (.f (.str x)), rfl⟩
        simp [hz2]
      | cons a as =>
        by_cases q : x = a
        · subst q
          refine ⟨_, ?_, .v (.f (.str x)), rfl⟩
          simp [hz]
        · have q' : ¬ a = x := fun z => q z.symm
          by_cases q2 : x ∈ as
          · refine ⟨_, ?_, .v (.f (.str x)), rfl⟩
            simp [-ninF, nin_strs, q, q', q2]
          · refine ⟨_, ?_, .v (.f (.str x)), rfl⟩
            simp [-ninF, nin_strs, q, q', q2, hz2])
  replace hr := step hr (sl' := [.v (.f st.f), .v (.f (nsF L)), .v (.f (nsF st.old)), .v (.f (nsF st.new)), x6, .own (.lst ((L.flatMap fun x => if st.old.head? = some x then st.new else if x ∈ st.old then [] else [x]).map F.str))]) (by simpa using l3)
  have fl := flatMap_len L st
  replace hr := step hr (sl' := [.v (.f st.f), .v (.f (nsF L)), .v (.f (nsF st.old)), .v (.f (nsF st.new)), x6, .own (.lst ((nbF st L).map F.str))]) (by
    unfold nbF
    generalize (L.flatMap fun x => if st.old.head? = some x then st.new else if x ∈ st.old then [] else [x]) = fm at fl
    have hz : fm.length + st.new.length ≤ sizeLine := Nat.le_of_lt (ltz (show fm.length + st.new.length ≤ 1002 by omega) (by decide))
    cases eo : st.old with
    | nil =>
      simp [hz]
    | cons a as =>
      simp)
  have nl : (nbF st L).length ≤ 1004 := by
    unfold nbF
    rw [List.length_append]
    have : (if st.old = [] then st.new else []).length ≤ 2 := by split <;> simp [hn]
    omega
  have hz : (nbF st L).length ≤ sizeLine := Nat.le_of_lt (ltz nl (by decide))
  have e0 : nbR st L = if (nbF st L).length < 1 ∨ 12 < (nbF st L).length then .error "BadForm" else .ok (nbF st L) := by
    unfold nbR
    rw [if_neg (by rw [a1]; simp), if_neg (by rw [a2]; simp)]
  rw [e0]
  by_cases q : (nbF st L).length < 1 ∨ 12 < (nbF st L).length
  · rw [if_pos q, stepx hr (c := "BadForm") (s' := s) (sl' := [.v (.f st.f), .v (.f (nsF L)), .v (.f (nsF st.old)), .v (.f (nsF st.new)), x6, .own (.lst ((nbF st L).map F.str))]) (by
      rcases q with q | q
      · have q0 : nbF st L = [] := List.eq_nil_of_length_eq_zero (by omega)
        simp [q0]
      · have q2 : ¬ (nbF st L) = [] := fun z => by rw [z] at q; simp at q
        have q3 : (12 : Int) < ((nbF st L).length : Int) := by omega
        simp [q2, q3, hz]), outA_exc hs]
    rfl
  · rw [if_neg q]
    replace hr := step hr (sl' := [.v (.f st.f), .v (.f (nsF L)), .v (.f (nsF st.old)), .v (.f (nsF st.new)), x6, .own (.lst ((nbF st L).map F.str))]) (by
      have q0 : ¬ (nbF st L) = [] := fun z => q (.inl (by rw [z]; decide))
      have q3 : ¬ (12 : Int) < ((nbF st L).length : Int) := fun z => q (.inr (by omega))
      have q4 : ¬ ((nbF st L).length : Int) < 1 := fun z => q (.inl (by omega))
      simp [q0, q3, q4, hz])
    have hr : r = .rt (.fr (.lst ((nbF st L).map F.str))) s := by rw [← hr]; simp
    rw [hr, outA_lst hs]
    rfl
end PB

namespace PB
open PySem L2 Fm
def cl (ns : List Int) (k : Int) : Int := match L2.atI ns k with
  | some i => i
  | none => 0
theorem r_l_cell_at {s : Sto} (hs : insOk s) (ns : List Int) (k : Int) (h0 : 0 ≤ k) : p_l_cell_at [.f (.scr ns), .f (.int k)] s = .ok (.w (.f (.int (cl ns k)))) s := by
  refine runA_rt hs ?_
  by_cases h : k < ns.length
  · obtain ⟨x, hx, _⟩ := atI_in (xs := ns) h0 (by omega)
    simp [b_l_cell_at, h, hx, cl]
  · have : L2.atI ns k = none := by
      simp [L2.atI, L2.ixN, h0, h]
    simp [b_l_cell_at, h, cl, this]
/-! PE: the script's numbers, the pool. -/
abbrev abc : Str := Str.ofString "abcdefghijklmnopqrstuvwxyz"
def ltr (x : Int) : Nat := 97 + (x.fmod 26).toNat
theorem abc_at : ∀ k, k < 26 → abc.cps.toList[k]? = some (97 + k) := by decide +kernel
theorem abc_len : abc.length = 26 := by decide +kernel
theorem abc_ix (x : Int) : ixF (.str abc) (.int (x.fmod 26)) = .val (.str ⟨#[ltr x]⟩) := by
  obtain ⟨h1, h2⟩ := fmod_lt' x (n := 26) (by decide)
  have hz : abc.length ≤ sizeLine := by rw [abc_len]; decide
  have h3 : (x.fmod 26).toNat < 26 := by omega
  have e : L2.atI abc.cps.toList (x.fmod 26) = some (97 + (x.fmod 26).toNat) := by
    unfold L2.atI L2.ixN
    have hl : abc.cps.toList.length = 26 := by decide +kernel
    rw [hl, if_pos h1, if_pos (by omega)]
    exact abc_at _ h3
  simp only [ixF]
  rw [if_pos hz, e]
  rfl
def mkS (l : List Nat) : Str := ⟨l.toArray⟩
theorem mkS_len (l : List Nat) : (mkS l).length = l.length := rfl
theorem mkS_app (a b : List Nat) : mkS a ++ mkS b = mkS (a ++ b) := by
  show Str.mk (a.toArray ++ b.toArray) = _
  simp [mkS]
theorem rep1 (c n : Nat) : strRep ⟨#[c]⟩ n = mkS (List.replicate n c) := by
  unfold strRep mkS
  have : (List.replicate n [c]).flatten = List.replicate n c := by simp
  show Str.mk (List.replicate n [c]).flatten.toArray = _
  rw [this]
theorem app1 (l : List Nat) (c : Nat) : mkS l ++ ⟨#[c]⟩ = mkS (l ++ [c]) := mkS_app l [c]
theorem len1 (c : Nat) : (⟨#[c]⟩ : Str).length = 1 := rfl
theorem kmod8 (k : Nat) : (k : Int).fmod 8 = ((k % 8 : Nat) : Int) := by
  rw [Int.fmod_eq_emod_of_nonneg _ (by decide)]; omega
theorem kdiv8 (k : Nat) : (k : Int).fdiv 8 = ((k / 8 : Nat) : Int) := by
  rw [Int.fdiv_eq_ediv_of_nonneg _ (by decide)]; omega
def poolA (c : Int) : Nat := ((c.fdiv 52).fmod 8).toNat
def poolM (c : Int) : Nat := ((c.fdiv 416).fmod (8 - (c.fdiv 52).fmod 8)).toNat
def poolL (c : Int) (k : Nat) : List Nat := if c.fmod 2 = 1 then (List.range (1 + k % 8)).map fun (j : Nat) => ltr (c.fdiv 2 + ((k / 8 : Nat) : Int) * 3 + j)
  else List.replicate (poolA c) (ltr (c.fdiv 2)) ++ [ltr (c.fdiv 416 + 7 * k)] ++ List.replicate (poolM c) (ltr (c.fdiv 2))
theorem poolA_lt (c : Int) : (c.fdiv 52).fmod 8 = poolA c ∧ poolA c < 8 := by
  obtain ⟨h1, h2⟩ := fmod_lt' (c.fdiv 52) (n := 8) (by decide)
  unfold poolA
  omega
theorem poolM_lt (c : Int) : (c.fdiv 416).fmod (8 - (c.fdiv 52).fmod 8) = poolM c ∧ poolM c < 8 - poolA c := by
  obtain ⟨a1, a2⟩ := poolA_lt c
  obtain ⟨h1, h2⟩ := fmod_lt' (c.fdiv 416) (n := 8 - (c.fdiv 52).fmod 8) (by omega)
  unfold poolM
  omega
theorem poolL_len (c : Int) (k : Nat) : 1 ≤ (poolL c k).length ∧ (poolL c k).length ≤ 8 := by
  obtain ⟨a1, a2⟩ := poolA_lt c
  obtain ⟨a3, a4⟩ := poolM_lt c
  unfold poolL
  split
  · simp only [List.length_map, List.length_range]
    omega
  · simp only [List.length_append, List.length_replicate, List.length_cons, List.length_nil]
    omega
theorem ltr_inj {x y : Int} (h : ltr x = ltr y) : x.fmod 26 = y.fmod 26 := by
  obtain ⟨h1, h2⟩ := fmod_lt' x (n := 26) (by decide)
  obtain ⟨h3, h4⟩ := fmod_lt' y (n := 26) (by decide)
  unfold ltr at h
  omega
theorem pool_inj {c : Int} {j k : Nat} (hj : j < 26) (hk : k < 26) (h : poolL c j = poolL c k) : j = k := by
  unfold poolL at h
  split at h
  · have hl := congrArg List.length h
    simp only [List.length_map, List.length_range] at hl
    have h0 := congrArg (fun l => l[0]?) h
    simp only [List.getElem?_map] at h0
    rw [List.getElem?_range (by omega), List.getElem?_range (by omega)] at h0
    have h1 := ltr_inj (Option.some.inj h0)
    rw [Int.fmod_eq_emod_of_nonneg _ (by decide), Int.fmod_eq_emod_of_nonneg _ (by decide)] at h1
    omega
  · rw [List.append_assoc, List.append_assoc] at h
    have h2 := List.append_cancel_left h
    simp only [List.singleton_append, List.cons.injEq] at h2
    have h1 := ltr_inj h2.1
    rw [Int.fmod_eq_emod_of_nonneg _ (by decide), Int.fmod_eq_emod_of_nonneg _ (by decide)] at h1
    omega

def poolF (c : Int) (k : Nat) : F := .str (mkS (poolL c k))
theorem r_l_pool {s : Sto} (hs : insOk s) (c : Int) : p_l_pool [.f (.int c)] s = .ok (.fr (.lst ((List.range 26).map (poolF c)))) s := by
  obtain ⟨a1, a2⟩ := poolA_lt c
  obtain ⟨m1, m2⟩ := poolM_lt c
  obtain ⟨sl', lp, x3, x4, x5, x6, x7, rfl⟩ := loop_rg (i := 3) (s := s) (n := 26) (body := (sSeq (sSet 4 (mB ixF (mVar 1) (mB modF (mB divF (mVar 0) (mC (.int 2))) (mC (.int 26))))) (sSeq (sSet 5 (mB modF (mB divF (mVar 0) (mC (.int 52))) (mC (.int 8)))) (sSeq (sSet 6 (mB addF (mB mulF (mVar 4) (mVar 5)) (mB ixF (mVar 1) (mB modF (mB addF (mB divF (mVar 0) (mC (.int 416))) (mB mulF (mC (.int 7)) (mVar 3))) (mC (.int 26)))))) (sSeq (sSet 6 (mB addF (mVar 6) (mB mulF (mVar 4) (mB modF (mB divF (mVar 0) (mC (.int 416))) (mB subF (mC (.int 8)) (mVar 5)))))) (sSeq (sIf (mB eqF (mB modF (mVar 0) (mC (.int 2))) (mC (.int 1))) (sSeq (sSet 7 (mB addF (mB divF (mVar 0) (mC (.int 2))) (mB mulF (mB divF (mVar 3) (mC (.int 8))) (mC (.int 3))))) (sSet 6 (mU (joinA "") (mLc 8 (iR1 (mB addF (mC (.int 1)) (mB modF (mVar 3) (mC (.int 8))))) (mC (.bl true)) (mB ixF (mVar 1) (mB modF (mB addF (mVar 7) (mVar 8)) (mC (.int 26)))))))) sSkip) (sAppL (mVar 2) (mVar 6))))))))
    (P := fun k sl => ∃ x3 x4 x5 x6 x7, sl = [.v (.f (.int c)), .v (.f (.str abc)), .own (.lst ((List.range k).map (poolF c))), x3, x4, x5, x6, x7, .no]) [.v (.f (.int c)), .v (.f (.str abc)), .own (.lst []), .no, .no, .no, .no, .no, .no] ⟨.no, .no, .no, .no, .no, rfl⟩ fun k hk sl ⟨x3, x4, x5, x6, x7, e⟩ => by
      subst e
      have i1 := abc_ix (c.fdiv 2)
      have i2 := abc_ix (c.fdiv 416 + 7 * (k : Int))
      have p1 : repOk ⟨#[ltr (c.fdiv 2)]⟩ (poolA c : Int) = true := repOk_of ⟨by omega, by omega, by show 1 ≤ 1000; decide⟩
      have p2 : repOk ⟨#[ltr (c.fdiv 2)]⟩ (poolM c : Int) = true := repOk_of ⟨by omega, by omega, by show 1 ≤ 1000; decide⟩
      have m7 : mulOk 7 (k : Int) = true := mulOk_of (.inl (by decide))
      have z1 : poolA c + 1 ≤ sizeLine := Nat.le_trans (show poolA c + 1 ≤ 8 by omega) (by decide)
      have z2 : poolA c + 1 + poolM c ≤ sizeLine := Nat.le_trans (show poolA c + 1 + poolM c ≤ 8 by omega) (by decide)
      have zk : k < sizeLine := Nat.lt_of_lt_of_le hk (by decide)
      have hd : ¬ 8 - (poolA c : Int) = 0 := by omega
      have dA : divOk 8 = true := dv8
      have m1' := m1
      rw [a1] at m1'
      have rg : (List.range k).map (poolF c) ++ [poolF c k] = (List.range (k + 1)).map (poolF c) := by
        rw [List.range_succ, List.map_append]; rfl
      by_cases q : c.fmod 2 = 1
      · have m3 : mulOk ((k / 8 : Nat) : Int) 3 = true := mulOk_of (.inr (by decide))
        have lc : ∀ (O : Ct) (y4 y5 y6 : Sl), compF 8 (mC (.bl true)) (mB ixF (mVar 1) (mB modF (mB addF (mVar 7) (mVar 8)) (mC (.int 26)))) (rgF 0 1 (1 + k % 8))
            [.v (.f (.int c)), .v (.f (.str abc)), .own O, .v (.f (.int k)), y4, y5, y6, .v (.f (.int (c.fdiv 2 + ((k / 8 : Nat) : Int) * 3))), .no] s = .ok ((poolL c k).map fun c => F.str ⟨#[c]⟩) s := fun O y4 y5 y6 => by
          have := compF_map (i := 8) (s := s) (e := mB ixF (mVar 1) (mB modF (mB addF (mVar 7) (mVar 8)) (mC (.int 26)))) (sl := [.v (.f (.int c)), .v (.f (.str abc)), .own O, .v (.f (.int k)), y4, y5, y6, .v (.f (.int (c.fdiv 2 + ((k / 8 : Nat) : Int) * 3))), .no])
            (f := fun x => match x with | .int j => .str ⟨#[ltr (c.fdiv 2 + ((k / 8 : Nat) : Int) * 3 + j)]⟩ | _ => .non) (rgF 0 1 (1 + k % 8)) (fun x hx => by
              obtain ⟨j, hj, rfl⟩ := rgF_mem hx
              have i3 := abc_ix (c.fdiv 2 + ((k / 8 : Nat) : Int) * 3 + (0 + (j : Int)))
              refine ⟨.w (.f (.str ⟨#[ltr (c.fdiv 2 + ((k / 8 : Nat) : Int) * 3 + (0 + (j : Int)))]⟩)), ?_, rfl⟩
              simp only [Int.zero_add] at i3 ⊢
              simp [-ixF, -Int.natCast_ediv, -Int.natCast_emod, i3])
          rw [this]
          unfold poolL rgF
          rw [if_pos q, List.map_map, List.map_map]
          congr 1
          refine List.map_congr_left fun j _ => ?_
          simp only [Function.comp, Int.zero_add, Int.mul_one]
        have e : ∀ (O : Ct) (y4 y5 y6 : Sl), mLc 8 (iR1 (mB addF (mC (.int 1)) (mB modF (mVar 3) (mC (.int 8))))) (mC (.bl true)) (mB ixF (mVar 1) (mB modF (mB addF (mVar 7) (mVar 8)) (mC (.int 26))))
            [.v (.f (.int c)), .v (.f (.str abc)), .own O, .v (.f (.int k)), y4, y5, y6, .v (.f (.int (c.fdiv 2 + ((k / 8 : Nat) : Int) * 3))), .no] s = .ok (.fr (.lst ((poolL c k).map fun c => F.str ⟨#[c]⟩))) s := fun O y4 y5 y6 => by
          refine mLc_eq rfl ?_ (lc O y4 y5 y6) (by rw [List.length_map]; exact Nat.le_trans (poolL_len c k).2 (by decide))
          have hb : inB (1 + ((k % 8 : Nat) : Int)) = true := inB_of2 (by omega)
          have ht : (1 + ((k % 8 : Nat) : Int)).toNat = 1 + k % 8 := by omega
          simp [-Int.natCast_emod, kmod8, hb, ht]
        have hj : joinA (Str.ofString "") (.lst ((poolL c k).map fun c => F.str ⟨#[c]⟩)) = .val (.str (mkS (poolL c k))) := joinA_sg (poolL c k) (Nat.le_trans (poolL_len c k).2 (by decide))
        refine ⟨_, ?_, .v (.f (.int k)), .v (.f (.str ⟨#[ltr (c.fdiv 2)]⟩)), .v (.f (.int (poolA c))), .v (.f (poolF c k)), .v (.f (.int (c.fdiv 2 + ((k / 8 : Nat) : Int) * 3))), rfl⟩
        rw [← rg]
        simp [-ixF, -joinA, -Int.natCast_emod, -Int.natCast_ediv, a1, m1', i1, i2, p1, p2, m7, hd, rep1, app1, mkS_app, mkS_len, len1, z1, z2, zk, q, kdiv8, m3, e, hj, poolF]
      · have ev : poolL c k = List.replicate (poolA c) (ltr (c.fdiv 2)) ++ [ltr (c.fdiv 416 + 7 * k)] ++ List.replicate (poolM c) (ltr (c.fdiv 2)) := by
          unfold poolL
          rw [if_neg q]
        refine ⟨_, ?_, .v (.f (.int k)), .v (.f (.str ⟨#[ltr (c.fdiv 2)]⟩)), .v (.f (.int (poolA c))), .v (.f (poolF c k)), x7, rfl⟩
        rw [← rg]
        simp [-ixF, -joinA, a1, m1', i1, i2, p1, p2, m7, hd, rep1, app1, mkS_app, mkS_len, len1, z1, z2, zk, q, poolF, ev]
  refine runA_fr hs ?_
  have z0 : 0 ≤ sizeLine := Nat.zero_le _
  have b26 : inB 26 = true := inB_of2 (by decide)
  simp [-ixF, -joinA, b_l_pool, z0, b26, lp]
def rowOf (c : Int) (N : Nat) : List Str := (List.range N).map fun k => mkS (poolL c k)
theorem mkS_inj {a b : List Nat} (h : mkS a = mkS b) : a = b := by
  have := congrArg (fun x : Str => x.cps.toList) h
  simpa [mkS] using this
theorem row_nd (c : Int) {N : Nat} (hN : N ≤ 26) : (rowOf c N).Nodup := by
  unfold rowOf
  rw [List.nodup_iff_pairwise_ne, List.pairwise_map]
  refine List.Pairwise.imp_of_mem (R := fun a b => a < b) (fun {a b} ha hb h e => ?_) List.pairwise_lt_range
  have := pool_inj (c := c) (by have := List.mem_range.mp ha; omega) (by have := List.mem_range.mp hb; omega) (mkS_inj e)
  omega
theorem row_no (c : Int) {N k : Nat} (hN : N ≤ k) (hk : k < 26) : mkS (poolL c k) ∉ rowOf c N := by
  unfold rowOf
  intro h
  obtain ⟨j, hj, e⟩ := List.mem_map.mp h
  have hj := List.mem_range.mp hj
  have := pool_inj (c := c) (by omega) hk (mkS_inj e)
  omega
theorem cut_to {α : Type} (xs : List α) (n : Nat) (h : n ≤ xs.length) : cutF xs none (some (n : Int)) = xs.take n := by
  unfold cutF
  rw [HT.sIx_none, HT.sIx_nat, Nat.min_eq_left h]
  simp
theorem cut_from {α : Type} (xs : List α) (n : Nat) (h : n ≤ xs.length) : cutF xs (some (n : Int)) none = xs.drop n := by
  unfold cutF
  rw [HT.sIx_none, HT.sIx_nat, Nat.min_eq_left h]
  exact List.take_of_length_le (by rw [List.length_drop]; exact Nat.le_refl _)
theorem turned {row : List Str} (hn : row.Nodup) (h2 : 2 ≤ row.length) (t : Nat) : ∃ a b r, row.drop t ++ row.take t = a :: b :: r ∧ a ≠ b ∧ a ∈ row ∧ b ∈ row := by
  have p : (row.drop t ++ row.take t).Perm row := List.perm_append_comm.trans (by rw [List.take_append_drop])
  have nd := p.nodup_iff.mpr hn
  have hl := p.length_eq
  match e : row.drop t ++ row.take t, nd, hl with
  | [], _, hl => simp at hl; omega
  | [x], _, hl => simp at hl; omega
  | a :: b :: r, nd, _ =>
    rw [e] at p
    refine ⟨a, b, r, rfl, ?_, p.mem_iff.mp (by simp), p.mem_iff.mp (by simp)⟩
    simp at nd
    exact nd.1.1
theorem row_at {row : List Str} {k : Nat} {x : Str} (h : row[k]? = some x) : L2.atI (row.map F.str) (k : Int) = some (.str x) := by
  obtain ⟨h1, h2⟩ := List.getElem?_eq_some_iff.mp h
  rw [atI_nat (by rw [List.length_map]; exact h1)]
  simp [h2]
end PB

/-! PF: what forth and back do, in plain Lean. -/
namespace PB
open PySem L2 Fm
/-- a step fits the names L -/
structure Fits (st : Stp) (L : List Str) : Prop where
  wf : st.wf
  old : ∀ a ∈ st.old, a ∈ L
  new : ∀ a ∈ st.new, a ∈ L → a ∈ st.old
theorem mem_forth {st : Stp} {d : Rd} {own : Int} {x : Str} : x ∈ nm (forthR st d own) ↔ (x ∈ nm d ∧ x ∉ st.old) ∨ x ∈ st.new := by
  cases st <;> simp only [forthR, mem_put, mem_drp, Stp.old, Stp.new, List.mem_cons, List.not_mem_nil, or_false, not_or] <;> grind
theorem nd_forth {st : Stp} {d : Rd} {own : Int} (h : NdR d) : NdR (forthR st d own) := by
  cases st <;> simp only [forthR]
  · exact h.put _ _
  · exact h.drp _
  · exact (h.drp _).put _ _
  · exact (h.drp _).put _ _
  · exact (h.drp _).put _ _
  · exact ((h.drp _).put _ _).put _ _
  · exact ((h.drp _).drp _).put _ _
theorem len_forth {st : Stp} {d : Rd} {own : Int} : (forthR st d own).length ≤ d.length + 2 := by
  cases st <;> simp only [forthR]
  · exact Nat.le_trans (pR_len _ _ _) (by omega)
  · exact Nat.le_trans (dR_len _ _) (by omega)
  · exact Nat.le_trans (pR_len _ _ _) (by have := dR_len d ‹Str›; grind [dR_len])
  · exact Nat.le_trans (pR_len _ _ _) (by grind [dR_len])
  · exact Nat.le_trans (pR_len _ _ _) (by grind [dR_len])
  · exact Nat.le_trans (pR_len _ _ _) (by grind [dR_len, pR_len])
  · exact Nat.le_trans (pR_len _ _ _) (by grind [dR_len])
theorem gR_forth_other {st : Stp} {d : Rd} {own : Int} {x : Str} (hn : x ∉ st.new) (ho : x ∉ st.old) : gR (forthR st d own) x = gR d x := by
  cases st <;> simp only [forthR, gR_put, gR_drp, Stp.old, Stp.new, List.mem_cons, List.not_mem_nil, or_false, not_or] at hn ho ⊢ <;> grind
theorem mem_back {st : Stp} {d e r : Rd} (h : backR st d e = some r) {x : Str} : x ∈ nm r ↔ (x ∈ nm d ∧ x ∉ st.new) ∨ x ∈ st.old := by
  cases st <;> simp only [backR, Option.some.injEq] at h
  case part a c b z =>
    split at h
    · cases h
    · cases h
      simp only [mem_put, mem_drp, Stp.old, Stp.new, List.mem_cons, List.not_mem_nil, or_false, not_or]; grind
  all_goals (subst h; simp only [mem_put, mem_drp, Stp.old, Stp.new, List.mem_cons, List.not_mem_nil, or_false, not_or]; grind)
theorem nd_back {st : Stp} {d e r : Rd} (h : backR st d e = some r) (hd : NdR d) : NdR r := by
  cases st <;> simp only [backR, Option.some.injEq] at h
  case part a c b z =>
    split at h
    · cases h
    · cases h
      exact ((hd.drp _).drp _).put _ _
  case join a b c z => subst h; exact ((hd.drp _).put _ _).put _ _
  case add c n => subst h; exact hd.drp _
  case drop a => subst h; exact hd.put _ _
  all_goals (subst h; exact (hd.drp _).put _ _)
theorem gR_back_other {st : Stp} {d e r : Rd} (h : backR st d e = some r) {x : Str} (hn : x ∉ st.new) (ho : x ∉ st.old) : gR r x = gR d x := by
  cases st <;> simp only [backR, Option.some.injEq] at h
  case part a c b z =>
    split at h
    · cases h
    · cases h
      simp only [gR_put, gR_drp, Stp.old, Stp.new, List.mem_cons, List.not_mem_nil, or_false, not_or] at hn ho ⊢; grind
  all_goals (subst h; simp only [gR_put, gR_drp, Stp.old, Stp.new, List.mem_cons, List.not_mem_nil, or_false, not_or] at hn ho ⊢; grind)
/-! ### statement by statement -/
theorem stepE {m1 m2 : MS} {sl : List Sl} {s : Sto} {r : RS} (hr : sSeq m1 m2 sl s = r) : ∃ r1, m1 sl s = r1 ∧ r1.andThen m2 = r := ⟨_, rfl, hr⟩
theorem keysS_rK : ∀ d : Rd, keysS (rK d) = some (nm d)
  | [] => rfl
  | (a, i) :: d => by
    show keysS ((sk a, F.int i) :: rK d) = _
    unfold keysS
    rw [keysS_rK d]
    rfl
theorem sort_rF (d : Rd) (h : d.length < 64) : sortF [rF d] = .new (.lst ((sortS (nm d)).map F.str)) := by
  simp [sortF, keysS_rK, h]
theorem sort_strs (L : List Str) (h : L.length < 64) : sortF [nsF L] = .new (.lst ((sortS L).map F.str)) := by
  simp [sortF, strsF_map, h]
/-- a reading that a loop over a row makes: the first k names -/
structure BR (row : List Str) (k : Nat) (d : Rd) : Prop where
  nd : NdR d
  mem : ∀ a, a ∈ nm d ↔ a ∈ row.take k
  len : d.length ≤ k
theorem BR.nil (row : List Str) : BR row 0 [] := ⟨List.nodup_nil, fun a => by simp, Nat.le_refl _⟩
theorem BR.put {row : List Str} {k : Nat} {d : Rd} (h : BR row k d) {x : Str} (hx : row[k]? = some x) (i : Int) : BR row (k + 1) (pR d x i) := by
  refine ⟨h.nd.put _ _, fun a => ?_, Nat.le_trans (pR_len _ _ _) (Nat.succ_le_succ h.len)⟩
  obtain ⟨h1, h2⟩ := List.getElem?_eq_some_iff.mp hx
  rw [mem_put, h.mem, List.take_add_one, hx]
  simp [or_comm]
theorem BR.re {row : List Str} {k : Nat} {d : Rd} (h : BR row k d) {x : Str} (hx : x ∈ nm d) (i : Int) : BR row k (pR d x i) := by
  refine ⟨h.nd.put _ _, fun a => ?_, ?_⟩
  · rw [mem_put, h.mem]
    constructor
    · rintro (rfl | q)
      · exact (h.mem _).mp hx
      · exact q
    · exact .inr
  · unfold pR
    rw [if_pos (by rw [List.any_eq_true]; obtain ⟨p, hp, e⟩ := List.mem_map.mp hx; exact ⟨p, hp, by simp [e]⟩), List.length_map]
    exact h.len
theorem BR.all {row : List Str} {d : Rd} (h : BR row row.length d) (a : Str) : a ∈ nm d ↔ a ∈ row := by
  rw [h.mem, List.take_length]
/-- [x for x in L if p x] -/
theorem lc_strs {i : Nat} {it : MI} {t : M} {sl : List Sl} {s : Sto} {L : List Str} {p : Str → Bool} (no : slNoOwn sl[i]? = true) (hi : it sl s = .ok (L.map F.str) s) (hl : L.length ≤ 1000) (lt : i < sl.length)
    (ht : ∀ x ∈ L, t (sl.set i (.v (.f (.str x)))) s = .ok (.w (.f (.bl (p x)))) s) : mLc i it t (mVar i) sl s = .ok (.fr (.lst ((L.filter p).map F.str))) s := by
  refine mLc_eq no hi ?_ (by rw [List.length_map]; exact Nat.le_trans (List.length_filter_le _ _) (Nat.le_trans hl (by decide)))
  have := compF_pure (i := i) (t := t) (e := mVar i) (s := s) (sl := sl.set i .no) (p := fun x => match x with | .str a => p a | _ => true) (f := id) (L.map F.str) (fun x hx => by
    obtain ⟨a, ha, rfl⟩ := List.mem_map.mp hx
    rw [List.set_set]
    exact ht a ha) (fun x hx _ => by
    obtain ⟨a, ha, rfl⟩ := List.mem_map.mp hx
    exact ⟨.w (.f (.str a)), by simp [List.getElem?_set_self, lt], rfl⟩)
  rw [this]
  congr 1
  rw [List.map_id, List.filter_map]
  rfl
@[simp] theorem eqT_strs' (A B : List Str) : eqT (nsF A) (nsF B) = some (decide (A = B)) := eqT_strs A B
theorem eqRb_self {d : Rd} (h : NdR d) : eqRb d d = true := (eqRb_iff h h).mpr .rfl
@[simp] theorem keysF_rK (d : Rd) : keysF (rK d) = (nm d).map F.str := by
  simp [keysF, rK, nm, kF, List.map_map]
/-- a loop over names that changes nothing but its own name -/
theorem loop_same {i : Nat} {body : MS} {s : Sto} {sl : List Sl} (L : List Str) (h : ∀ x ∈ L, body (sl.set i (.v (.f (.str x)))) s = .nx (sl.set i (.v (.f (.str x)))) s) : ∃ y, loopF i body (L.map F.str) sl s = .nx (sl.set i y) s := by
  have hh : ∀ (L' : List Str), (∀ x ∈ L', body (sl.set i (.v (.f (.str x)))) s = .nx (sl.set i (.v (.f (.str x)))) s) → ∀ y, ∃ y', loopF i body (L'.map F.str) (sl.set i y) s = .nx (sl.set i y') s := by
    intro L'
    induction L' with
    | nil => intro _ y; exact ⟨y, rfl⟩
    | cons a l ih =>
      intro h y
      obtain ⟨y', e⟩ := ih (fun x hx => h x (List.mem_cons_of_mem _ hx)) (.v (.f (.str a)))
      refine ⟨y', ?_⟩
      rw [List.map_cons]
      unfold loopF
      rw [List.set_set, h a List.mem_cons_self]
      exact e
  cases hi : sl[i]? with
  | none =>
    have e : ∀ y, sl.set i y = sl := fun y => List.set_eq_of_length_le (by rw [List.getElem?_eq_none_iff] at hi; exact hi)
    obtain ⟨y', q⟩ := hh L h .no
    rw [e] at q
    exact ⟨y', q⟩
  | some z =>
    have e : sl.set i z = sl := by
      apply List.ext_getElem?
      intro j
      by_cases hj : i = j
      · subst hj
        rw [List.getElem?_set_self (List.getElem?_eq_some_iff.mp hi).1, hi]
      · rw [List.getElem?_set_ne hj]
    obtain ⟨y', q⟩ := hh L h z
    rw [e] at q
    exact ⟨y', q⟩
end PB

/-! PG: back behind forth, forth behind back. -/
namespace PB
open PySem L2 Fm
theorem fdiv_mul_add (h l z : Int) (hz : 0 < z) : (h * z + l).fdiv z = h + l.fdiv z := by
  rw [Int.fdiv_eq_ediv_of_nonneg _ (by omega), Int.fdiv_eq_ediv_of_nonneg _ (by omega), Int.add_comm, Int.add_mul_ediv_right _ _ (by omega), Int.add_comm]
theorem fmod_mul_add (h l z : Int) (hz : 0 < z) : (h * z + l).fmod z = l.fmod z := by
  rw [Int.fmod_eq_emod_of_nonneg _ (by omega), Int.fmod_eq_emod_of_nonneg _ (by omega), Int.add_comm, Int.add_mul_emod_self_right]
theorem fdiv_fmod (x z : Int) (hz : 0 < z) : x.fdiv z * z + x.fmod z = x := by
  rw [Int.fdiv_eq_ediv_of_nonneg _ (by omega), Int.fmod_eq_emod_of_nonneg _ (by omega), Int.mul_comm]
  exact Int.mul_ediv_add_emod _ z
theorem fmod_bd (x z : Int) (hz : 0 < z) : 0 ≤ x.fmod z ∧ x.fmod z < z := by
  rw [Int.fmod_eq_emod_of_nonneg _ (by omega)]
  exact ⟨Int.emod_nonneg _ (by omega), Int.emod_lt_of_pos _ hz⟩
theorem fdiv_low (l z : Int) (h0 : 0 ≤ l) (h : l < z) : l.fdiv z = 0 := by
  rw [Int.fdiv_eq_ediv_of_nonneg _ (by omega)]
  exact Int.ediv_eq_zero_of_lt h0 h
theorem fmod_low (l z : Int) (h0 : 0 ≤ l) (h : l < z) : l.fmod z = l := by
  rw [Int.fmod_eq_emod_of_nonneg _ (by omega)]
  exact Int.emod_eq_of_lt h0 h
theorem vR_put (d : Rd) (a b : Str) (i : Int) : vR (pR d a i) b = if b = a then i else vR d b := by
  unfold vR; rw [gR_put]; split <;> rfl
theorem vR_drp (d : Rd) (a b : Str) (h : b ≠ a) : vR (dR d a) b = vR d b := by
  unfold vR; rw [gR_drp, if_neg h]
/-- forth, then back with the elder one -/
theorem back_forth {st : Stp} {d e : Rd} {n : Int} (fit : Fits st (nm d)) (hdr : ∀ a ∈ st.old, gR e a = gR d a) : ∃ r, backR st (forthR st d n) e = some r ∧ EqR r d := by
  have hv : ∀ a ∈ st.old, vR e a = vR d a := fun a h => by unfold vR; rw [hdr a h]
  have ho : ∀ a ∈ st.old, gR d a = some (vR d a) := fun a h => gR_v (fit.old a h)
  have hn : ∀ a ∈ st.new, a ∉ st.old → gR d a = none := fun a h1 h2 => gR_no fun h3 => h2 (fit.new a h1 h3)
  have wf := fit.wf
  cases st with
  | part a c b z =>
    obtain ⟨cb, z2, z3⟩ := wf
    obtain ⟨m1, m2⟩ := fmod_bd (vR d a) z (by omega)
    have vb : vR (forthR (.part a c b z) d n) b = (vR d a).fmod z := by simp [forthR, vR_put]
    have vc : vR (forthR (.part a c b z) d n) c = (vR d a).fdiv z := by simp [forthR, vR_put, cb]
    refine ⟨_, by simp only [backR]; rw [if_neg (by omega)], fun x => ?_⟩
    rw [vb, vc, fdiv_fmod _ _ (by omega)]
    simp only [forthR, gR_put, gR_drp, Stp.old, Stp.new, List.mem_cons, List.not_mem_nil, or_false] at ho hn ⊢
    grind
  | join a b c z =>
    obtain ⟨ab, z2, z3⟩ := wf
    have vc : vR (forthR (.join a b c z) d n) c = vR d a * z + vR d b := by simp [forthR, vR_put]
    refine ⟨_, rfl, fun x => ?_⟩
    have hb := hv b (by simp [Stp.old])
    rw [vc, hb, fdiv_mul_add _ _ _ (by omega), fmod_mul_add _ _ _ (by omega)]
    have e1 := fdiv_fmod (vR d b) z (by omega)
    have e2 : (vR d b).fmod z + (vR d b).fdiv z * z = vR d b := by omega
    have e3 : vR d a + (vR d b).fdiv z - (vR d b).fdiv z = vR d a := by omega
    rw [e2, e3]
    simp only [forthR, gR_put, gR_drp, Stp.old, Stp.new, List.mem_cons, List.not_mem_nil, or_false] at ho hn ⊢
    grind
  | add c n =>
    refine ⟨_, rfl, fun x => ?_⟩
    simp only [forthR, gR_put, gR_drp, vR_put, Stp.old, Stp.new, List.mem_cons, List.not_mem_nil, or_false] at ho hn ⊢
    grind
  | drop a =>
    refine ⟨_, rfl, fun x => ?_⟩
    have := hv a (by simp [Stp.old])
    simp only [forthR, gR_put, gR_drp, vR_put, Stp.old, Stp.new, List.mem_cons, List.not_mem_nil, or_false] at ho hn ⊢
    grind
  | name a c =>
    refine ⟨_, rfl, fun x => ?_⟩
    simp only [forthR, gR_put, gR_drp, vR_put, Stp.old, Stp.new, List.mem_cons, List.not_mem_nil, or_false] at ho hn ⊢
    grind
  | shift a n =>
    refine ⟨_, rfl, fun x => ?_⟩
    simp only [forthR, gR_put, gR_drp, vR_put, Stp.old, Stp.new, List.mem_cons, List.not_mem_nil, or_false, if_true] at ho hn ⊢
    have : vR d a + n - n = vR d a := by omega
    grind
  | turn a =>
    refine ⟨_, rfl, fun x => ?_⟩
    simp only [forthR, gR_put, gR_drp, vR_put, Stp.old, Stp.new, List.mem_cons, List.not_mem_nil, or_false, if_true] at ho hn ⊢
    have : 0 - (0 - vR d a) = vR d a := by omega
    grind
/-- back, then forth -/
theorem forth_back {st : Stp} {q e r : Rd} {own : Int} (wf : st.wf) (hn : ∀ a ∈ st.new, a ∈ nm q) (ho : ∀ a ∈ st.old, a ∉ st.new → a ∉ nm q) (h : backR st q e = some r) (hown : ∀ a ∈ st.new, st.isAdd = true → own = vR q a) : EqR (forthR st r own) q := by
  have hn : ∀ a ∈ st.new, gR q a = some (vR q a) := fun a h => gR_v (hn a h)
  have ho : ∀ a ∈ st.old, a ∉ st.new → gR q a = none := fun a h1 h2 => gR_no (ho a h1 h2)
  cases st with
  | part a c b z =>
    obtain ⟨cb, z2, z3⟩ := wf
    simp only [backR] at h
    split at h
    · cases h
    rename_i q1
    have q2 : 0 ≤ vR q b := by omega
    have q3 : vR q b < z := by omega
    cases h
    intro x
    simp only [forthR, vR_put, if_true, fdiv_mul_add _ _ _ (show 0 < z by omega), fmod_mul_add _ _ _ (show 0 < z by omega), fdiv_low _ _ q2 q3, fmod_low _ _ q2 q3, Int.add_zero]
    simp only [gR_put, gR_drp, Stp.old, Stp.new, List.mem_cons, List.not_mem_nil, or_false] at ho hn ⊢
    grind
  | join a b c z =>
    obtain ⟨ab, z2, z3⟩ := wf
    cases h
    intro x
    have e1 := fdiv_fmod (vR q c) z (by omega)
    have e2 : ((vR q c).fdiv z - (vR e b).fdiv z) * z + ((vR q c).fmod z + (vR e b).fdiv z * z) = vR q c := by
      rw [Int.sub_mul]; omega
    simp only [forthR, vR_put, if_true, if_neg ab, e2]
    simp only [gR_put, gR_drp, Stp.old, Stp.new, List.mem_cons, List.not_mem_nil, or_false] at ho hn ⊢
    grind
  | add c n =>
    cases h
    intro x
    have := hown c (by simp [Stp.new]) rfl
    simp only [forthR, gR_put, gR_drp, vR_put, Stp.old, Stp.new, List.mem_cons, List.not_mem_nil, or_false] at ho hn ⊢
    grind
  | drop a =>
    cases h
    intro x
    simp only [forthR, gR_put, gR_drp, vR_put, Stp.old, Stp.new, List.mem_cons, List.not_mem_nil, or_false] at ho hn ⊢
    grind
  | name a c =>
    cases h
    intro x
    simp only [forthR, gR_put, gR_drp, vR_put, Stp.old, Stp.new, List.mem_cons, List.not_mem_nil, or_false] at ho hn ⊢
    grind
  | shift a n =>
    cases h
    intro x
    have : vR q a - n + n = vR q a := by omega
    simp only [forthR, gR_put, gR_drp, vR_put, if_true, Stp.old, Stp.new, List.mem_cons, List.not_mem_nil, or_false] at ho hn ⊢
    grind
  | turn a =>
    cases h
    intro x
    have : 0 - (0 - vR q a) = vR q a := by omega
    simp only [forthR, gR_put, gR_drp, vR_put, if_true, Stp.old, Stp.new, List.mem_cons, List.not_mem_nil, or_false] at ho hn ⊢
    grind
end PB

/-! PH: is_number, is_name, is_size, is_step, good_names, run. -/
namespace PB
open PySem L2 Fm
def isNum : F → Bool
  | .int _ => true
  | _ => false
theorem r_is_number {s : Sto} (hs : insOk s) (x : F) : p_is_number [.f x] s = .ok (.w (.f (.bl (isNum x)))) s := by
  refine runA_rt hs ?_
  cases x <;> simp [b_is_number, isNum]
def isSg : F → Bool
  | .str c => match c.cps.toList with
    | [n] => decide (n ∈ abc.cps.toList)
    | _ => false
  | _ => false
def isNm : F → Bool
  | .str z => decide (1 ≤ z.length) && decide (z.length ≤ 8) && (signs z).all isSg
  | _ => false
/-- texts of a size that Python can tell -/
def okF : F → Bool
  | .str z => decide (z.length ≤ sizeLine)
  | _ => true
theorem r_is_name {s : Sto} (hs : insOk s) (x : F) (hx : okF x = true) : p_is_name [.f x] s = .ok (.w (.f (.bl (isNm x)))) s := by
  refine runA_rt hs ?_
  cases x with
  | str z =>
    have hz : z.length ≤ sizeLine := of_decide_eq_true hx
    by_cases h1 : (z.length : Int) < 1
    · have : ¬ 1 ≤ z.length := by omega
      simp [b_is_name, hz, h1, isNm, this]
    · by_cases h2 : (8 : Int) < z.length
      · have : ¬ z.length ≤ 8 := by omega
        simp [b_is_name, hz, h1, h2, isNm, this]
      · have h3 : 1 ≤ z.length := by omega
        have h4 : z.length ≤ 8 := by omega
        have lp := loopF_test (i := 1) (s := s) (body := sIf (mB ninF (mVar 1) (mC (.str "abcdefghijklmnopqrstuvwxyz"))) (sRet (mC (.bl false))) sSkip) (P := fun sl => ∃ a b, sl = [a, b]) (p := isSg) (y := .w (.f (.bl false))) (signs z) [.v (.f (.str z)), .no] ⟨_, _, rfl⟩ fun x hx sl ⟨a, b, e⟩ => by
          subst e
          obtain ⟨c, hc, rfl⟩ := List.mem_map.mp hx
          split
          · rename_i q
            have q : decide (c ∈ abc.cps.toList) = true := q
            refine ⟨_, ?_, a, .v (.f (.str ⟨#[c]⟩)), rfl⟩
            simp at q
            simp [q]
          · rename_i q
            have q : ¬ decide (c ∈ abc.cps.toList) = true := q
            simp at q
            simp [q]
        rcases lp with ⟨q, sl', e, a, b, rfl⟩ | ⟨q, e⟩
        · simp [b_is_name, hz, h1, h2, isNm, h3, h4, q]
          rw [e]
          simp
        · simp [b_is_name, hz, h1, h2, isNm, h3, h4, q]
          rw [e]
          simp
  | _ => simp [b_is_name, isNm]

def isSz : F → Bool
  | .int i => decide (2 ≤ i) && decide (i ≤ 1000000)
  | _ => false
theorem r_is_size {s : Sto} (hs : insOk s) (x : F) : p_is_size [.f x] s = .ok (.w (.f (.bl (isSz x)))) s := by
  refine runA_rt hs ?_
  cases x with
  | int i =>
    by_cases h : 2 ≤ i
    · simp [b_is_size, isSz, r_is_number hs, isNum, h]
    · simp [b_is_size, isSz, r_is_number hs, isNum, h]
  | _ => simp [b_is_size, isSz, r_is_number hs, isNum]
def stepB (w : Str) (ps : List F) : Bool :=
  if w = Str.ofString "drop" ∨ w = Str.ofString "turn" then match ps with
    | [a] => isNm a
    | _ => false
  else if w = Str.ofString "add" ∨ w = Str.ofString "shift" then match ps with
    | [a, b] => isNm a && isNum b
    | _ => false
  else if w = Str.ofString "name" then match ps with
    | [a, b] => isNm a && isNm b
    | _ => false
  else if w = Str.ofString "part" then match ps with
    | [a, b, c, d] => isNm a && (isNm b && (isNm c && (isSz d && !(eqFl b c))))
    | _ => false
  else if w = Str.ofString "join" then match ps with
    | [a, b, c, d] => isNm a && (isNm b && (isNm c && (isSz d && !(eqFl a b))))
    | _ => false
  else false
theorem nm_str {x : F} (h : isNm x = true) : ∃ z, x = .str z := by
  cases x <;> first | exact ⟨_, rfl⟩ | cases h
set_option maxHeartbeats 0 in
theorem r_is_step {s : Sto} (hs : insOk s) (w : Str) (ps : List F) (hl : ps.length ≤ 5) (hp : ∀ p ∈ ps, okF p = true) : p_is_step [.f (.tup (.str w :: ps))] s = .ok (.w (.f (.bl (stepB w ps)))) s := by
  refine runA_rt hs ?_
  match ps, hl, hp with
  | [], _, _ =>
    simp [b_is_step, stepB]
  | [a], _, hp =>
    have ha := r_is_name hs a (hp a (by simp))
    cases h : isNm a <;> simp [b_is_step, stepB, ha, h]
    by_cases h1 : w = Str.ofString "drop"
    · simp [h1]
    by_cases h2 : w = Str.ofString "turn"
    · simp [h2]
    by_cases h3 : w = Str.ofString "add"
    · simp [h3]
    by_cases h4 : w = Str.ofString "shift"
    · simp [h4]
    by_cases h5 : w = Str.ofString "name"
    · simp [h5]
    simp [h1, h2, h3, h4, h5]
  | [a, b], _, hp =>
    have ha := r_is_name hs a (hp a (by simp))
    have hb := r_is_name hs b (hp b (by simp))
    have hb2 := r_is_number hs b
    cases h : isNm a
    · simp [b_is_step, stepB, ha, h]
    by_cases h1 : w = Str.ofString "drop"
    · simp [b_is_step, stepB, ha, h, h1]
    by_cases h2 : w = Str.ofString "turn"
    · simp [b_is_step, stepB, ha, h, h2]
    by_cases h3 : w = Str.ofString "add"
    · simp [b_is_step, stepB, ha, h, h3, hb2]
    by_cases h4 : w = Str.ofString "shift"
    · simp [b_is_step, stepB, ha, h, h4, hb2]
    by_cases h5 : w = Str.ofString "name"
    · simp [b_is_step, stepB, ha, h, h5, hb]
    simp [b_is_step, stepB, ha, h, h1, h2, h3, h4, h5]
  | [a, b, c], _, hp =>
    have ha := r_is_name hs a (hp a (by simp))
    cases h : isNm a
    · simp [b_is_step, stepB, ha, h]
    by_cases h1 : w = Str.ofString "drop"
    · simp [b_is_step, stepB, ha, h, h1]
    by_cases h2 : w = Str.ofString "turn"
    · simp [b_is_step, stepB, ha, h, h2]
    by_cases h3 : w = Str.ofString "add"
    · simp [b_is_step, stepB, ha, h, h3]
    by_cases h4 : w = Str.ofString "shift"
    · simp [b_is_step, stepB, ha, h, h4]
    by_cases h5 : w = Str.ofString "name"
    · simp [b_is_step, stepB, ha, h, h5]
    simp [b_is_step, stepB, ha, h, h1, h2, h3, h4, h5]
  | [a, b, c, d], _, hp =>
    have ha := r_is_name hs a (hp a (by simp))
    have hb := r_is_name hs b (hp b (by simp))
    have hc := r_is_name hs c (hp c (by simp))
    have hd := r_is_size hs d
    cases h : isNm a
    · simp [b_is_step, stepB, ha, h]
    by_cases h1 : w = Str.ofString "drop"
    · simp [b_is_step, stepB, ha, h, h1]
    by_cases h2 : w = Str.ofString "turn"
    · simp [b_is_step, stepB, ha, h, h2]
    by_cases h3 : w = Str.ofString "add"
    · simp [b_is_step, stepB, ha, h, h3]
    by_cases h4 : w = Str.ofString "shift"
    · simp [b_is_step, stepB, ha, h, h4]
    by_cases h5 : w = Str.ofString "name"
    · simp [b_is_step, stepB, ha, h, h5]
    cases k : isNm b
    · simp [b_is_step, stepB, ha, h, h1, h2, h3, h4, h5, hb, k]
    cases k2 : isNm c
    · simp [b_is_step, stepB, ha, h, h1, h2, h3, h4, h5, hb, k, hc, k2]
    cases k3 : isSz d
    · simp [b_is_step, stepB, ha, h, h1, h2, h3, h4, h5, hb, k, hc, k2, hd, k3]
    obtain ⟨x, rfl⟩ := nm_str h
    obtain ⟨y, rfl⟩ := nm_str k
    obtain ⟨z, rfl⟩ := nm_str k2
    by_cases h6 : w = Str.ofString "part"
    · simp [b_is_step, stepB, ha, h, h6, hb, k, hc, k2, hd, k3]
    by_cases h7 : w = Str.ofString "join"
    · simp [b_is_step, stepB, ha, h, h7, hb, k, hc, k2, hd, k3]
    simp [b_is_step, stepB, ha, h, h1, h2, h3, h4, h5, hb, k, hc, k2, hd, k3, h6, h7]
  | [a, b, c, d, e], _, hp =>
    have ha := r_is_name hs a (hp a (by simp))
    cases h : isNm a
    · simp [b_is_step, stepB, ha, h]
    by_cases h1 : w = Str.ofString "drop"
    · simp [b_is_step, stepB, ha, h, h1]
    by_cases h2 : w = Str.ofString "turn"
    · simp [b_is_step, stepB, ha, h, h2]
    by_cases h3 : w = Str.ofString "add"
    · simp [b_is_step, stepB, ha, h, h3]
    by_cases h4 : w = Str.ofString "shift"
    · simp [b_is_step, stepB, ha, h, h4]
    by_cases h5 : w = Str.ofString "name"
    · simp [b_is_step, stepB, ha, h, h5]
    simp [b_is_step, stepB, ha, h, h1, h2, h3, h4, h5]

theorem nm_ok {x : Str} (h : isNm (.str x) = true) : okF (.str x) = true := by
  simp only [isNm, Bool.and_eq_true, decide_eq_true_eq] at h
  exact decide_eq_true (Nat.le_trans h.1.2 (by decide))
theorem okI (n : Int) : okF (.int n) = true := rfl
/-- a step of names is one -/
theorem is_step_ok {s : Sto} (hs : insOk s) {st : Stp} (wf : st.wf) (ho : ∀ a ∈ st.old, isNm (.str a) = true) (hn : ∀ a ∈ st.new, isNm (.str a) = true) : p_is_step [.f st.f] s = .ok (.w (.f (.bl true))) s := by
  cases st with
  | add c n =>
    have hc := hn c (by simp [Stp.new])
    have := r_is_step hs "add" [.str c, .int n] (by simp) (by simp [nm_ok hc, okI])
    rw [show stepB "add" [F.str c, .int n] = true by simp [stepB, hc, isNum]] at this
    exact this
  | drop a =>
    have ha := ho a (by simp [Stp.old])
    have := r_is_step hs "drop" [.str a] (by simp) (by simp [nm_ok ha])
    rw [show stepB "drop" [F.str a] = true by simp [stepB, ha]] at this
    exact this
  | name a c =>
    have ha := ho a (by simp [Stp.old])
    have hc := hn c (by simp [Stp.new])
    have := r_is_step hs "name" [.str a, .str c] (by simp) (by simp [nm_ok ha, nm_ok hc])
    rw [show stepB "name" [F.str a, .str c] = true by simp [stepB, ha, hc]] at this
    exact this
  | shift a n =>
    have ha := ho a (by simp [Stp.old])
    have := r_is_step hs "shift" [.str a, .int n] (by simp) (by simp [nm_ok ha, okI])
    rw [show stepB "shift" [F.str a, .int n] = true by simp [stepB, ha, isNum]] at this
    exact this
  | turn a =>
    have ha := ho a (by simp [Stp.old])
    have := r_is_step hs "turn" [.str a] (by simp) (by simp [nm_ok ha])
    rw [show stepB "turn" [F.str a] = true by simp [stepB, ha]] at this
    exact this
  | part a c e z =>
    obtain ⟨ce, z2, z3⟩ := wf
    have ha := ho a (by simp [Stp.old])
    have hc := hn c (by simp [Stp.new])
    have he := hn e (by simp [Stp.new])
    have := r_is_step hs "part" [.str a, .str c, .str e, .int z] (by simp) (by simp [nm_ok ha, nm_ok hc, nm_ok he, okI])
    rw [show stepB "part" [F.str a, .str c, .str e, .int z] = true by simp [stepB, ha, hc, he, isSz, z2, z3, ce, eqFl]] at this
    exact this
  | join a b c z =>
    obtain ⟨ab, z2, z3⟩ := wf
    have ha := ho a (by simp [Stp.old])
    have hb := ho b (by simp [Stp.old])
    have hc := hn c (by simp [Stp.new])
    have := r_is_step hs "join" [.str a, .str b, .str c, .int z] (by simp) (by simp [nm_ok ha, nm_ok hb, nm_ok hc, okI])
    rw [show stepB "join" [F.str a, .str b, .str c, .int z] = true by simp [stepB, ha, hb, hc, isSz, z2, z3, ab, eqFl]] at this
    exact this
end PB

/-! PI: good_names, run; the book. -/
namespace PB
open PySem L2 Fm
def dupB (A : List Str) : Bool := (List.range A.length).all fun k => !decide (A.getD k ⟨#[]⟩ ∈ A.take k)
theorem dupB_iff (A : List Str) : dupB A = true ↔ A.Nodup := by
  unfold dupB
  rw [List.all_eq_true]
  constructor
  · intro h
    rw [List.nodup_iff_pairwise_ne, List.pairwise_iff_getElem]
    intro i j hi hj hij e
    have := h j (List.mem_range.mpr hj)
    simp only [Bool.not_eq_true', decide_eq_false_iff_not] at this
    apply this
    rw [List.getD_eq_getElem?_getD, List.getElem?_eq_getElem hj]
    show A[j] ∈ A.take j
    rw [← e]
    rw [List.mem_take_iff_getElem]
    exact ⟨i, by omega, rfl⟩
  · intro h k hk
    rw [List.mem_range] at hk
    simp only [Bool.not_eq_true', decide_eq_false_iff_not]
    rw [List.getD_eq_getElem?_getD, List.getElem?_eq_getElem hk]
    show A[k] ∉ A.take k
    intro hm
    rw [List.mem_take_iff_getElem] at hm
    obtain ⟨i, hi, e⟩ := hm
    have := (List.getElem_inj h).mp e
    omega
/-- what good_names says -/
def gnR (L : List F) : Except Str (List F) :=
  if L.length < 1 ∨ 12 < L.length then .error "BadForm" else if L.all isNm = false then .error "BadName" else
    match strsF L with
    | some A => if dupB A = false then .error "Taken" else .ok L
    | none => .error "BadName"
theorem strs_of_nm : ∀ L : List F, L.all isNm = true → ∃ A : List Str, L = A.map F.str
  | [], _ => ⟨[], rfl⟩
  | x :: L, h => by
    rw [List.all_cons, Bool.and_eq_true] at h
    obtain ⟨z, rfl⟩ := nm_str h.1
    obtain ⟨A, rfl⟩ := strs_of_nm L h.2
    exact ⟨z :: A, rfl⟩
def runX' (r : Except Str (List F)) (s : Sto) : R Y := match r with
  | .ok M => .ok (.fr (.lst M)) s
  | .error c => .exc c s
set_option maxHeartbeats 0 in
theorem r_good_names {s : Sto} (hs : insOk s) (L : List F) (hL : ∀ x ∈ L, okF x = true) (hl : L.length ≤ 1000) : p_good_names [.f (.lst L)] s = runX' (gnR L) s := by
  obtain ⟨r, hr, he⟩ := run_of 3 b_good_names [.f (.lst L)] s
  show runA 3 b_good_names [.f (.lst L)] s = _
  rw [he]
  clear he
  unfold b_good_names at hr
  by_cases q0 : L.length < 1 ∨ 12 < L.length
  · have e : gnR L = .error "BadForm" := by unfold gnR; rw [if_pos q0]
    rw [e, stepx (sl' := [.v (.f (.lst L)), .no, .no]) (s' := s) (c := "BadForm") hr (by
      by_cases h1 : L.length < 1
      · have : L.length = 0 := by omega
        simp [this]
      · have h2 : ¬ (L.length : Int) < 1 := by omega
        have h3 : (12 : Int) < L.length := by omega
        simp [h2, h3]), outA_exc hs]
    rfl
  have h2 : ¬ (L.length : Int) < 1 := by omega
  have h3 : ¬ (12 : Int) < L.length := by omega
  replace hr := step hr (sl' := [.v (.f (.lst L)), .no, .no]) (by simp [h2, h3])
  rcases loopF_exc (i := 1) (s := s) (c := "BadName") (body := sIf (mNot (mCall p_is_name (aCons (mVar 1) aNil))) (sRaise "BadName") sSkip) (p := isNm) (P := fun sl => ∃ x, sl = [.v (.f (.lst L)), x, .no]) L [.v (.f (.lst L)), .no, .no] ⟨_, rfl⟩ (fun x hx sl ⟨y, e⟩ => by
      subst e
      have hn := r_is_name hs x (hL x hx)
      cases q : isNm x with
      | true => exact ⟨[.v (.f (.lst L)), .v (.f x), .no], by simp [hn, q], _, rfl⟩
      | false => exact ⟨[.v (.f (.lst L)), .v (.f x), .no], by simp [hn, q]⟩) with ⟨a1, sl1, l1, x4, rfl⟩ | ⟨a1, sl1, l1⟩
  case inr =>
    have e : gnR L = .error "BadName" := by unfold gnR; rw [if_neg q0, if_pos a1]
    rw [e, stepx hr (by simpa using l1), outA_exc hs]
    rfl
  replace hr := step hr (sl' := [.v (.f (.lst L)), x4, .no]) (by simpa using l1)
  obtain ⟨A, rfl⟩ := strs_of_nm L a1
  have es : strsF (A.map F.str) = some A := strsF_map A
  have hA : A.length ≤ 12 := by rw [List.length_map] at q0; omega
  have hb : inB (A.length : Int) = true := inB_of2 (by omega)
  rcases loopF_exc (i := 2) (s := s) (c := "Taken") (body := sIf (mB inF (mB ixF (mVar 0) (mVar 2)) (mSl slF (mVar 0) none (some (mVar 2)))) (sRaise "Taken") sSkip) (p := fun x => match x with
      | .int k => !decide (A.getD k.toNat ⟨#[]⟩ ∈ A.take k.toNat)
      | _ => true) (P := fun sl => ∃ x, sl = [.v (.f (nsF A)), x4, x]) (rgF 0 1 A.length) [.v (.f (nsF A)), x4, .no] ⟨_, rfl⟩ (fun x hx sl ⟨y, e⟩ => by
      subst e
      obtain ⟨k, hk, rfl⟩ := rgF_mem hx
      simp only [Int.zero_add, Int.toNat_natCast]
      have h1 := row_at (List.getElem?_eq_getElem hk)
      have h2 := cut_to (A.map F.str) k (by rw [List.length_map]; omega)
      have h3 : A.getD k ⟨#[]⟩ = A[k] := by rw [List.getD_eq_getElem?_getD, List.getElem?_eq_getElem hk]; rfl
      rw [h3]
      by_cases q : A[k] ∈ A.take k
      · rw [if_neg (by simp [q])]
        exact ⟨[.v (.f (nsF A)), x4, .v (.f (.int k))], by simp [-inF, h1, h2, ← List.map_take, in_strs, q]⟩
      · rw [if_pos (by simp [q])]
        exact ⟨[.v (.f (nsF A)), x4, .v (.f (.int k))], by simp [-inF, h1, h2, ← List.map_take, in_strs, q], _, rfl⟩) with ⟨a2, sl2, l2, x5, rfl⟩ | ⟨a2, sl2, l2⟩
  case inr =>
    have e : gnR (A.map F.str) = .error "Taken" := by
      unfold gnR
      rw [if_neg q0, if_neg (by rw [a1]; simp), es]
      show (if dupB A = false then _ else _) = _
      rw [if_pos]
      rw [← a2]
      unfold dupB rgF
      rw [List.all_map]
      congr 1
      funext k
      simp
    rw [e, stepx hr (by simpa [hb] using l2), outA_exc hs]
    rfl
  have e : gnR (A.map F.str) = .ok (A.map F.str) := by
    unfold gnR
    rw [if_neg q0, if_neg (by rw [a1]; simp), es]
    show (if dupB A = false then _ else _) = _
    rw [if_neg]
    have : dupB A = true := by
      rw [← a2]
      unfold dupB rgF
      rw [List.all_map]
      congr 1
      funext k
      simp
    rw [this]; simp
  replace hr := step hr (sl' := [.v (.f (nsF A)), x4, x5]) (by simpa [hb] using l2)
  rw [e, ← hr]
  simp [runX', outA, bOk_self hs, back_self, Ct.ptrs]
end PB

/-! PJ: the book: its forms and records. -/
namespace PB
open PySem L2 Fm
/-! ### evaluation -/
def kFN2 (f : Str) (n : Nat) (sl : List Sl) : Y → Sto → RS := fun y s => fldN f n (frz y) sl s
def kFN1 (f : Str) (mo : M) (sl : List Sl) : Y → Sto → RS := fun y s1 => match y with
  | .fr c => (mo sl { s1 with O := s1.O ++ [c] }).st sl (kFN2 f s1.O.length sl)
  | _ => .bad
@[simp] theorem e_sFldN (f : Str) (mo mv : M) (sl : List Sl) (s : Sto) : sFldN f mo mv sl s = (mv sl s).st sl (kFN1 f mo sl) := by
  unfold sFldN sW
  refine st_ext fun y s => ?_
  cases y with
  | w w => rfl
  | fr c => rfl
@[simp] theorem e_kFN1 (f : Str) (mo : M) (sl : List Sl) (c : Ct) (s1 : Sto) : kFN1 f mo sl (.fr c) s1 = (mo sl { s1 with O := s1.O ++ [c] }).st sl (kFN2 f s1.O.length sl) := rfl
@[simp] theorem e_kFN2 (f : Str) (n : Nat) (sl : List Sl) (y : Y) (s : Sto) : kFN2 f n sl y s = fldN f n (frz y) sl s := rfl
/-! ### the book -/
abbrev Ow := List (Nat × Int)
structure Bk where
  nms : List (List Str)
  stp : List (Nat × Stp)
  rcs : List (Rd × Ow)
abbrev oK (ow : Ow) : List (Key × F) := ow.map fun p => (.inl (p.1 : Int), .int p.2)
abbrev oF (ow : Ow) : F := .dct (oK ow)
def flds : List (Str × Nat) := [("lists", 1), ("elders", 2), ("ways", 3), ("kept", 4), ("owns", 5)]
@[simp] theorem fl1 : flds.lookup (Str.ofString "lists") = some 1 := by decide
@[simp] theorem fl2 : flds.lookup (Str.ofString "elders") = some 2 := by decide
@[simp] theorem fl3 : flds.lookup (Str.ofString "ways") = some 3 := by decide
@[simp] theorem fl4 : flds.lookup (Str.ofString "kept") = some 4 := by decide
@[simp] theorem fl5 : flds.lookup (Str.ofString "owns") = some 5 := by decide
def Bk.ls (B : Bk) : List F := B.nms.map nsF
def Bk.es (B : Bk) : List F := .non :: B.stp.map fun p => F.int (p.1 : Int)
def Bk.ws (B : Bk) : List F := .non :: B.stp.map fun p => p.2.f
def Bk.ks (B : Bk) : List F := B.rcs.map fun p => rF p.1
def Bk.os (B : Bk) : List F := B.rcs.map fun p => oF p.2
def bO (B : Bk) (post : List Ct) : List Ct := .ins flds :: .lst B.ls :: .lst B.es :: .lst B.ws :: .lst B.ks :: .lst B.os :: post
def bS (B : Bk) (post : List Ct) (lk : List W) : Sto := ⟨bO B post, lk⟩
section
variable {B B' : Bk} {post : List Ct} {lk : List W}
@[simp] theorem bS0 : (bS B post lk).O[0]? = some (.ins flds) := rfl
@[simp] theorem bS1 : (bS B post lk).O[1]? = some (.lst B.ls) := rfl
@[simp] theorem bS2 : (bS B post lk).O[2]? = some (.lst B.es) := rfl
@[simp] theorem bS3 : (bS B post lk).O[3]? = some (.lst B.ws) := rfl
@[simp] theorem bS4 : (bS B post lk).O[4]? = some (.lst B.ks) := rfl
@[simp] theorem bS5 : (bS B post lk).O[5]? = some (.lst B.os) := rfl
@[simp] theorem bSlk : (bS B post lk).lk = lk := rfl
@[simp] theorem bSlen : (bS B post lk).O.length = post.length + 6 := rfl
@[simp] theorem bSadd (c : Ct) : (bS B post lk).O ++ [c] = bO B (post ++ [c]) := rfl
theorem bS_eq : bS B post lk = ⟨bO B post, lk⟩ := rfl
theorem bSi {i : Nat} : (bS B post lk).O[i + 6]? = post[i]? := rfl
/-- plain cells -/
abbrev Plain (post : List Ct) : Prop := ∀ c ∈ post, ∀ p ∈ c.ptrs, p < post.length + 6
theorem bO_ptrs (hp : Plain post) {k : Nat} {c : Ct} (h : (bO B post)[k]? = some c) : ∀ p ∈ c.ptrs, p < post.length + 6 := by
  intro p hpp
  match k, h with
  | 0, h => cases h; simp [Ct.ptrs, flds] at hpp; omega
  | 1, h => cases h; simp [Ct.ptrs] at hpp
  | 2, h => cases h; simp [Ct.ptrs] at hpp
  | 3, h => cases h; simp [Ct.ptrs] at hpp
  | 4, h => cases h; simp [Ct.ptrs] at hpp
  | 5, h => cases h; simp [Ct.ptrs] at hpp
  | k + 6, h =>
    have h : post[k]? = some c := h
    exact hp c (List.mem_of_getElem? h) p hpp
theorem insOkB (hp : Plain post) : insOk (bS B post lk) := fun k c h => bO_ptrs hp h
theorem bOkB {post' : List Ct} {lk' : List W} (hp : Plain post) : bOk (bS B post lk) (bS B' (post ++ post') lk') = true := by
  unfold bOk
  have : (bS B' (post ++ post') lk').O.take (bS B post lk).O.length = bO B' post := by
    show (bO B' (post ++ post')).take (post.length + 6) = _
    unfold bO
    simp
  rw [this, List.all_eq_true]
  intro c hc
  obtain ⟨k, hk⟩ := List.getElem?_of_mem hc
  exact List.all_eq_true.mpr fun p hpp => decide_eq_true (bO_ptrs hp hk p hpp)
theorem backB {post' : List Ct} {lk' : List W} : (bS B post lk).back (bS B' (post ++ post') lk') = bS B' post lk := by
  unfold Sto.back bS bO
  simp
theorem outB {post' : List Ct} {lk' : List W} {x : F} (hp : Plain post) : outA (bS B post lk) (.rt (.w (.f x)) (bS B' (post ++ post') lk')) = .ok (.w (.f x)) (bS B' post lk) := by
  simp only [outA, bOkB hp, backB, if_true]
theorem outB0 {x : F} (hp : Plain post) {lk' : List W} : outA (bS B post lk) (.rt (.w (.f x)) (bS B' post lk')) = .ok (.w (.f x)) (bS B' post lk) := by
  have := outB (B := B) (B' := B') (lk := lk) (lk' := lk') (post' := []) (x := x) hp
  rwa [List.append_nil] at this
theorem lk1 {k : Nat} : lkd k [] = false := rfl
end
def formOk (n : Nat) : F → Bool
  | .int i => decide (0 ≤ i) && decide (i < (n : Int))
  | _ => false
@[simp] theorem lsN (B : Bk) : B.ls.length = B.nms.length := by simp [Bk.ls]
@[simp] theorem ksN (B : Bk) : B.ks.length = B.rcs.length := by simp [Bk.ks]
section
variable {B : Bk} {post : List Ct} {lk : List W} (hp : Plain post)
include hp
theorem r_need_form (x : F) : p_B_need_form [.c 0, .f x] (bS B post lk) = if formOk B.nms.length x = true then .ok (.w (.f .non)) (bS B post lk) else .exc "NoForm" (bS B post lk) := by
  have hs : insOk (bS B post lk) := insOkB hp
  have hn := r_is_number hs x
  obtain ⟨r, hr, he⟩ := run_of 2 b_B_need_form [.c 0, .f x] (bS B post lk)
  show runA 2 b_B_need_form _ _ = _
  rw [he]
  have go : (formOk B.nms.length x = true ∧ r = .nx [.v (.c 0), .v (.f x)] (bS B post lk)) ∨ (formOk B.nms.length x = false ∧ r = .exc "NoForm" [.v (.c 0), .v (.f x)] (bS B post lk)) := by
    rw [← hr]
    cases x with
    | int i =>
      by_cases h1 : i < 0
      · have : ¬ 0 ≤ i := by omega
        simp [b_B_need_form, hn, isNum, formOk, h1, this]
      · have h2 : 0 ≤ i := by omega
        by_cases h3 : i < (B.nms.length : Int)
        · have h4 : ¬ (B.nms.length : Int) ≤ i := by omega
          simp [b_B_need_form, hn, isNum, formOk, h1, h2, h3, h4]
        · have h4 : (B.nms.length : Int) ≤ i := by omega
          simp [b_B_need_form, hn, isNum, formOk, h1, h2, h3, h4]
    | _ => simp [b_B_need_form, hn, isNum, formOk]
  rcases go with ⟨h1, h2⟩ | ⟨h1, h2⟩
  · rw [if_pos h1, h2, outA_nx hs]
  · rw [if_neg (by rw [h1]; simp), h2, outA_exc hs]
theorem r_need_record (x : F) : p_B_need_record [.c 0, .f x] (bS B post lk) = if formOk B.rcs.length x = true then .ok (.w (.f .non)) (bS B post lk) else .exc "NoRecord" (bS B post lk) := by
  have hs : insOk (bS B post lk) := insOkB hp
  have hn := r_is_number hs x
  obtain ⟨r, hr, he⟩ := run_of 2 b_B_need_record [.c 0, .f x] (bS B post lk)
  show runA 2 b_B_need_record _ _ = _
  rw [he]
  have go : (formOk B.rcs.length x = true ∧ r = .nx [.v (.c 0), .v (.f x)] (bS B post lk)) ∨ (formOk B.rcs.length x = false ∧ r = .exc "NoRecord" [.v (.c 0), .v (.f x)] (bS B post lk)) := by
    rw [← hr]
    cases x with
    | int i =>
      by_cases h1 : i < 0
      · have : ¬ 0 ≤ i := by omega
        simp [b_B_need_record, hn, isNum, formOk, h1, this]
      · have h2 : 0 ≤ i := by omega
        by_cases h3 : i < (B.rcs.length : Int)
        · have h4 : ¬ (B.rcs.length : Int) ≤ i := by omega
          simp [b_B_need_record, hn, isNum, formOk, h1, h2, h3, h4]
        · have h4 : (B.rcs.length : Int) ≤ i := by omega
          simp [b_B_need_record, hn, isNum, formOk, h1, h2, h3, h4]
    | _ => simp [b_B_need_record, hn, isNum, formOk]
  rcases go with ⟨h1, h2⟩ | ⟨h1, h2⟩
  · rw [if_pos h1, h2, outA_nx hs]
  · rw [if_neg (by rw [h1]; simp), h2, outA_exc hs]
theorem r_forms : p_B_forms [.c 0] (bS B post lk) = .ok (.w (.f (.int (B.nms.length : Nat)))) (bS B post lk) := runA_rt (insOkB hp) (by simp [b_B_forms])
theorem r_records : p_B_records [.c 0] (bS B post lk) = .ok (.w (.f (.int (B.rcs.length : Nat)))) (bS B post lk) := runA_rt (insOkB hp) (by simp [b_B_records])
end
end PB

/-! PK: grow, make, a new book. -/
namespace PB
open PySem L2 Fm
def rO (L E V K Q : List F) (post : List Ct) : List Ct := .ins flds :: .lst L :: .lst E :: .lst V :: .lst K :: .lst Q :: post
def rS (L E V K Q : List F) (post : List Ct) (lk : List W) : Sto := ⟨rO L E V K Q post, lk⟩
theorem bS_r (B : Bk) (post : List Ct) (lk : List W) : bS B post lk = rS B.ls B.es B.ws B.ks B.os post lk := rfl
section
variable {L E Ws K Q : List F} {post : List Ct} {lk : List W}
@[simp] theorem rS0 : (rS L E Ws K Q post lk).O[0]? = some (.ins flds) := rfl
@[simp] theorem rS1 : (rS L E Ws K Q post lk).O[1]? = some (.lst L) := rfl
@[simp] theorem rS2 : (rS L E Ws K Q post lk).O[2]? = some (.lst E) := rfl
@[simp] theorem rS3 : (rS L E Ws K Q post lk).O[3]? = some (.lst Ws) := rfl
@[simp] theorem rS4 : (rS L E Ws K Q post lk).O[4]? = some (.lst K) := rfl
@[simp] theorem rS5 : (rS L E Ws K Q post lk).O[5]? = some (.lst Q) := rfl
@[simp] theorem rSlk : (rS L E Ws K Q post lk).lk = lk := rfl
@[simp] theorem rSlen : (rS L E Ws K Q post lk).O.length = post.length + 6 := rfl
@[simp] theorem rSs1 {x : List F} {lk' : List W} : Sto.mk ((rS L E Ws K Q post lk).O.set 1 (.lst x)) lk' = rS x E Ws K Q post lk' := rfl
@[simp] theorem rSs2 {x : List F} {lk' : List W} : Sto.mk ((rS L E Ws K Q post lk).O.set 2 (.lst x)) lk' = rS L x Ws K Q post lk' := rfl
@[simp] theorem rSs3 {x : List F} {lk' : List W} : Sto.mk ((rS L E Ws K Q post lk).O.set 3 (.lst x)) lk' = rS L E x K Q post lk' := rfl
@[simp] theorem rSs4 {x : List F} {lk' : List W} : Sto.mk ((rS L E Ws K Q post lk).O.set 4 (.lst x)) lk' = rS L E Ws x Q post lk' := rfl
@[simp] theorem rSs5 {x : List F} {lk' : List W} : Sto.mk ((rS L E Ws K Q post lk).O.set 5 (.lst x)) lk' = rS L E Ws K x post lk' := rfl
end
@[simp] theorem fm1 : flds.lookup (Str.ofString "need_form") = none := by decide
@[simp] theorem fm2 : flds.lookup (Str.ofString "need_record") = none := by decide
@[simp] theorem fm3 : flds.lookup (Str.ofString "grow") = none := by decide
@[simp] theorem fm4 : flds.lookup (Str.ofString "forms") = none := by decide
@[simp] theorem fm5 : flds.lookup (Str.ofString "records") = none := by decide
@[simp] theorem fm6 : flds.lookup (Str.ofString "fields") = none := by decide
@[simp] theorem fm7 : flds.lookup (Str.ofString "elder") = none := by decide
@[simp] theorem fm8 : flds.lookup (Str.ofString "step") = none := by decide
@[simp] theorem fm9 : flds.lookup (Str.ofString "make") = none := by decide
@[simp] theorem fm10 : flds.lookup (Str.ofString "line") = none := by decide
@[simp] theorem fm11 : flds.lookup (Str.ofString "own") = none := by decide
@[simp] theorem fm12 : flds.lookup (Str.ofString "readings") = none := by decide
@[simp] theorem fm13 : flds.lookup (Str.ofString "reading") = none := by decide
@[simp] theorem fm14 : flds.lookup (Str.ofString "all_readings") = none := by decide
@[simp] theorem fm15 : flds.lookup (Str.ofString "changed") = none := by decide
@[simp] theorem fm16 : flds.lookup (Str.ofString "change") = none := by decide
/-- a method of the book -/
theorem e_meth {psi : Psi} {m : Str} {a : MA} {sl : List Sl} {B : Bk} {post : List Ct} {lk : List W} (hm : flds.lookup m = none) : kMe1 psi m a sl (.w (.c 0)) (bS B post lk) = (a sl (bS B post lk)).bind (kMe2 psi 0) := e_kMe1 bS0 hm
@[simp] theorem e_meth0 {psi : Psi} {m : Str} {a : MA} {sl : List Sl} {B : Bk} {post : List Ct} {lk : List W} : kMe1 psi m a sl (.w (.c 0)) (bS B post lk) = if flds.lookup m = none then (a sl (bS B post lk)).bind (kMe2 psi 0) else .bad := by
  split
  · rename_i h; exact e_meth h
  · rename_i h; unfold kMe1; simp [h]
def Bk.grow (B : Bk) (i : Nat) (st : Stp) (M : List Str) : Bk := ⟨B.nms ++ [M], B.stp ++ [(i, st)], B.rcs⟩
theorem grow_r (B : Bk) (i : Nat) (st : Stp) (M : List Str) (post : List Ct) (lk : List W) : bS (B.grow i st M) post lk = rS (B.ls ++ [nsF M]) (B.es ++ [.int (i : Int)]) (B.ws ++ [st.f]) B.ks B.os post lk := by
  rw [bS_r]
  simp [Bk.ls, Bk.es, Bk.ws, Bk.ks, Bk.os, Bk.grow]
theorem ls_at {B : Bk} {i : Nat} {L : List Str} (h : B.nms[i]? = some L) : L2.atI B.ls (i : Int) = some (nsF L) := by
  obtain ⟨h1, h2⟩ := List.getElem?_eq_some_iff.mp h
  unfold Bk.ls
  rw [Fm.atI_nat (by rw [List.length_map]; exact h1), List.getElem_map, h2]
@[simp] theorem esN (B : Bk) : B.es.length = B.stp.length + 1 := by simp [Bk.es]
@[simp] theorem wsN (B : Bk) : B.ws.length = B.stp.length + 1 := by simp [Bk.ws]
section
variable {B : Bk} {post : List Ct} (hp : Plain post)
include hp
/-- a form more -/
theorem r_grow {i : Nat} {st : Stp} {L : List Str} (hi : B.nms[i]? = some L) (hL : L.length ≤ 12) (hN : B.nms.length ≤ 30) (hE : B.stp.length ≤ 30) (hst : ∀ {s}, insOk s → p_is_step [.f st.f] s = .ok (.w (.f (.bl true))) s) :
    p_B_grow [.c 0, .f (.int (i : Int)), .f st.f] (bS B post []) = match nbR st L with
      | .error c => .exc c (bS B post [])
      | .ok M => if B.nms.length < 30 then .ok (.w (.f (.int (B.nms.length : Nat)))) (bS (B.grow i st M) post []) else .exc "TooMany" (bS B post []) := by
  have hs : insOk (bS B post []) := insOkB hp
  have hil : i < B.nms.length := (List.getElem?_eq_some_iff.mp hi).1
  have hnf := r_need_form hp (B := B) (lk := []) (.int (i : Int))
  rw [if_pos (by simp [formOk, hil])] at hnf
  have hst := hst hs
  have hnb := nb_ok hs st L (by omega)
  have hat := ls_at hi
  obtain ⟨r, hr, he⟩ := run_of 4 b_B_grow [.c 0, .f (.int (i : Int)), .f st.f] (bS B post [])
  show runA 4 b_B_grow _ _ = _
  rw [he]
  clear he
  unfold b_B_grow at hr
  replace hr := step hr (sl' := [.v (.c 0), .v (.f (.int (i : Int))), .v (.f st.f), .no]) (by simp [hnf])
  replace hr := step hr (sl' := [.v (.c 0), .v (.f (.int (i : Int))), .v (.f st.f), .no]) (by simp [hst])
  cases q : nbR st L with
  | error c =>
    rw [q] at hnb
    rw [stepx hr (sl' := [.v (.c 0), .v (.f (.int (i : Int))), .v (.f st.f), .no]) (s' := bS B post []) (c := c) (by simp [hat, hnb, runX]), outA_exc hs]
  | ok M =>
    rw [q] at hnb
    have z1 : B.nms.length < sizeLine := ltz hN (by decide)
    have z2 : B.stp.length + 1 < sizeLine := ltz (show _ ≤ 31 by omega) (by decide)
    replace hr := step hr (sl' := [.v (.c 0), .v (.f (.int (i : Int))), .v (.f st.f), .v (.f (nsF M))]) (by simp [hat, hnb, runX])
    by_cases h30 : B.nms.length < 30
    · have h30' : ¬ (30 : Int) ≤ B.nms.length := by omega
      show outA _ r = if _ then _ else _
      rw [if_pos h30]
      replace hr := step hr (sl' := [.v (.c 0), .v (.f (.int (i : Int))), .v (.f st.f), .v (.f (nsF M))]) (by simp [h30'])
      rw [bS_r] at hr
      replace hr := stepS hr (s' := rS (B.ls ++ [nsF M]) B.es B.ws B.ks B.os post []) (sl' := [.v (.c 0), .v (.f (.int (i : Int))), .v (.f st.f), .v (.f (nsF M))]) (by simp [z1])
      replace hr := stepS hr (s' := rS (B.ls ++ [nsF M]) (B.es ++ [.int (i : Int)]) B.ws B.ks B.os post []) (sl' := [.v (.c 0), .v (.f (.int (i : Int))), .v (.f st.f), .v (.f (nsF M))]) (by simp [z2])
      replace hr := stepS hr (s' := bS (B.grow i st M) post []) (sl' := [.v (.c 0), .v (.f (.int (i : Int))), .v (.f st.f), .v (.f (nsF M))]) (by rw [grow_r]; simp [z2])
      have e : ((B.nms.length : Int) + 1 - 1) = (B.nms.length : Nat) := by omega
      have : r = .rt (.w (.f (.int (B.nms.length : Nat)))) (bS (B.grow i st M) post []) := by
        rw [← hr]; simp [Bk.grow, e]
      rw [this, outB0 hp]
    · have h30' : (30 : Int) ≤ B.nms.length := by omega
      show outA _ r = if _ then _ else _
      rw [if_neg h30, stepx hr (sl' := [.v (.c 0), .v (.f (.int (i : Int))), .v (.f st.f), .v (.f (nsF M))]) (s' := bS B post []) (c := "TooMany") (by simp [h30']), outA_exc hs]
theorem r_grow_noform {x y : F} (h : formOk B.nms.length x = false) : p_B_grow [.c 0, .f x, .f y] (bS B post []) = .exc "NoForm" (bS B post []) := by
  have hs : insOk (bS B post []) := insOkB hp
  have hnf := r_need_form hp (B := B) (lk := []) x
  rw [if_neg (by rw [h]; simp)] at hnf
  obtain ⟨r, hr, he⟩ := run_of 4 b_B_grow [.c 0, .f x, .f y] (bS B post [])
  show runA 4 b_B_grow _ _ = _
  rw [he, stepx hr (sl' := [.v (.c 0), .v (.f x), .v (.f y), .no]) (s' := bS B post []) (c := "NoForm") (by simp [hnf]), outA_exc hs]
theorem r_grow_nostep {x y : F} (h : formOk B.nms.length x = true) (hst : ∀ {s}, insOk s → p_is_step [.f y] s = .ok (.w (.f (.bl false))) s) : p_B_grow [.c 0, .f x, .f y] (bS B post []) = .exc "BadStep" (bS B post []) := by
  have hs : insOk (bS B post []) := insOkB hp
  have hnf := r_need_form hp (B := B) (lk := []) x
  rw [if_pos h] at hnf
  have hst := hst hs
  obtain ⟨r, hr, he⟩ := run_of 4 b_B_grow [.c 0, .f x, .f y] (bS B post [])
  show runA 4 b_B_grow _ _ = _
  rw [he]
  unfold b_B_grow at hr
  replace hr := step hr (sl' := [.v (.c 0), .v (.f x), .v (.f y), .no]) (by simp [hnf])
  rw [stepx hr (sl' := [.v (.c 0), .v (.f x), .v (.f y), .no]) (s' := bS B post []) (c := "BadStep") (by simp [hst]), outA_exc hs]
def zeroR (L : List Str) : Rd := L.map fun a => (a, 0)
def Bk.make (B : Bk) (L : List Str) : Bk := ⟨B.nms, B.stp, B.rcs ++ [(zeroR L, [])]⟩
omit hp in
theorem make_r (B : Bk) (L : List Str) (post : List Ct) (lk : List W) : bS (B.make L) post lk = rS B.ls B.es B.ws (B.ks ++ [rF (zeroR L)]) (B.os ++ [.dct []]) post lk := by
  rw [bS_r]
  simp [Bk.ls, Bk.es, Bk.ws, Bk.ks, Bk.os, Bk.make]
  rfl
omit hp in
theorem pR_new {d : Rd} {a : Str} (h : a ∉ nm d) (i : Int) : pR d a i = d ++ [(a, i)] := by
  unfold pR
  rw [if_neg]
  intro q
  rw [List.any_eq_true] at q
  obtain ⟨p, hp, e⟩ := q
  exact h (List.mem_map.mpr ⟨p, hp, by simpa using e⟩)
theorem r_make {L : List Str} (h0 : B.nms[0]? = some L) (hn : L.Nodup) (hL : L.length ≤ 12) (hR : B.rcs.length ≤ 100) : p_B_make [.c 0] (bS B post []) = .ok (.w (.f (.int (B.rcs.length : Nat)))) (bS (B.make L) post []) := by
  have hs : insOk (bS B post []) := insOkB hp
  have hat : L2.atI B.ls 0 = some (nsF L) := ls_at h0
  obtain ⟨r, hr, he⟩ := run_of 3 b_B_make [.c 0] (bS B post [])
  show runA 3 b_B_make _ _ = _
  rw [he]
  clear he
  unfold b_B_make at hr
  replace hr := step hr (sl' := [.v (.c 0), .own (.dct []), .no]) (by simp)
  obtain ⟨sl', lp, x2, rfl⟩ := loop_strs (i := 2) (s := bS B post []) (body := sPutD (mVar 1) (mVar 2) (mC (.int 0))) (fun pre sl => ∃ x2, sl = [.v (.c 0), .own (.dct (rK (zeroR pre))), x2]) L [.v (.c 0), .own (.dct []), .no] ⟨_, rfl⟩ (fun pre x post' e sl ⟨x2, e2⟩ => by
    subst e2
    refine ⟨_, ?_, .v (.f (.str x)), rfl⟩
    have hx : x ∉ nm (zeroR pre) := by
      rw [e] at hn
      rw [List.nodup_append] at hn
      intro h
      unfold zeroR nm at h
      rw [List.map_map] at h
      simp at h
      exact hn.2.2 x h x (by simp) rfl
    have hl : pre.length < sizeLine := ltz (show pre.length ≤ 12 by rw [e] at hL; simp at hL; omega) (by decide)
    have e3 : zeroR (pre ++ [x]) = pR (zeroR pre) x 0 := by rw [pR_new hx]; simp [zeroR]
    have hl2 : (zeroR pre).length < sizeLine := by simpa [zeroR] using hl
    rw [e3]
    simp [hl2])
  replace hr := step hr (sl' := [.v (.c 0), .own (.dct (rK (zeroR L))), x2]) (by simpa [hat] using lp)
  replace hr := step hr (sl' := [.v (.c 0), .v (.f (rF (zeroR L))), x2]) (by simp)
  have z1 : B.rcs.length < sizeLine := ltz hR (by decide)
  have z2 : B.os.length < sizeLine := by simpa [Bk.os] using z1
  rw [bS_r] at hr
  replace hr := stepS hr (s' := rS B.ls B.es B.ws (B.ks ++ [rF (zeroR L)]) B.os post []) (sl' := [.v (.c 0), .v (.f (rF (zeroR L))), x2]) (by simp [z1])
  replace hr := stepS hr (s' := bS (B.make L) post []) (sl' := [.v (.c 0), .v (.f (rF (zeroR L))), x2]) (by rw [make_r]; simp [z2])
  have e : ((B.rcs.length : Int) + 1 - 1) = (B.rcs.length : Nat) := by omega
  have : r = .rt (.w (.f (.int (B.rcs.length : Nat)))) (bS (B.make L) post []) := by
    rw [← hr]; simp [Bk.make, e]
  rw [this, outB0 hp]
end
/-- a new book -/
def newBk (L : List Str) : Bk := ⟨[L], [], []⟩
theorem r_new {L : List Str} (h : gnR (L.map F.str) = .ok (L.map F.str)) : kMk p_B_init [.f (nsF L)] ⟨[], []⟩ = .ok (.w (.c 0)) (bS (newBk L) [] []) := by
  have okn : ∀ x ∈ L.map F.str, okF x = true := by
    unfold gnR at h
    split at h
    · cases h
    · split at h
      · cases h
      · rename_i h2
        intro x hx
        have h3 := List.all_eq_true.mp (by simpa using h2) x hx
        obtain ⟨z, rfl⟩ := nm_str h3
        exact nm_ok h3
  have hl : (L.map F.str).length ≤ 1000 := by
    unfold gnR at h
    split at h
    · cases h
    · omega
  have hgn := r_good_names (s := ⟨[.ins []], []⟩) (fun k c e => by
    cases k with
    | zero => simp at e; subst e; simp [Ct.ptrs]
    | succ k => simp at e) _ okn hl
  rw [h] at hgn
  have z1 : 1 ≤ sizeLine := by decide
  have z0 : 0 ≤ sizeLine := by decide
  unfold kMk
  simp only [List.all_cons, argOk, List.all_nil, Bool.and_self, if_true]
  have : p_B_init [.c 0, .f (nsF L)] ⟨[.ins []], []⟩ = .ok (.w (.f .non)) (bS (newBk L) [] []) := by
    show runB 2 b_B_init _ _ = _
    unfold runB
    simp [b_B_init, hgn, runX', z1, z0, putN]
    rfl
  simp only [List.length_nil, List.nil_append, this]
theorem r_new_exc {s : Sto} (hs : insOk s) {L : List F} {c : Str} (h : gnR L = .error c) (okn : ∀ x ∈ L, okF x = true) (hl : L.length ≤ 1000) : kMk p_B_init [.f (.lst L)] s = .exc c s := by
  have hs2 : insOk { s with O := s.O ++ [.ins []] } := fun k c e p hp => by
    simp only at e ⊢
    rw [List.length_append]
    by_cases hk : k < s.O.length
    · rw [List.getElem?_append_left hk] at e
      have := hs k c e p hp
      omega
    · rw [List.getElem?_append_right (by omega)] at e
      have : c = .ins [] := by
        cases hj : k - s.O.length with
        | zero => rw [hj] at e; simpa using e.symm
        | succ j => rw [hj] at e; simp at e
      subst this
      simp [Ct.ptrs] at hp
  have hgn := r_good_names hs2 L okn hl
  rw [h] at hgn
  unfold kMk
  simp only [List.all_cons, argOk, List.all_nil, Bool.and_self, if_true]
  have : p_B_init [.c s.O.length, .f (.lst L)] { s with O := s.O ++ [.ins []] } = .exc c { s with O := s.O ++ [.ins []] } := by
    show runB 2 b_B_init _ _ = _
    unfold runB
    simp [b_B_init, hgn, runX']
  simp only [this]
  have hb : bOk s { s with O := s.O ++ [.ins []] } = true := by
    have := bOk_self hs
    unfold bOk at this ⊢
    simpa using this
  rw [if_pos hb]
  congr 1
  unfold Sto.back
  simp
end PB

/-! PL: line, own, readings. -/
namespace PB
open PySem L2 Fm
/-! ### evaluation -/
def kIxC2 (w : W) (sl : List Sl) : Y → Sto → R Y := fun y s => match frz y, pkC sl s w with
  | .f (.int i), some ks => match L2.atI ks i with
    | some k => .ok (.w (.c k)) s
    | none => .bad
  | _, _ => .bad
def kIxC1 (mi : M) (sl : List Sl) : Y → Sto → R Y := fun y s1 => (mi sl (celY y s1).2).bind (kIxC2 (celY y s1).1 sl)
@[simp] theorem e_mIxC (mo mi : M) (sl : List Sl) (s : Sto) : mIxC mo mi sl s = (mo sl s).bind (kIxC1 mi sl) := rfl
@[simp] theorem e_kIxC1 (mi : M) (sl : List Sl) (y : Y) (s1 : Sto) : kIxC1 mi sl y s1 = (mi sl (celY y s1).2).bind (kIxC2 (celY y s1).1 sl) := rfl
theorem e_kIxC2 {w : W} {sl : List Sl} {i : Int} {s : Sto} {ks : List Nat} {k : Nat} (h : pkC sl s w = some ks) (hk : L2.atI ks i = some k) : kIxC2 w sl (.w (.f (.int i))) s = .ok (.w (.c k)) s := by
  unfold kIxC2
  simp only [frz, h, hk]
def kApC2 (wo : W) (sl : List Sl) : Y → Sto → RS := fun y s1 => match y with
    | .fr c => match pkC sl s1 wo with
      | some ks => appC wo ks s1.O.length sl { s1 with O := s1.O ++ [c] }
      | none => .bad
    | _ => .bad
def kApC1 (me : M) (sl : List Sl) : Y → Sto → RS := fun y s => match pkC sl s (frz y) with
  | some _ => (me sl s).st sl (kApC2 (frz y) sl)
  | none => .bad
@[simp] theorem e_sAppC (mo me : M) (sl : List Sl) (s : Sto) : sAppC mo me sl s = (mo sl s).st sl (kApC1 me sl) := rfl
theorem e_kApC1 {me : M} {sl : List Sl} {y : Y} {s : Sto} {ks : List Nat} (h : pkC sl s (frz y) = some ks) : kApC1 me sl y s = (me sl s).st sl (kApC2 (frz y) sl) := by
  unfold kApC1; rw [h]
theorem e_kApC2 {wo : W} {sl : List Sl} {c : Ct} {s1 : Sto} {ks : List Nat} (h : pkC sl s1 wo = some ks) : kApC2 wo sl (.fr c) s1 = appC wo ks s1.O.length sl { s1 with O := s1.O ++ [c] } := by
  unfold kApC2; simp only [h]
theorem atI_last {α : Type} (xs : List α) (x : α) : L2.atI (xs ++ [x]) (-1) = some x := by
  unfold L2.atI L2.ixN
  have h1 : ¬ (0 : Int) ≤ -1 := by omega
  have h2 : (1 : Int) ≤ xs.length + 1 := by omega
  have h3 : (-1 + ((xs.length : Int) + 1)).toNat = xs.length := by omega
  simp [h2, h3]
theorem rev_F {i j : Nat} {s : Sto} {xs : List F} {sl : List Sl} (no : slNoOwn sl[i]? = true) (lt : i < sl.length) (hi : i ≠ j) (h2 : sl[j]? = some (.v (.f (.lst xs)))) (hl : xs.length ≤ 100) :
    mLc i (iR1 (mN lenF (aCons (mVar j) aNil))) (mC (.bl true)) (mB ixF (mVar j) (mB subF (mB subF (mN lenF (aCons (mVar j) aNil)) (mC (.int 1))) (mVar i))) sl s = .ok (.fr (.lst xs.reverse)) s := by
  have hb : inB (xs.length : Int) = true := inB_of2 (by omega)
  refine mLc_eq no (s1 := s) (xs := rgF 0 1 xs.length) (by simp [h2, hb]) ?_ (by rw [List.length_reverse]; exact Nat.le_trans hl (by decide))
  have := compF_map (i := i) (s := s) (sl := sl.set i .no) (e := mB ixF (mVar j) (mB subF (mB subF (mN lenF (aCons (mVar j) aNil)) (mC (.int 1))) (mVar i))) (f := fun x => match x with
    | .int k => xs.reverse.getD k.toNat .non
    | x => x) (rgF 0 1 xs.length) (fun x hx => by
    obtain ⟨k, hk, rfl⟩ := rgF_mem hx
    have hk2 : xs.length - 1 - k < xs.length := by omega
    have at1 := Fm.atI_nat (xs := xs) hk2
    have hk3 : (xs.length : Int) - 1 - (0 + (k : Int)) = ((xs.length - 1 - k : Nat) : Int) := by omega
    refine ⟨.w (.f (xs.reverse.getD k .non)), ?_, by simp⟩
    have h2' : (((sl.set i .no).set i (.v (.f (.int (0 + (k : Int)))))))[j]? = some (.v (.f (.lst xs))) := by
      rw [List.getElem?_set_ne hi, List.getElem?_set_ne hi]; exact h2
    have hi' : (((sl.set i .no).set i (.v (.f (.int (0 + (k : Int)))))))[i]? = some (.v (.f (.int (0 + (k : Int))))) := by
      rw [List.getElem?_set_self]; simpa using lt
    have er : xs.reverse.getD k .non = xs[xs.length - 1 - k] := by
      rw [List.getD_eq_getElem?_getD, List.getElem?_eq_getElem (by simpa using hk), List.getElem_reverse]; rfl
    rw [er]
    generalize ((sl.set i .no).set i (.v (.f (.int (0 + (k : Int)))))) = sl2 at h2' hi'
    simp only [Int.zero_add] at hi' hk3
    simp [h2', hi', hk3, at1])
  rw [this]
  congr 1
  apply List.ext_getElem?
  intro k
  simp only [rgF, List.map_map, List.getElem?_map]
  by_cases hk : k < xs.length
  · rw [List.getElem?_range hk, List.getElem?_eq_getElem (by simpa using hk)]
    simp [List.getElem?_eq_getElem, hk]
  · rw [List.getElem?_eq_none (by simpa using hk), List.getElem?_eq_none (by simpa using hk)]
    rfl
/-! ### the line -/
/-- a form's elder and step; none: the first one -/
def Bk.up (B : Bk) : Nat → Option (Nat × Stp)
  | 0 => none
  | i + 1 => B.stp[i]?
/-- the book is grown in order -/
def Bk.Ord (B : Bk) : Prop := ∀ (i : Nat) (p : Nat × Stp), B.stp[i]? = some p → p.1 ≤ i
def Bk.chain (B : Bk) : Nat → Nat → List Nat
  | 0, i => [i]
  | f + 1, i => match B.up i with
    | some p => i :: B.chain f p.1
    | none => [i]
theorem up_lt {B : Bk} (hB : B.Ord) {i : Nat} {p : Nat × Stp} (h : B.up i = some p) : p.1 < i := by
  cases i with
  | zero => cases h
  | succ i => exact Nat.lt_succ_of_le (hB i p h)
theorem chain_eq {B : Bk} (hB : B.Ord) : ∀ (f g i : Nat), i ≤ f → i ≤ g → B.chain f i = B.chain g i
  | 0, 0, i, _, _ => rfl
  | 0, g + 1, i, h, _ => by
    have : i = 0 := by omega
    subst this
    rfl
  | f + 1, 0, i, _, h => by
    have : i = 0 := by omega
    subst this
    rfl
  | f + 1, g + 1, i, h1, h2 => by
    unfold Bk.chain
    cases e : B.up i with
    | none => rfl
    | some p =>
      have := up_lt hB e
      show i :: _ = i :: _
      rw [chain_eq hB f g p.1 (by omega) (by omega)]
/-- the forms from the first one to i -/
def Bk.line (B : Bk) (i : Nat) : List Nat := (B.chain i i).reverse
theorem line_none {B : Bk} {i : Nat} (h : B.up i = none) : B.line i = [i] := by
  unfold Bk.line
  cases i with
  | zero => rfl
  | succ i => unfold Bk.chain; rw [h]; rfl
theorem line_some {B : Bk} (hB : B.Ord) {i : Nat} {p : Nat × Stp} (h : B.up i = some p) : B.line i = B.line p.1 ++ [i] := by
  have hl := up_lt hB h
  unfold Bk.line
  cases i with
  | zero => cases h
  | succ i =>
    conv => lhs; unfold Bk.chain
    rw [h]
    show (_ :: _).reverse = _
    rw [List.reverse_cons, chain_eq hB i p.1 p.1 (by omega) (Nat.le_refl _)]
theorem chain_len {B : Bk} : ∀ (f i : Nat), (B.chain f i).length ≤ f + 1
  | 0, i => by simp [Bk.chain]
  | f + 1, i => by
    unfold Bk.chain
    split
    · rw [List.length_cons]
      have := chain_len (B := B) f
      exact Nat.succ_le_succ (this _)
    · simp
theorem line_len (B : Bk) (i : Nat) : (B.line i).length ≤ i + 1 := by
  unfold Bk.line
  rw [List.length_reverse]
  exact chain_len i i
theorem line_ne (B : Bk) (i : Nat) : B.line i ≠ [] := by
  unfold Bk.line
  intro h
  have : (B.chain i i) = [] := by simpa using h
  cases i with
  | zero => cases this
  | succ i =>
    unfold Bk.chain at this
    split at this <;> cases this
theorem es_at {B : Bk} {i : Nat} (h : i ≤ B.stp.length) : L2.atI B.es (i : Int) = some (match B.up i with
    | some p => .int (p.1 : Int)
    | none => .non) := by
  rw [Fm.atI_nat (by rw [esN]; omega)]
  cases i with
  | zero => rfl
  | succ i =>
    have hi : i < B.stp.length := by omega
    unfold Bk.es
    simp only [List.getElem_cons_succ, List.getElem_map, Bk.up, List.getElem?_eq_getElem hi]
theorem ws_at {B : Bk} {i : Nat} {p : Nat × Stp} (h : B.up i = some p) : L2.atI B.ws (i : Int) = some p.2.f := by
  cases i with
  | zero => cases h
  | succ i =>
    obtain ⟨h1, h2⟩ := List.getElem?_eq_some_iff.mp h
    rw [Fm.atI_nat (by rw [wsN]; omega)]
    unfold Bk.ws
    simp only [List.getElem_cons_succ, List.getElem_map, h2]
abbrev intL (L : List Nat) : List F := L.map fun (k : Nat) => F.int (k : Int)
section
variable {B : Bk} {post : List Ct} {lk : List W} (hp : Plain post)
theorem while_line (hB : B.Ord) : ∀ (c n f : Nat) (pre : List F) (x1 : Sl), c ≤ B.stp.length → c < n → c ≤ f → pre.length + c ≤ 60 →
    sWhile (mNotN (mB ixF (mFld "elders" (mVar 0)) (mB ixF (mVar 2) (mU negF (mC (.int 1)))))) (sAppL (mVar 2) (mB ixF (mFld "elders" (mVar 0)) (mB ixF (mVar 2) (mU negF (mC (.int 1)))))) n [.v (.c 0), x1, .own (.lst (pre ++ [.int (c : Int)])), .no] (bS B post lk) =
    .nx [.v (.c 0), x1, .own (.lst (pre ++ intL (B.chain f c))), .no] (bS B post lk) := by
  intro c
  induction c using Nat.strongRecOn with
  | _ c ih =>
    intro n f pre x1 hc hn hf hl
    obtain ⟨n, rfl⟩ : ∃ m, n = m + 1 := ⟨n - 1, by omega⟩
    have he := es_at hc
    have hz : pre.length + 1 < sizeLine := ltz (show _ ≤ 61 by omega) (by decide)
    have hlast : ∀ x : F, L2.atI (pre ++ [x]) (-1) = some x := fun x => atI_last pre x
    rw [e_sWhile]
    cases hu : B.up c with
    | none =>
      have e : B.chain f c = [c] := by
        cases f with
        | zero => rfl
        | succ f => unfold Bk.chain; rw [hu]
      rw [hu] at he
      simp only at he
      rw [e]
      simp [hlast, he]
    | some p =>
      have hlt := up_lt hB hu
      obtain ⟨f, rfl⟩ : ∃ g, f = g + 1 := ⟨f - 1, by omega⟩
      rw [hu] at he
      simp only at he
      have e : B.chain (f + 1) c = c :: B.chain f p.1 := by
        conv => lhs; unfold Bk.chain
        rw [hu]
      have := ih p.1 hlt n f (pre ++ [.int (c : Int)]) x1 (by omega) (by omega) (by omega) (by rw [List.length_append]; simp; omega)
      rw [e]
      have bd : (sAppL (mVar 2) (mB ixF (mFld "elders" (mVar 0)) (mB ixF (mVar 2) (mU negF (mC (.int 1)))))) [.v (.c 0), x1, .own (.lst (pre ++ [.int (c : Int)])), .no] (bS B post lk) = .nx [.v (.c 0), x1, .own (.lst (pre ++ [.int (c : Int)] ++ [.int (p.1 : Int)])), .no] (bS B post lk) := by
        simp [hlast, he, hz]
      have t1 : (mNotN (mB ixF (mFld "elders" (mVar 0)) (mB ixF (mVar 2) (mU negF (mC (.int 1)))))) [.v (.c 0), x1, .own (.lst (pre ++ [.int (c : Int)])), .no] (bS B post lk) = .ok (.w (.f (.bl true))) (bS B post lk) := by
        simp [hlast, he]
      rw [t1]
      simp only [Fm.R.st_ok]
      rw [e_kWh_t bd, this]
      simp
include hp
theorem r_line (hB : B.Ord) {i : Nat} (hi : i ≤ B.stp.length) (h30 : B.stp.length ≤ 30) : p_B_line [.c 0, .f (.int (i : Int))] (bS B post lk) = .ok (.fr (.lst (intL (B.line i)))) (bS B post lk) := by
  have hs : insOk (bS B post lk) := insOkB hp
  have z1 : 1 ≤ sizeLine := by decide
  have hw := while_line (B := B) (post := post) (lk := lk) hB i 100 i [] (.v (.f (.int (i : Int)))) hi (by omega) (Nat.le_refl _) (by simp; omega)
  simp only [List.nil_append] at hw
  have hcl := chain_len (B := B) i i
  obtain ⟨r, hr, he⟩ := run_of 4 b_B_line [.c 0, .f (.int (i : Int))] (bS B post lk)
  show runA 4 b_B_line _ _ = _
  rw [he]
  clear he
  unfold b_B_line at hr
  replace hr := step hr (sl' := [.v (.c 0), .v (.f (.int (i : Int))), .own (.lst [.int (i : Int)]), .no]) (by simp [z1])
  replace hr := step hr hw
  replace hr := step hr (sl' := [.v (.c 0), .v (.f (.int (i : Int))), .v (.f (.lst (intL (B.chain i i)))), .no]) (by simp)
  have rv := rev_F (i := 3) (j := 2) (s := bS B post lk) (xs := intL (B.chain i i)) (sl := [.v (.c 0), .v (.f (.int (i : Int))), .v (.f (.lst (intL (B.chain i i)))), .no]) (by simp) (by simp) (by decide) (by simp) (by rw [List.length_map]; omega)
  have e : (intL (B.chain i i)).reverse = intL (B.line i) := by unfold Bk.line; simp
  rw [e] at rv
  rw [← hr]
  simp [rv, outA, bOk_self hs, back_self, Ct.ptrs]
end
end PB

/-! PM: what a book's forms name; readings. -/
namespace PB
open PySem L2 Fm
/-! ### where the new names stand -/
def staysF (st : Stp) (L : List Str) : List Str := L.filter fun x => !decide (x ∈ st.old)
def atF (st : Stp) (L : List Str) : Nat := match st.old with
  | [] => L.length
  | a :: _ => ((L.take (L.idxOf a)).filter fun x => decide (x ∈ staysF st L)).length
theorem flat_all (st : Stp) : ∀ L : List Str, (∀ x ∈ L, st.old.head? ≠ some x) → (L.flatMap fun x => if st.old.head? = some x then st.new else if x ∈ st.old then [] else [x]) = L.filter fun x => !decide (x ∈ st.old)
  | [], _ => rfl
  | x :: L, h => by
    rw [List.flatMap_cons, flat_all st L fun y hy => h y (List.mem_cons_of_mem _ hy), if_neg (h x List.mem_cons_self), List.filter_cons]
    by_cases q : x ∈ st.old <;> simp [q]
theorem due_eq {st : Stp} {L : List Str} (hn : L.Nodup) (ho : ∀ a ∈ st.old, a ∈ L) : (staysF st L).take (atF st L) ++ st.new ++ (staysF st L).drop (atF st L) = nbF st L := by
  unfold nbF atF
  cases e : st.old with
  | nil =>
    have h1 : staysF st L = L := by unfold staysF; rw [e]; simp
    rw [h1]
    have := flat_all st L (by rw [e]; simp)
    rw [e] at this
    simp only [List.head?_nil] at this ⊢
    simp [this]
  | cons a as =>
    have haL : a ∈ L := ho a (by rw [e]; simp)
    obtain ⟨L1, L2, rfl, hn1⟩ := List.append_of_mem haL |> fun ⟨s, t, h⟩ => (by
      rw [h] at hn
      exact ⟨s, t, h, fun q => by
        rw [List.nodup_append] at hn
        exact hn.2.2 a q a (by simp) rfl⟩ : ∃ L1 L2, L = L1 ++ a :: L2 ∧ a ∉ L1)
    have hn2 : a ∉ L2 := by
      rw [List.nodup_append] at hn
      exact (List.nodup_cons.mp hn.2.1).1
    have hidx : (L1 ++ a :: L2).idxOf a = L1.length := by
      rw [List.idxOf_append, if_neg hn1, List.idxOf_cons_self]; simp
    have f1 := flat_all st L1 (by rw [e]; intro x hx q; cases q; exact hn1 hx)
    have f2 := flat_all st L2 (by rw [e]; intro x hx q; cases q; exact hn2 hx)
    rw [e] at f1 f2
    have hs : staysF st (L1 ++ a :: L2) = (L1.filter fun x => !decide (x ∈ a :: as)) ++ (L2.filter fun x => !decide (x ∈ a :: as)) := by
      unfold staysF
      rw [e, List.filter_append, List.filter_cons]
      simp
    have hf : ((L1 ++ a :: L2).take ((L1 ++ a :: L2).idxOf a)).filter (fun x => decide (x ∈ staysF st (L1 ++ a :: L2))) = L1.filter fun x => !decide (x ∈ a :: as) := by
      rw [hidx, List.take_left']
      · apply List.filter_congr
        intro x hx
        unfold staysF
        rw [e]
        by_cases q : x ∈ a :: as
        · rw [decide_eq_true q, decide_eq_false]
          · rfl
          · intro h
            have := (List.mem_filter.mp h).2
            rw [decide_eq_true q] at this
            cases this
        · rw [decide_eq_false q, decide_eq_true]
          · rfl
          · exact List.mem_filter.mpr ⟨List.mem_append_left _ hx, by rw [decide_eq_false q]; rfl⟩
      · rfl
    simp only [hf]
    rw [hs, List.take_left', List.drop_left', List.flatMap_append, List.flatMap_cons, f1, f2]
    · simp
    · rfl
    · rfl

theorem nbR_ok {st : Stp} {L M : List Str} (h : nbR st L = .ok M) : (∀ a ∈ st.old, a ∈ L) ∧ (∀ x ∈ L, x ∈ st.old ∨ x ∉ st.new) ∧ 1 ≤ M.length ∧ M.length ≤ 12 ∧ M = nbF st L := by
  unfold nbR at h
  split at h
  · cases h
  · rename_i q1
    split at h
    · cases h
    · rename_i q2
      split at h
      · cases h
      · rename_i q3
        cases h
        refine ⟨fun a ha => ?_, fun x hx => ?_, by omega, by omega, rfl⟩
        · have := List.all_eq_true.mp (Bool.not_eq_false _ ▸ q1) a ha
          simpa using this
        · have := List.all_eq_true.mp (Bool.not_eq_false _ ▸ q2) x hx
          simpa [Bool.or_eq_true] using this
theorem new_nd {st : Stp} (wf : st.wf) : st.new.Nodup := by
  cases st <;> simp [Stp.new]
  exact wf.1
theorem nb_mem {st : Stp} {L M : List Str} (h : nbR st L = .ok M) (hn : L.Nodup) (wf : st.wf) : M.Nodup ∧ ∀ a, a ∈ M ↔ (a ∈ L ∧ a ∉ st.old) ∨ a ∈ st.new := by
  obtain ⟨h1, h2, _, _, rfl⟩ := nbR_ok h
  have hs : ∀ a, a ∈ staysF st L ↔ a ∈ L ∧ a ∉ st.old := fun a => by unfold staysF; rw [List.mem_filter]; simp
  have hsn : (staysF st L).Nodup := List.Nodup.sublist List.filter_sublist hn
  rw [← due_eq hn h1]
  have pm : ((staysF st L).take (atF st L) ++ st.new ++ (staysF st L).drop (atF st L)).Perm (staysF st L ++ st.new) := by
    rw [List.append_assoc]
    refine (List.Perm.append_left _ List.perm_append_comm).trans ?_
    rw [← List.append_assoc, List.take_append_drop]
  constructor
  · rw [pm.nodup_iff, List.nodup_append]
    refine ⟨hsn, new_nd wf, fun a ha b hb e => ?_⟩
    subst e
    rw [hs] at ha
    rcases h2 a ha.1 with q | q
    · exact ha.2 q
    · exact q hb
  · intro a
    rw [pm.mem_iff, List.mem_append, hs]
theorem nb_fits {st : Stp} {L M : List Str} (h : nbR st L = .ok M) (wf : st.wf) : Fits st L := by
  obtain ⟨h1, h2, _⟩ := nbR_ok h
  exact ⟨wf, h1, fun a ha hL => (h2 a hL).resolve_right fun q => q ha⟩
/-! ### own numbers -/
def gO (ow : Ow) (i : Nat) : Option Int := (ow.find? fun p => decide (p.1 = i)).map (·.2)
theorem gO_cons (k : Nat) (x : Int) (r : Ow) (i : Nat) : gO ((k, x) :: r) i = if k = i then some x else gO r i := by
  unfold gO
  rw [List.find?_cons]
  by_cases h : k = i <;> simp [h]
theorem vK_oK (ow : Ow) (i : Nat) : vK (oK ow) (.inl (i : Int)) = (gO ow i).map F.int := by
  induction ow with
  | nil => rfl
  | cons p r ih =>
    obtain ⟨k, x⟩ := p
    show vK ((.inl (k : Int), F.int x) :: oK r) (.inl (i : Int)) = _
    rw [vK_cons, ih, gO_cons]
    by_cases h : k = i
    · simp [h]
    · have : ¬ (k : Int) = i := by omega
      simp [h, this]
def ownOf (ow : Ow) (i : Nat) : Stp → Option Int
  | .add _ n => some ((gO ow i).getD n)
  | _ => none
/-! ### readings, in plain Lean -/
def Bk.rdF (B : Bk) (r : Rd × Ow) : Nat → Nat → Rd
  | 0, _ => r.1
  | f + 1, i => match B.up i with
    | some p => forthR p.2 (B.rdF r f p.1) ((ownOf r.2 i p.2).getD 0)
    | none => r.1
theorem rdF_eq {B : Bk} (hB : B.Ord) (r : Rd × Ow) : ∀ (f g i : Nat), i ≤ f → i ≤ g → B.rdF r f i = B.rdF r g i
  | 0, 0, i, _, _ => rfl
  | 0, g + 1, i, h, _ => by
    have : i = 0 := by omega
    subst this
    rfl
  | f + 1, 0, i, _, h => by
    have : i = 0 := by omega
    subst this
    rfl
  | f + 1, g + 1, i, h1, h2 => by
    unfold Bk.rdF
    cases e : B.up i with
    | none => rfl
    | some p =>
      have := up_lt hB e
      show forthR _ _ _ = forthR _ _ _
      rw [rdF_eq hB r f g p.1 (by omega) (by omega)]
/-- what record r reads in form i -/
def Bk.rd (B : Bk) (r : Rd × Ow) (i : Nat) : Rd := B.rdF r i i
theorem rd_none {B : Bk} {r : Rd × Ow} {i : Nat} (h : B.up i = none) : B.rd r i = r.1 := by
  unfold Bk.rd
  cases i with
  | zero => rfl
  | succ i => unfold Bk.rdF; rw [h]
theorem rd_some {B : Bk} (hB : B.Ord) {r : Rd × Ow} {i : Nat} {p : Nat × Stp} (h : B.up i = some p) : B.rd r i = forthR p.2 (B.rd r p.1) ((ownOf r.2 i p.2).getD 0) := by
  have hl := up_lt hB h
  unfold Bk.rd
  cases i with
  | zero => cases h
  | succ i =>
    conv => lhs; unfold Bk.rdF
    rw [h]
    show forthR _ _ _ = _
    rw [rdF_eq hB r i p.1 p.1 (by omega) (Nat.le_refl _)]
/-- own numbers: of forms, each once -/
structure OwOk (ow : Ow) : Prop where
  nd : (ow.map (·.1)).Nodup
  lt : ∀ k ∈ ow.map (·.1), k < 30
theorem OwOk.len {ow : Ow} (h : OwOk ow) : ow.length ≤ 30 := by
  have := List.Nodup.length_le_of_subset (l₁ := ow.map (·.1)) (l₂ := List.range 30) h.nd fun k hk => List.mem_range.mpr (h.lt k hk)
  simpa using this
theorem OwOk.nil : OwOk [] := ⟨List.nodup_nil, fun k hk => by cases hk⟩
def pO (ow : Ow) (i : Nat) (x : Int) : Ow := if (ow.any fun p => decide (p.1 = i)) = true then ow.map (fun p => if p.1 = i then (p.1, x) else p) else ow ++ [(i, x)]
theorem pK_oK (ow : Ow) (i : Nat) (x : Int) : pK (oK ow) (.inl (i : Int)) (.int x) = oK (pO ow i x) := by
  unfold pK pO
  have e : ((oK ow).any fun kv => decide (kv.1 = (.inl (i : Int)))) = ow.any fun p => decide (p.1 = i) := by
    rw [List.any_map]
    congr 1
    funext p
    simp
    omega
  rw [e]
  split
  · unfold oK
    rw [List.map_map, List.map_map]
    apply List.map_congr_left
    intro p _
    simp only [Function.comp]
    by_cases h : p.1 = i
    · simp [h]
    · have : ¬ (p.1 : Int) = i := by omega
      simp [h, this]
  · simp
theorem keys_pO {ow : Ow} {i : Nat} {x : Int} : (pO ow i x).map (·.1) = if (ow.any fun p => decide (p.1 = i)) = true then ow.map (·.1) else ow.map (·.1) ++ [i] := by
  unfold pO
  split
  · rw [List.map_map]
    apply List.map_congr_left
    intro p _
    simp only [Function.comp]
    split <;> rfl
  · simp
theorem OwOk.put {ow : Ow} (h : OwOk ow) {i : Nat} (hi : i < 30) (x : Int) : OwOk (pO ow i x) := by
  by_cases q : (ow.any fun p => decide (p.1 = i)) = true
  · constructor
    · rw [keys_pO, if_pos q]; exact h.nd
    · rw [keys_pO, if_pos q]; exact h.lt
  · have hni : i ∉ ow.map (·.1) := fun hm => by
      obtain ⟨p, hp, e⟩ := List.mem_map.mp hm
      exact q (List.any_eq_true.mpr ⟨p, hp, by simp [e]⟩)
    constructor
    · rw [keys_pO, if_neg q, List.nodup_append]
      refine ⟨h.nd, by simp, fun a ha b hb e => ?_⟩
      simp at hb
      subst hb e
      exact hni ha
    · rw [keys_pO, if_neg q]
      intro k hk
      rcases List.mem_append.mp hk with hk | hk
      · exact h.lt k hk
      · simp at hk; omega
theorem gO_put (ow : Ow) (i : Nat) (x : Int) (j : Nat) : gO (pO ow i x) j = if j = i then some x else gO ow j := by
  apply map_int_inj
  rw [← vK_oK, ← pK_oK, vK_put]
  by_cases h : j = i
  · simp [h]
  · have : ¬ (j : Int) = i := by omega
    simp [h, this, vK_oK]
/-- a book that was grown -/
structure Bk.Wf (B : Bk) : Prop where
  ord : B.Ord
  len : B.nms.length = B.stp.length + 1
  n30 : B.nms.length ≤ 30
  nd : ∀ (i : Nat) (L : List Str), B.nms[i]? = some L → L.Nodup ∧ 1 ≤ L.length ∧ L.length ≤ 12
  st : ∀ (i : Nat) (p : Nat × Stp), B.up i = some p → p.2.wf ∧ ∃ L M, B.nms[p.1]? = some L ∧ B.nms[i]? = some M ∧ nbR p.2 L = .ok M
  rc : ∀ r ∈ B.rcs, NdR r.1 ∧ ∃ L, B.nms[0]? = some L ∧ ∀ a, a ∈ nm r.1 ↔ a ∈ L
  ow : ∀ r ∈ B.rcs, OwOk r.2
theorem up0 {B : Bk} {i : Nat} (hi : i ≤ B.stp.length) (h : B.up i = none) : i = 0 := by
  cases i with
  | zero => rfl
  | succ i =>
    have : i < B.stp.length := by omega
    have h : B.stp[i]? = none := h
    rw [List.getElem?_eq_getElem this] at h
    cases h
theorem rd_ok {B : Bk} (hB : B.Wf) {r : Rd × Ow} (hr : NdR r.1 ∧ ∃ L, B.nms[0]? = some L ∧ ∀ a, a ∈ nm r.1 ↔ a ∈ L) : ∀ (i : Nat) (L : List Str), B.nms[i]? = some L → NdR (B.rd r i) ∧ (∀ a, a ∈ nm (B.rd r i) ↔ a ∈ L) ∧ (B.rd r i).length ≤ 12 := by
  intro i
  induction i using Nat.strongRecOn with
  | _ i ih =>
    intro L hL
    have lenOf : ∀ d : Rd, NdR d → (∀ a, a ∈ nm d ↔ a ∈ L) → d.length ≤ 12 := fun d h1 h2 => by
      have := ((List.perm_ext_iff_of_nodup h1 (hB.nd i L hL).1).mpr h2).length_eq
      rw [List.length_map] at this
      have := (hB.nd i L hL).2.2
      omega
    have hil : i < B.nms.length := (List.getElem?_eq_some_iff.mp hL).1
    cases e : B.up i with
    | none =>
      have : i = 0 := up0 (by have := hB.len; omega) e
      subst this
      obtain ⟨h1, L', h2, h3⟩ := hr
      rw [hL] at h2
      cases h2
      rw [rd_none e]
      exact ⟨h1, h3, lenOf _ h1 h3⟩
    | some p =>
      obtain ⟨wf, L1, M, hL1, hM, hnb⟩ := hB.st i p e
      rw [hL] at hM
      cases hM
      obtain ⟨i1, i2, i3⟩ := ih p.1 (up_lt hB.ord e) L1 hL1
      rw [rd_some hB.ord e]
      have h1 : NdR (forthR p.2 (B.rd r p.1) ((ownOf r.2 i p.2).getD 0)) := nd_forth i1
      have h2 : ∀ a, a ∈ nm (forthR p.2 (B.rd r p.1) ((ownOf r.2 i p.2).getD 0)) ↔ a ∈ L := fun a => by
        rw [mem_forth, i2, (nb_mem hnb (hB.nd _ _ hL1).1 wf).2]
      exact ⟨h1, h2, lenOf _ h1 h2⟩
theorem rd_fits {B : Bk} (hB : B.Wf) {r : Rd × Ow} (hr : NdR r.1 ∧ ∃ L, B.nms[0]? = some L ∧ ∀ a, a ∈ nm r.1 ↔ a ∈ L) {i : Nat} {p : Nat × Stp} (e : B.up i = some p) : Fits p.2 (nm (B.rd r p.1)) ∧ NdR (B.rd r p.1) ∧ (B.rd r p.1).length ≤ 12 := by
  obtain ⟨wf, L1, M, hL1, hM, hnb⟩ := hB.st i p e
  obtain ⟨i1, i2, i3⟩ := rd_ok hB hr p.1 L1 hL1
  have := nb_fits hnb wf
  exact ⟨⟨wf, fun a ha => (i2 a).mpr (this.old a ha), fun a ha h => this.new a ha ((i2 a).mp h)⟩, i1, i3⟩
end PB

/-! PN: own, readings, reading, all_readings, run. -/
namespace PB
open PySem L2 Fm
@[simp] theorem e_kG1f {mk mx : M} {sl : List Sl} {kvs : List (Key × F)} {s : Sto} : kG1 mk mx sl (.w (.f (.dct kvs))) s = (mk sl s).bind (kG2 mx (.f (.dct kvs)) sl) := rfl
@[simp] theorem e_kG3f {kvs : List (Key × F)} {i : Int} {sl : List Sl} {y : Y} {s : Sto} : kG3 (.f (.dct kvs)) (.f (.int i)) sl y s = match vK kvs (.inl i) with
        | some x => .ok (.w (.f x)) s
        | none => .ok (.w (frz y)) s := rfl
theorem loopF_nx {i : Nat} {body : MS} {sl sl1 : List Sl} {s s1 : Sto} {x : F} {xs : List F} (h : body (sl.set i (.v (.f x))) s = .nx sl1 s1) : loopF i body (x :: xs) sl s = loopF i body xs sl1 s1 := by
  conv => lhs; unfold loopF
  rw [h]
theorem loopF_ct {i : Nat} {body : MS} {sl sl1 : List Sl} {s s1 : Sto} {x : F} {xs : List F} (h : body (sl.set i (.v (.f x))) s = .ct sl1 s1) : loopF i body (x :: xs) sl s = loopF i body xs sl1 s1 := by
  conv => lhs; unfold loopF
  rw [h]
theorem loopF_app {i : Nat} {body : MS} {sl1 : List Sl} {s1 : Sto} {ys : List F} : ∀ {xs : List F} {sl : List Sl} {s : Sto}, loopF i body xs sl s = .nx sl1 s1 → (∀ x ∈ xs, ∀ (sl : List Sl) (s : Sto) (sl2 : List Sl) (s2 : Sto), body (sl.set i (.v (.f x))) s ≠ .bk sl2 s2) → loopF i body (xs ++ ys) sl s = loopF i body ys sl1 s1
  | [], sl, s, h, _ => by
    have h : RS.nx sl s = .nx sl1 s1 := h
    cases h
    rfl
  | x :: xs, sl, s, h, hb => by
    show loopF i body (x :: (xs ++ ys)) sl s = _
    cases e : body (sl.set i (.v (.f x))) s with
    | nx sl2 s2 => rw [loopF_nx e] at h ⊢; exact loopF_app h fun y hy => hb y (List.mem_cons_of_mem _ hy)
    | ct sl2 s2 => rw [loopF_ct e] at h ⊢; exact loopF_app h fun y hy => hb y (List.mem_cons_of_mem _ hy)
    | bk sl2 s2 => exact absurd e (hb x List.mem_cons_self sl s sl2 s2)
    | rt y s2 => unfold loopF at h; rw [e] at h; cases h
    | exc c sl2 s2 => unfold loopF at h; rw [e] at h; cases h
    | bad => unfold loopF at h; rw [e] at h; cases h
theorem ks_at {B : Bk} {k : Nat} {r : Rd × Ow} (h : B.rcs[k]? = some r) : L2.atI B.ks (k : Int) = some (rF r.1) := by
  obtain ⟨h1, h2⟩ := List.getElem?_eq_some_iff.mp h
  unfold Bk.ks
  rw [Fm.atI_nat (by rw [List.length_map]; exact h1), List.getElem_map, h2]
theorem os_at {B : Bk} {k : Nat} {r : Rd × Ow} (h : B.rcs[k]? = some r) : L2.atI B.os (k : Int) = some (oF r.2) := by
  obtain ⟨h1, h2⟩ := List.getElem?_eq_some_iff.mp h
  unfold Bk.os
  rw [Fm.atI_nat (by rw [List.length_map]; exact h1), List.getElem_map, h2]
theorem Plain.app {post : List Ct} (hp : Plain post) {cs : List Ct} (h : ∀ c ∈ cs, c.ptrs = []) : Plain (post ++ cs) := fun c hc p hpp => by
  rcases List.mem_append.mp hc with q | q
  · have := hp c q p hpp
    rw [List.length_append]
    omega
  · rw [h c q] at hpp
    cases hpp
theorem f_add (c : Str) (n : Int) : (Stp.add c n).f = .tup [.str "add", .str c, .int n] := rfl
theorem f_ne {st : Stp} (h : st.isAdd = false) : ∃ (w : Str) (ps : List F), st.f = .tup (.str w :: ps) ∧ (w = "add") = False := by
  cases st with
  | add c n => cases h
  | drop a => exact ⟨_, _, rfl, by decide⟩
  | name a c => exact ⟨_, _, rfl, by decide⟩
  | shift a n => exact ⟨_, _, rfl, by decide⟩
  | turn a => exact ⟨_, _, rfl, by decide⟩
  | part a c e z => exact ⟨_, _, rfl, by decide⟩
  | join a b c z => exact ⟨_, _, rfl, by decide⟩
section
variable {B : Bk} {post : List Ct} {lk : List W}
theorem r_own (hp : Plain post) {k i : Nat} {r : Rd × Ow} {p : Nat × Stp} (hk : B.rcs[k]? = some r) (hu : B.up i = some p) : p_B_own [.c 0, .f (.int (k : Int)), .f (.int (i : Int))] (bS B post lk) = .ok (.w (.f (ownF (ownOf r.2 i p.2)))) (bS B post lk) := by
  have hs : insOk (bS B post lk) := insOkB hp
  have hw := ws_at hu
  have ho := os_at hk
  refine runA_rt hs ?_
  cases q : p.2.isAdd with
  | true =>
    cases e : p.2 with
    | add c n =>
      rw [e] at hw
      have hv := vK_oK r.2 i
      cases g : gO r.2 i with
      | none => rw [g] at hv; simp [b_B_own, hw, f_add, ho, hv, ownOf, g, ownF]
      | some x => rw [g] at hv; simp [b_B_own, hw, f_add, ho, hv, ownOf, g, ownF]
    | _ => rw [e] at q; cases q
  | false =>
    obtain ⟨w, ps, e, hne⟩ := f_ne q
    rw [e] at hw
    have : ownOf r.2 i p.2 = none := by
      cases e2 : p.2 <;> first | rfl | (rw [e2] at q; cases q)
    rw [this]
    simp [b_B_own, hw, hne, ownF]
/-- the cells of the readings on the way to form i -/
abbrev Bk.cells (B : Bk) (r : Rd × Ow) (i : Nat) : List Ct := (B.line i).map fun j => .dct (rK (B.rd r j))
abbrev bodyR : MS := (sAppC (mVar 3) (mCall p_forth (aCons (mB ixF (mFld "ways" (mVar 0)) (mVar 4)) (aCons (mIxC (mVar 3) (mU negF (mC (.int 1)))) (aCons (mMeth p_B_own "own" (mVar 0) (aCons (mVar 1) (aCons (mVar 4) aNil))) aNil)))))
theorem bodyR_nb (x : F) (sl : List Sl) (s : Sto) (sl' : List Sl) (s' : Sto) : bodyR (sl.set 4 (.v (.f x))) s ≠ .bk sl' s' := by
  have hst : ∀ (r : R Y) (sl : List Sl) (k : Y → Sto → RS), (∀ y s, k y s ≠ .bk sl' s') → r.st sl k ≠ .bk sl' s' := fun r sl k h => by
    cases r with
    | ok y s => exact h y s
    | exc c s => intro q; cases q
    | bad => intro q; cases q
  show sAppC _ _ _ _ ≠ _
  rw [e_sAppC]
  refine hst _ _ _ fun y s => ?_
  unfold kApC1
  split
  · refine hst _ _ _ fun y s => ?_
    unfold kApC2
    split
    · split
      · unfold appC
        split
        · unfold nxP
          split <;> (intro q; cases q)
        · intro q; cases q
      · intro q; cases q
    · intro q; cases q
  · intro q; cases q
theorem readings_loop (hp : Plain post) (hB : B.Wf) {k : Nat} {r : Rd × Ow} (hk : B.rcs[k]? = some r) : ∀ (i : Nat), i ≤ B.stp.length → ∀ (x2 x4 : Sl), ∃ y, loopF 4 bodyR (intL (B.line i).tail) [.v (.c 0), .v (.f (.int (k : Int))), x2, .own (.cls [post.length + 6]), x4] (bS B (post ++ [.dct (rK r.1)]) lk) =
    .nx [.v (.c 0), .v (.f (.int (k : Int))), x2, .own (.cls (List.range' (post.length + 6) (B.line i).length)), y] (bS B (post ++ B.cells r i) lk) := by
  intro i
  induction i using Nat.strongRecOn with
  | _ i ih =>
    intro hi x2 x4
    cases hu : B.up i with
    | none =>
      refine ⟨x4, ?_⟩
      rw [Bk.cells, line_none hu]
      simp only [List.tail_cons, List.map_nil, List.map_cons, List.length_singleton, rd_none hu]
      rfl
    | some p =>
      have hlt := up_lt hB.ord hu
      obtain ⟨y, hy⟩ := ih p.1 hlt (by omega) x2 x4
      obtain ⟨fits, nd, l12⟩ := rd_fits hB (hB.rc r (List.mem_of_getElem? hk)) hu
      have hle := line_some hB.ord hu
      have hne := line_ne B p.1
      have htl : (B.line i).tail = (B.line p.1).tail ++ [i] := by
        rw [hle]
        cases q : B.line p.1 with
        | nil => exact absurd q hne
        | cons a as => rfl
      refine ⟨.v (.f (.int (i : Int))), ?_⟩
      rw [htl, show intL ((B.line p.1).tail ++ [i]) = intL (B.line p.1).tail ++ [.int (i : Int)] by simp, loopF_app hy (fun x _ sl s sl' s' => bodyR_nb x sl s sl' s')]
      have hpl : Plain (post ++ B.cells r p.1) := hp.app fun c hc => by
        obtain ⟨j, _, rfl⟩ := List.mem_map.mp hc
        rfl
      have hs2 : insOk (bS B (post ++ B.cells r p.1) lk) := insOkB hpl
      obtain ⟨n, hn⟩ : ∃ n, (B.line p.1).length = n + 1 := ⟨(B.line p.1).length - 1, by
        have : 0 < (B.line p.1).length := List.length_pos_iff.mpr hne
        omega⟩
      have hnl := line_len B p.1
      have hlast : B.line p.1 = (B.line p.1).dropLast ++ [p.1] := by
        cases hu2 : B.up p.1 with
        | none => rw [line_none hu2]; rfl
        | some p2 => rw [line_some hB.ord hu2]; simp
      have hcell : (bS B (post ++ B.cells r p.1) lk).O[post.length + 6 + n]? = some (.dct (rK (B.rd r p.1))) := by
        rw [show post.length + 6 + n = (post.length + n) + 6 by omega, bSi, List.getElem?_append_right (by omega)]
        rw [show post.length + n - post.length = n by omega, List.getElem?_map]
        have : (B.line p.1)[n]? = some p.1 := by
          rw [hlast, List.getElem?_append_right (by rw [List.length_dropLast]; omega), List.length_dropLast, hn]
          simp
        rw [this]; rfl
      have hw := ws_at hu
      have hown := r_own (lk := lk) hpl hk hu
      have hf := forth_ok hs2 (d := B.rd r p.1) (w := .c (post.length + 6 + n)) (.inr ⟨_, rfl, hcell⟩) (by omega) fits.wf fits.old (own := ownOf r.2 i p.2) (fun h => by
        cases q : p.2 with
        | add c n => rfl
        | _ => rw [q] at h; cases h)
      rw [← rd_some hB.ord hu] at hf
      have hks : List.range' (post.length + 6) (B.line p.1).length = List.range' (post.length + 6) n ++ [post.length + 6 + n] := by
        rw [hn, List.range'_concat]; simp
      have hat : L2.atI (List.range' (post.length + 6) (B.line p.1).length) (-1) = some (post.length + 6 + n) := by
        rw [hks, atI_last]
      have hz : (B.line p.1).length < sizeLine := ltz (show _ ≤ 100 by have := hB.n30; have := hB.len; omega) (by decide)
      have hll : (B.line i).length = (B.line p.1).length + 1 := by rw [hle]; simp
      have hcl : B.cells r i = B.cells r p.1 ++ [.dct (rK (B.rd r i))] := by
        rw [Bk.cells, hle]; simp
      unfold loopF
      have step1 : bodyR [.v (.c 0), .v (.f (.int (k : Int))), x2, .own (.cls (List.range' (post.length + 6) (B.line p.1).length)), .v (.f (.int (i : Int)))] (bS B (post ++ B.cells r p.1) lk) = .nx [.v (.c 0), .v (.f (.int (k : Int))), x2, .own (.cls (List.range' (post.length + 6) (B.line i).length)), .v (.f (.int (i : Int)))] (bS B (post ++ B.cells r i) lk) := by
        have e3 : (mCall p_forth (aCons (mB ixF (mFld "ways" (mVar 0)) (mVar 4)) (aCons (mIxC (mVar 3) (mU negF (mC (.int 1)))) (aCons (mMeth p_B_own "own" (mVar 0) (aCons (mVar 1) (aCons (mVar 4) aNil))) aNil)))) [.v (.c 0), .v (.f (.int (k : Int))), x2, .own (.cls (List.range' (post.length + 6) (B.line p.1).length)), .v (.f (.int (i : Int)))] (bS B (post ++ B.cells r p.1) lk) = .ok (.fr (.dct (rK (B.rd r i)))) (bS B (post ++ B.cells r p.1) lk) := by
          generalize post ++ B.cells r p.1 = P2 at hown hf
          generalize List.range' (post.length + 6) (B.line p.1).length = ks at hat
          have h1 : ∀ (s : Sto), kIxC2 (.o 3) [.v (.c 0), .v (.f (.int (k : Int))), x2, .own (.cls ks), .v (.f (.int (i : Int)))] (.w (.f (.int (-1)))) s = .ok (.w (.c (post.length + 6 + n))) s := fun s => e_kIxC2 (ks := ks) rfl hat
          simp [hw, hown, h1, hf]
        show sAppC _ _ _ _ = _
        rw [e_sAppC]
        simp only [mVar, List.getElem?_cons_succ, List.getElem?_cons_zero, Fm.R.st_ok]
        rw [e_kApC1 (ks := List.range' (post.length + 6) (B.line p.1).length) rfl, e3]
        simp only [Fm.R.st_ok]
        rw [show frz (.w (.o 3)) = .o 3 from rfl, e_kApC2 (ks := List.range' (post.length + 6) (B.line p.1).length) rfl]
        have hlen : (bS B (post ++ B.cells r p.1) lk).O.length = post.length + 6 + (B.line p.1).length := by
          simp; omega
        rw [hlen]
        unfold appC
        rw [if_pos (by rw [List.length_range']; exact hz), hll, List.range'_concat, hcl]
        simp [poke, nxP, bS, bO]
      rw [show ([.v (.c 0), .v (.f (.int (k : Int))), x2, .own (.cls (List.range' (post.length + 6) (B.line p.1).length)), y] : List Sl).set 4 (.v (.f (.int (i : Int)))) = [.v (.c 0), .v (.f (.int (k : Int))), x2, .own (.cls (List.range' (post.length + 6) (B.line p.1).length)), .v (.f (.int (i : Int)))] from rfl, step1]
      rfl
end
end PB

/-! PQ: readings, reading, all_readings, run. -/
namespace PB
open PySem L2 Fm
@[simp] theorem bSf {B : Bk} {post : List Ct} {lk : List W} : Sto.mk (bO B post) lk = bS B post lk := rfl
section
variable {B : Bk} {post : List Ct} {lk : List W} (hp : Plain post) (hB : B.Wf)
include hp hB
theorem r_readings {k i : Nat} {r : Rd × Ow} (hk : B.rcs[k]? = some r) (hi : i ≤ B.stp.length) : p_B_readings [.c 0, .f (.int (k : Int)), .f (.int (i : Int))] (bS B post lk) =
    .ok (.fr (.cls (List.range' (post.length + 6) (B.line i).length))) (bS B (post ++ B.cells r i) lk) := by
  have n30 := hB.n30
  have nlen := hB.len
  have h0 := ks_at hk
  have hp2 : Plain (post ++ [.dct (rK r.1)]) := hp.app fun c hc => by simp at hc; subst hc; rfl
  have hln := r_line (lk := lk) hp2 hB.ord hi (by omega)
  have hll := line_len B i
  obtain ⟨y, hy⟩ := readings_loop (lk := lk) hp hB hk i hi (.v (.f (.int (i : Int)))) .no
  have hct : cutF (intL (B.line i)) (some 1) none = intL (B.line i).tail := by
    have hne : 0 < (B.line i).length := List.length_pos_iff.mpr (line_ne B i)
    have := cut_from (intL (B.line i)) 1 (by rw [List.length_map]; omega)
    rw [show ((1 : Nat) : Int) = 1 from rfl] at this
    rw [this]
    cases B.line i with
    | nil => rfl
    | cons a as => rfl
  show runB 5 b_B_readings _ _ = _
  unfold runB
  have : b_B_readings (slots 5 [.c 0, .f (.int (k : Int)), .f (.int (i : Int))]) (bS B post lk) = .rt (.fr (.cls (List.range' (post.length + 6) (B.line i).length))) (bS B (post ++ B.cells r i) lk) := by
    obtain ⟨rr, hr⟩ : ∃ rr, b_B_readings (slots 5 [.c 0, .f (.int (k : Int)), .f (.int (i : Int))]) (bS B post lk) = rr := ⟨_, rfl⟩
    rw [hr]
    unfold b_B_readings at hr
    replace hr := stepS hr (s' := bS B (post ++ [.dct (rK r.1)]) lk) (sl' := [.v (.c 0), .v (.f (.int (k : Int))), .v (.f (.int (i : Int))), .own (.cls [post.length + 6]), .no]) (by simp [h0])
    replace hr := stepS hr (s' := bS B (post ++ B.cells r i) lk) (sl' := [.v (.c 0), .v (.f (.int (k : Int))), .v (.f (.int (i : Int))), .own (.cls (List.range' (post.length + 6) (B.line i).length)), y]) (by
      rw [e_sFor]
      have e1 : iL (mSl slF (mMeth p_B_line "line" (mVar 0) (aCons (mVar 2) aNil)) (some (mC (.int 1))) none) [.v (.c 0), .v (.f (.int (k : Int))), .v (.f (.int (i : Int))), .own (.cls [post.length + 6]), .no] (bS B (post ++ [.dct (rK r.1)]) lk) = .ok (intL (B.line i).tail) (bS B (post ++ [.dct (rK r.1)]) lk) := by
        simp [hln, hct]
      rw [e1]
      exact hy)
    rw [← hr]
    simp
  rw [this]
theorem r_reading {k i : Nat} {r : Rd × Ow} (hk : B.rcs[k]? = some r) (hi : i ≤ B.stp.length) : p_B_reading [.c 0, .f (.int (k : Int)), .f (.int (i : Int))] (bS B post lk) = .ok (.fr (.dct (rK (B.rd r i)))) (bS B post lk) := by
  have hs : insOk (bS B post lk) := insOkB hp
  have n30 := hB.n30
  have nlen := hB.len
  have hkl : k < B.rcs.length := (List.getElem?_eq_some_iff.mp hk).1
  have hnr := r_need_record hp (B := B) (lk := lk) (.int (k : Int))
  rw [if_pos (by simp [formOk, hkl])] at hnr
  have hnf := r_need_form hp (B := B) (lk := lk) (.int (i : Int))
  rw [if_pos (by simp [formOk]; omega)] at hnf
  have hrd := r_readings (lk := lk) hp hB hk hi
  obtain ⟨n, hn⟩ : ∃ n, (B.line i).length = n + 1 := ⟨(B.line i).length - 1, by
    have : 0 < (B.line i).length := List.length_pos_iff.mpr (line_ne B i)
    omega⟩
  have hlast : B.line i = (B.line i).dropLast ++ [i] := by
    cases hu2 : B.up i with
    | none => rw [line_none hu2]; rfl
    | some p2 => rw [line_some hB.ord hu2]; simp
  have hks : List.range' (post.length + 6) (B.line i).length = List.range' (post.length + 6) n ++ [post.length + 6 + n] := by
    rw [hn, List.range'_concat]; simp
  have hat : L2.atI (List.range' (post.length + 6) (B.line i).length) (-1) = some (post.length + 6 + n) := by
    rw [hks, atI_last]
  have hcell : (post ++ B.cells r i)[post.length + n]? = some (.dct (rK (B.rd r i))) := by
    rw [List.getElem?_append_right (by omega), show post.length + n - post.length = n by omega, List.getElem?_map]
    have : (B.line i)[n]? = some i := by
      rw [hlast, List.getElem?_append_right (by rw [List.length_dropLast]; omega), List.length_dropLast, hn]
      simp
    rw [this]; rfl
  obtain ⟨rr, hr, he⟩ := run_of 3 b_B_reading [.c 0, .f (.int (k : Int)), .f (.int (i : Int))] (bS B post lk)
  show runA 3 b_B_reading _ _ = _
  rw [he]
  clear he
  unfold b_B_reading at hr
  replace hr := step hr (sl' := [.v (.c 0), .v (.f (.int (k : Int))), .v (.f (.int (i : Int)))]) (by simp [hnr])
  replace hr := step hr (sl' := [.v (.c 0), .v (.f (.int (k : Int))), .v (.f (.int (i : Int)))]) (by simp [hnf])
  generalize hP : post ++ B.cells r i = P2 at hrd hcell
  generalize List.range' (post.length + 6) (B.line i).length = ks at hat hrd
  have hcell2 : ∀ Z : List Ct, (bO B (P2 ++ Z))[post.length + 6 + n]? = some (.dct (rK (B.rd r i))) := fun Z => by
    rw [show post.length + 6 + n = (post.length + n) + 6 by omega]
    show (P2 ++ Z)[post.length + n]? = _
    rw [List.getElem?_append_left (List.getElem?_eq_some_iff.mp hcell).1]
    exact hcell
  have h1 : kIxC2 (.c (P2.length + 6)) [.v (.c 0), .v (.f (.int (k : Int))), .v (.f (.int (i : Int)))] (.w (.f (.int (-1)))) (bS B (P2 ++ [.cls ks]) lk) = .ok (.w (.c (post.length + 6 + n))) (bS B (P2 ++ [.cls ks]) lk) := e_kIxC2 (ks := ks) (by
    show (match (bS B (P2 ++ [.cls ks]) lk).O[P2.length + 6]? with
      | some (.cls ks) => some ks
      | _ => none) = _
    rw [bSi, List.getElem?_append_right (Nat.le_refl _)]
    simp) hat
  have e1 : mIxC (mMeth p_B_readings "readings" (mVar 0) (aCons (mVar 1) (aCons (mVar 2) aNil))) (mU negF (mC (.int 1))) [.v (.c 0), .v (.f (.int (k : Int))), .v (.f (.int (i : Int)))] (bS B post lk) = .ok (.w (.c (post.length + 6 + n))) (bS B (P2 ++ [.cls ks]) lk) := by
    rw [e_mIxC]
    have e2 : mMeth p_B_readings "readings" (mVar 0) (aCons (mVar 1) (aCons (mVar 2) aNil)) [.v (.c 0), .v (.f (.int (k : Int))), .v (.f (.int (i : Int)))] (bS B post lk) = .ok (.fr (.cls ks)) (bS B P2 lk) := by
      simp [hrd]
    rw [e2]
    simp only [Fm.R.bind_ok]
    rw [e_kIxC1]
    show (mU negF (mC (.int 1)) _ (bS B (P2 ++ [.cls ks]) lk)).bind (kIxC2 (.c (P2.length + 6)) _) = _
    simp [h1]
  have hrr : rr = .rt (.w (.c (post.length + 6 + n))) (bS B (P2 ++ [.cls ks]) lk) := by
    rw [← hr]
    simp only [sRet]
    rw [e1]
    simp
  rw [hrr]
  subst hP
  have hb := bOkB (B := B) (B' := B) (lk := lk) (lk' := lk) (post' := B.cells r i ++ [.cls ks]) hp
  have hbk := backB (B := B) (B' := B) (post := post) (lk := lk) (lk' := lk) (post' := B.cells r i ++ [.cls ks])
  rw [← List.append_assoc] at hb hbk
  have hc3 := hcell2 [.cls ks]
  have hc3 : (bS B (post ++ B.cells r i ++ [.cls ks]) lk).O[post.length + 6 + n]? = some (.dct (rK (B.rd r i))) := hc3
  have hnl : ¬ post.length + 6 + n < (bS B post lk).O.length := by simp
  simp only [outA, hb, if_true, hbk, hc3, hnl, if_false]
theorem r_reading_norec {x y : F} (h : formOk B.rcs.length x = false) : p_B_reading [.c 0, .f x, .f y] (bS B post lk) = .exc "NoRecord" (bS B post lk) := by
  have hs : insOk (bS B post lk) := insOkB hp
  have hnr := r_need_record hp (B := B) (lk := lk) x
  rw [if_neg (by rw [h]; simp)] at hnr
  obtain ⟨rr, hr, he⟩ := run_of 3 b_B_reading [.c 0, .f x, .f y] (bS B post lk)
  show runA 3 b_B_reading _ _ = _
  rw [he, stepx hr (sl' := [.v (.c 0), .v (.f x), .v (.f y)]) (s' := bS B post lk) (c := "NoRecord") (by simp [hnr]), outA_exc hs]
theorem r_reading_noform {x y : F} (h : formOk B.rcs.length x = true) (h2 : formOk B.nms.length y = false) : p_B_reading [.c 0, .f x, .f y] (bS B post lk) = .exc "NoForm" (bS B post lk) := by
  have hs : insOk (bS B post lk) := insOkB hp
  have hnr := r_need_record hp (B := B) (lk := lk) x
  rw [if_pos h] at hnr
  have hnf := r_need_form hp (B := B) (lk := lk) y
  rw [if_neg (by rw [h2]; simp)] at hnf
  obtain ⟨rr, hr, he⟩ := run_of 3 b_B_reading [.c 0, .f x, .f y] (bS B post lk)
  show runA 3 b_B_reading _ _ = _
  rw [he]
  unfold b_B_reading at hr
  replace hr := step hr (sl' := [.v (.c 0), .v (.f x), .v (.f y)]) (by simp [hnr])
  rw [stepx hr (sl' := [.v (.c 0), .v (.f x), .v (.f y)]) (s' := bS B post lk) (c := "NoForm") (by simp [hnf]), outA_exc hs]
/-- all readings of a record -/
abbrev Bk.all (B : Bk) (r : Rd × Ow) (n : Nat) : List F := (List.range n).map fun j => rF (B.rd r j)
theorem r_all {k : Nat} {r : Rd × Ow} (hk : B.rcs[k]? = some r) : p_B_all_readings [.c 0, .f (.int (k : Int))] (bS B post lk) = .ok (.fr (.lst (B.all r B.nms.length))) (bS B post lk) := by
  have hs : insOk (bS B post lk) := insOkB hp
  have n30 := hB.n30
  have nlen := hB.len
  have z1 : 1 ≤ sizeLine := by decide
  have h0 := ks_at hk
  have hrc := hB.rc r (List.mem_of_getElem? hk)
  obtain ⟨rr, hr, he⟩ := run_of 4 b_B_all_readings [.c 0, .f (.int (k : Int))] (bS B post lk)
  show runA 4 b_B_all_readings _ _ = _
  rw [he]
  clear he
  unfold b_B_all_readings at hr
  have hu0 : B.up 0 = none := rfl
  replace hr := step hr (sl' := [.v (.c 0), .v (.f (.int (k : Int))), .own (.lst (B.all r 1)), .no]) (by
    have e1 : B.all r 1 = [rF r.1] := by show [rF (B.rd r 0)] = _; rw [rd_none hu0]
    rw [e1]
    simp [h0, z1])
  obtain ⟨sl', lp, x3, rfl⟩ := loop_from (i := 3) (s := bS B post lk) (a := 1) (n := B.stp.length) (body := (sAppL (mVar 2) (mCall p_forth (aCons (mB ixF (mFld "ways" (mVar 0)) (mVar 3)) (aCons (mB ixF (mVar 2) (mB ixF (mFld "elders" (mVar 0)) (mVar 3))) (aCons (mMeth p_B_own "own" (mVar 0) (aCons (mVar 1) (aCons (mVar 3) aNil))) aNil))))))
    (P := fun j sl => ∃ x3, sl = [.v (.c 0), .v (.f (.int (k : Int))), .own (.lst (B.all r (j + 1))), x3]) B.stp.length 0 [.v (.c 0), .v (.f (.int (k : Int))), .own (.lst (B.all r 1)), .no] (by omega) ⟨_, rfl⟩ (fun j hj sl ⟨x3, e⟩ => by
      subst e
      obtain ⟨p, hu⟩ : ∃ p, B.up (j + 1) = some p := ⟨_, List.getElem?_eq_getElem hj⟩
      have hlt := up_lt hB.ord hu
      obtain ⟨fits, nd, l12⟩ := rd_fits hB hrc hu
      have e1 : (1 : Int) + (j : Int) = ((j + 1 : Nat) : Int) := by omega
      rw [e1]
      refine ⟨_, ?_, .v (.f (.int ((j + 1 : Nat) : Int))), rfl⟩
      have hw := ws_at hu
      have hes := es_at (B := B) (i := j + 1) (by omega)
      rw [hu] at hes
      simp only at hes
      have hown := r_own (lk := lk) hp hk hu
      have hf := forth_ok hs (d := B.rd r p.1) (w := .f (rF (B.rd r p.1))) (.inl rfl) (by omega) fits.wf fits.old (own := ownOf r.2 (j + 1) p.2) (fun h => by
        cases q : p.2 with
        | add c n => rfl
        | _ => rw [q] at h; cases h)
      rw [← rd_some hB.ord hu] at hf
      have hat : L2.atI (B.all r (j + 1)) (p.1 : Int) = some (rF (B.rd r p.1)) := by
        rw [Fm.atI_nat (by simpa using hlt)]
        simp
      have hz : (B.all r (j + 1)).length < sizeLine := ltz (show _ ≤ 100 by simp; omega) (by decide)
      have hall : B.all r (j + 1 + 1) = B.all r (j + 1) ++ [rF (B.rd r (j + 1))] := by
        simp [Bk.all, List.range_succ]
      rw [hall]
      generalize B.all r (j + 1) = A at hat hz
      generalize ((j + 1 : Nat) : Int) = jj at hw hes hown
      simp [hw, hes, hown, hat, hf, hz])
  have ha : inB 1 = true := by decide
  have hb : inB (B.nms.length : Int) = true := inB_of2 (by omega)
  have hrg : rgF 1 1 ((B.nms.length : Int) - 1).toNat = (List.range' 0 B.stp.length).map fun (k : Nat) => F.int (1 + k) := by
    unfold rgF
    rw [show ((B.nms.length : Int) - 1).toNat = B.stp.length by omega, List.range_eq_range']
    exact List.map_congr_left fun k _ => by rw [Int.mul_one]
  replace hr := step hr (sl' := [.v (.c 0), .v (.f (.int (k : Int))), .own (.lst (B.all r (B.stp.length + 1))), x3]) (by
    rw [e_sFor]
    have e1 : iR2 (mC (.int 1)) (mN lenF (aCons (mFld "lists" (mVar 0)) aNil)) [.v (.c 0), .v (.f (.int (k : Int))), .own (.lst (B.all r 1)), .no] (bS B post lk) = .ok ((List.range' 0 B.stp.length).map fun (k : Nat) => F.int (1 + k)) (bS B post lk) := by
      have hrg2 : rgF 1 1 (B.nms.length - 1) = (List.range' 0 B.stp.length).map fun (k : Nat) => F.int (1 + k) := by
        rw [← hrg]; congr 1; omega
      simp [ha, hb, hrg2]
    rw [e1]
    exact lp)
  rw [← hr, nlen]
  simp [outA, bOk_self hs, back_self, Ct.ptrs]
end
end PB

/-! PR: changed, run. -/
namespace PB
open PySem L2 Fm
/-- numbers handed in -/
abbrev Nu := List (Str × F)
abbrev nK (l : Nu) : List (Key × F) := l.map fun p => (sk p.1, p.2)
abbrev nF (l : Nu) : F := .dct (nK l)
theorem nm_re {d : Rd} {a : Str} (h : a ∈ nm d) (i : Int) : nm (pR d a i) = nm d := by
  unfold pR
  rw [if_pos (by rw [List.any_eq_true]; obtain ⟨p, hp, e⟩ := List.mem_map.mp h; exact ⟨p, hp, by simp [e]⟩)]
  unfold nm
  rw [List.map_map]
  apply List.map_congr_left
  intro p _
  simp only [Function.comp]
  split
  · rfl
  · rfl
theorem len_re {d : Rd} {a : Str} (h : a ∈ nm d) (i : Int) : (pR d a i).length = d.length := by
  have := congrArg List.length (nm_re h i)
  simpa using this
def chR (d : Rd) : Nu → Except Str Rd
  | [] => .ok d
  | (a, .int i) :: r => chR (pR d a i) r
  | _ :: _ => .error "BadNumber"
/-- a reading with new numbers -/
def changedR (d : Rd) (l : Nu) : Except Str Rd := if (l.all fun p => decide (p.1 ∈ nm d)) = false then .error "NoField" else chR d l
def runR (r : Except Str Rd) (s : Sto) : R Y := match r with
  | .ok M => .ok (.fr (.dct (rK M))) s
  | .error c => .exc c s
theorem keysF_nK (l : Nu) : keysF (nK l) = l.map fun p => F.str p.1 := by
  simp [keysF, List.map_map, kF]
section
variable {B : Bk} {post : List Ct}
abbrev bodyC : MS := (sSeq (sIf (mNot (mCall p_is_number (aCons (mB dgetF (mVar 3) (mVar 5)) aNil))) (sRaise "BadNumber") sSkip) (sPutD (mVar 4) (mVar 5) (mB dgetF (mVar 3) (mVar 5))))
theorem ch_loop {s : Sto} (hs : insOk s) {x0 x1 x2 : Sl} {l : Nu} : ∀ (r : Nu) (d : Rd) (x5 : Sl), (∀ p ∈ r, vK (nK l) (sk p.1) = some p.2) → (∀ p ∈ r, p.1 ∈ nm d) → d.length ≤ 100 →
    (∀ e, chR d r = .ok e → ∃ y, loopF 5 bodyC (r.map fun p => F.str p.1) [x0, x1, x2, .v (.f (nF l)), .own (.dct (rK d)), x5] s = .nx [x0, x1, x2, .v (.f (nF l)), .own (.dct (rK e)), y] s) ∧
    (∀ c, chR d r = .error c → ∃ sl, loopF 5 bodyC (r.map fun p => F.str p.1) [x0, x1, x2, .v (.f (nF l)), .own (.dct (rK d)), x5] s = .exc c sl s)
  | [], d, x5, _, _, _ => ⟨fun e h => by cases h; exact ⟨x5, rfl⟩, fun c h => by cases h⟩
  | (a, x) :: r, d, x5, hv, hm, hl => by
    have hva := hv (a, x) List.mem_cons_self
    have hma := hm (a, x) List.mem_cons_self
    have hn := r_is_number hs x
    have hz : d.length < sizeLine := ltz hl (by decide)
    rw [List.map_cons]
    simp only at hva hma ⊢
    generalize hkv : nK l = kvs at hva
    by_cases q : ∃ i, x = .int i
    · obtain ⟨i, rfl⟩ := q
      have ih := ch_loop hs (x0 := x0) (x1 := x1) (x2 := x2) (l := l) r (pR d a i) (.v (.f (.str a))) (fun p hp => hv p (List.mem_cons_of_mem _ hp)) (fun p hp => by
        rw [nm_re hma]; exact hm p (List.mem_cons_of_mem _ hp)) (by rw [len_re hma]; exact hl)
      have b1 : bodyC (([x0, x1, x2, .v (.f (nF l)), .own (.dct (rK d)), x5] : List Sl).set 5 (.v (.f (.str a)))) s = .nx [x0, x1, x2, .v (.f (nF l)), .own (.dct (rK (pR d a i))), .v (.f (.str a))] s := by
        show bodyC [x0, x1, x2, .v (.f (.dct (nK l))), .own (.dct (rK d)), .v (.f (.str a))] s = .nx [x0, x1, x2, .v (.f (.dct (nK l))), .own (.dct (rK (pR d a i))), .v (.f (.str a))] s
        rw [hkv]
        simp [hva, hn, isNum, hz]
      rw [loopF_nx b1]
      exact ih
    · have e1 : chR d ((a, x) :: r) = .error "BadNumber" := by
        cases x <;> first | rfl | exact absurd ⟨_, rfl⟩ q
      have n1 : isNum x = false := by
        cases x <;> first | rfl | exact absurd ⟨_, rfl⟩ q
      refine ⟨fun e h => by (rw [e1] at h; cases h), fun c h => ?_⟩
      rw [e1] at h
      cases h
      have b1 : bodyC (([x0, x1, x2, .v (.f (nF l)), .own (.dct (rK d)), x5] : List Sl).set 5 (.v (.f (.str a)))) s = .exc "BadNumber" [x0, x1, x2, .v (.f (nF l)), .own (.dct (rK d)), .v (.f (.str a))] s := by
        show bodyC [x0, x1, x2, .v (.f (.dct (nK l))), .own (.dct (rK d)), .v (.f (.str a))] s = .exc "BadNumber" [x0, x1, x2, .v (.f (.dct (nK l))), .own (.dct (rK d)), .v (.f (.str a))] s
        rw [hkv]
        simp [hva, hn, n1]
      refine ⟨[x0, x1, x2, .v (.f (nF l)), .own (.dct (rK d)), .v (.f (.str a))], ?_⟩
      conv => lhs; unfold loopF
      rw [b1]
variable (hp : Plain post) (hB : B.Wf)
include hp hB
theorem r_changed {k i : Nat} {r : Rd × Ow} (hk : B.rcs[k]? = some r) (hi : i ≤ B.stp.length) {l : Nu} (hl : ∀ p ∈ l, vK (nK l) (sk p.1) = some p.2) :
    p_B_changed [.c 0, .f (.int (k : Int)), .f (.int (i : Int)), .f (nF l)] (bS B post []) = runR (changedR (B.rd r i) l) (bS B post []) := by
  have hs : insOk (bS B post []) := insOkB hp
  have hs2 : insOk (bS B post [.f (nF l)]) := insOkB hp
  have hrd := r_reading (lk := []) hp hB hk hi
  have nlen := hB.len
  obtain ⟨L, hL⟩ : ∃ L, B.nms[i]? = some L := ⟨_, List.getElem?_eq_getElem (by omega)⟩
  obtain ⟨nd, mem, l12⟩ := rd_ok hB (hB.rc r (List.mem_of_getElem? hk)) i L hL
  generalize B.rd r i = d at hrd nd mem l12
  obtain ⟨rr, hr, he⟩ := run_of 6 b_B_changed [.c 0, .f (.int (k : Int)), .f (.int (i : Int)), .f (nF l)] (bS B post [])
  show runA 6 b_B_changed _ _ = _
  rw [he]
  clear he
  unfold b_B_changed at hr
  replace hr := step hr (sl' := [.v (.c 0), .v (.f (.int (k : Int))), .v (.f (.int (i : Int))), .v (.f (nF l)), .own (.dct (rK d)), .no]) (by simp [hrd])
  have dw : ∀ x5, dW (mVar 3) [.v (.c 0), .v (.f (.int (k : Int))), .v (.f (.int (i : Int))), .v (.f (nF l)), .own (.dct (rK d)), x5] (bS B post []) = .ok (.f (nF l), nK l) (bS B post []) := fun x5 => dW_eq (y := .w (.f (nF l))) (by simp) (by simp) rfl
  rcases loopF_exc (i := 5) (s := bS B post [.f (nF l)]) (c := "NoField") (body := sIf (mB dninF (mVar 5) (mVar 4)) (sRaise "NoField") sSkip) (p := fun x => match x with
      | .str a => decide (a ∈ nm d)
      | _ => true) (P := fun sl => ∃ x, sl = [.v (.c 0), .v (.f (.int (k : Int))), .v (.f (.int (i : Int))), .v (.f (nF l)), .own (.dct (rK d)), x]) (l.map fun p => F.str p.1) [.v (.c 0), .v (.f (.int (k : Int))), .v (.f (.int (i : Int))), .v (.f (nF l)), .own (.dct (rK d)), .no] ⟨_, rfl⟩ (fun x hx sl ⟨y, e⟩ => by
      subst e
      obtain ⟨p, hpl, rfl⟩ := List.mem_map.mp hx
      by_cases q : p.1 ∈ nm d
      · have g := gR_v q
        rw [if_pos (by simp [q])]
        exact ⟨[.v (.c 0), .v (.f (.int (k : Int))), .v (.f (.int (i : Int))), .v (.f (nF l)), .own (.dct (rK d)), .v (.f (.str p.1))], by simp [g], _, rfl⟩
      · have g := gR_no q
        rw [if_neg (by simp [q])]
        exact ⟨[.v (.c 0), .v (.f (.int (k : Int))), .v (.f (.int (i : Int))), .v (.f (nF l)), .own (.dct (rK d)), .v (.f (.str p.1))], by simp [g]⟩) with ⟨a1, sl1, l1, x5, rfl⟩ | ⟨a1, sl1, l1⟩
  case inr =>
    have e : changedR d l = .error "NoField" := by
      unfold changedR
      rw [if_pos]
      rw [List.all_map] at a1
      exact a1
    rw [e, stepx hr (sl' := sl1) (s' := bS B post []) (c := "NoField") (by
      rw [e_sForD, dw]
      simp only [Fm.R.st_ok, e_kFD, keysF_nK]
      show (loopF _ _ _ _ (bS B post [.f (nF l)])).unl = _
      rw [l1]
      rfl), outA_exc hs]
    rfl
  replace hr := step hr (sl' := [.v (.c 0), .v (.f (.int (k : Int))), .v (.f (.int (i : Int))), .v (.f (nF l)), .own (.dct (rK d)), x5]) (by
    rw [e_sForD, dw]
    simp only [Fm.R.st_ok, e_kFD, keysF_nK]
    show (loopF _ _ _ _ (bS B post [.f (nF l)])).unl = _
    rw [l1]
    rfl)
  rw [List.all_map] at a1
  have hmem : ∀ p ∈ l, p.1 ∈ nm d := fun p hpl => by
    have := List.all_eq_true.mp a1 p hpl
    simpa using this
  have e : changedR d l = chR d l := by
    unfold changedR
    rw [if_neg]
    rw [Bool.not_eq_false, List.all_eq_true]
    intro p hpl
    exact decide_eq_true (hmem p hpl)
  rw [e]
  have cl := ch_loop hs2 (x0 := .v (.c 0)) (x1 := .v (.f (.int (k : Int)))) (x2 := .v (.f (.int (i : Int)))) (l := l) l d x5 hl hmem (by omega)
  cases q : chR d l with
  | ok e =>
    obtain ⟨y, hy⟩ := cl.1 e q
    replace hr := step hr (sl' := [.v (.c 0), .v (.f (.int (k : Int))), .v (.f (.int (i : Int))), .v (.f (nF l)), .own (.dct (rK e)), y]) (by
      rw [e_sForD, dw]
      simp only [Fm.R.st_ok, e_kFD, keysF_nK]
      show (loopF _ _ _ _ (bS B post [.f (nF l)])).unl = _
      rw [hy]
      rfl)
    rw [← hr]
    simp [runR, outA, bOk_self hs, back_self, Ct.ptrs]
  | error c =>
    obtain ⟨sl, hy⟩ := cl.2 c q
    rw [stepx hr (sl' := sl) (s' := bS B post []) (c := c) (by
      rw [e_sForD, dw]
      simp only [Fm.R.st_ok, e_kFD, keysF_nK]
      show (loopF _ _ _ _ (bS B post [.f (nF l)])).unl = _
      rw [hy]
      rfl), outA_exc hs]
    rfl
end
end PB

/-! PS: change, run. -/
namespace PB
open PySem L2 Fm
def ownP (st : Stp) (ow : Ow) (i : Nat) (now : Rd) : Ow := match st with
  | .add c _ => pO ow i (vR now c)
  | _ => ow
/-- led back from form i to the first one -/
def Bk.dn (B : Bk) (r : Rd × Ow) : Nat → Nat → Rd → Ow → Option (Rd × Ow)
  | 0, _, now, ow => some (now, ow)
  | f + 1, i, now, ow => match B.up i with
    | none => some (now, ow)
    | some p => match backR p.2 now (B.rd r p.1) with
      | none => none
      | some now' => B.dn r f p.1 now' (ownP p.2 ow i now)
theorem dn_eq {B : Bk} (hB : B.Ord) (r : Rd × Ow) : ∀ (f g i : Nat) (now : Rd) (ow : Ow), i ≤ f → i ≤ g → B.dn r f i now ow = B.dn r g i now ow
  | 0, 0, i, _, _, _, _ => rfl
  | 0, g + 1, i, _, _, h, _ => by
    have : i = 0 := by omega
    subst this
    rfl
  | f + 1, 0, i, _, _, _, h => by
    have : i = 0 := by omega
    subst this
    rfl
  | f + 1, g + 1, i, now, ow, h1, h2 => by
    unfold Bk.dn
    cases e : B.up i with
    | none => rfl
    | some p =>
      have := up_lt hB e
      simp only
      cases backR p.2 now (B.rd r p.1) with
      | none => rfl
      | some now' => exact dn_eq hB r f g p.1 _ _ (by omega) (by omega)
def Bk.back (B : Bk) (r : Rd × Ow) (i : Nat) (now : Rd) (ow : Ow) : Option (Rd × Ow) := B.dn r i i now ow
theorem back_none' {B : Bk} {r : Rd × Ow} {i : Nat} {now : Rd} {ow : Ow} (h : B.up i = none) : B.back r i now ow = some (now, ow) := by
  unfold Bk.back
  cases i with
  | zero => rfl
  | succ i => unfold Bk.dn; rw [h]
theorem back_some' {B : Bk} (hB : B.Ord) {r : Rd × Ow} {i : Nat} {now : Rd} {ow : Ow} {p : Nat × Stp} (h : B.up i = some p) : B.back r i now ow = match backR p.2 now (B.rd r p.1) with
      | none => none
      | some now' => B.back r p.1 now' (ownP p.2 ow i now) := by
  have hl := up_lt hB h
  unfold Bk.back
  cases i with
  | zero => cases h
  | succ i =>
    conv => lhs; unfold Bk.dn
    rw [h]
    simp only
    cases backR p.2 now (B.rd r p.1) with
    | none => rfl
    | some now' => exact dn_eq hB r _ _ _ _ _ (by omega) (Nat.le_refl _)
/-- a reading of the names of form i -/
structure Like (d e : Rd) : Prop where
  nd : NdR d
  mem : ∀ a, a ∈ nm d ↔ a ∈ nm e
theorem like_back {B : Bk} (hB : B.Wf) {r : Rd × Ow} (hr : NdR r.1 ∧ ∃ L, B.nms[0]? = some L ∧ ∀ a, a ∈ nm r.1 ↔ a ∈ L) {i : Nat} {p : Nat × Stp} (hu : B.up i = some p) {now now' : Rd} (h : Like now (B.rd r i)) (hb : backR p.2 now (B.rd r p.1) = some now') : Like now' (B.rd r p.1) := by
  obtain ⟨fits, nd, _⟩ := rd_fits hB hr hu
  refine ⟨nd_back hb h.nd, fun x => ?_⟩
  rw [mem_back hb, h.mem, rd_some hB.ord hu, mem_forth]
  have h1 := fits.old x
  have h2 := fits.new x
  grind
theorem Like.len {d e : Rd} (h : Like d e) (he : NdR e) : d.length = e.length := h.nd.len he h.mem
theorem rgF_down (j : Nat) : rgF ((j + 1 : Nat) : Int) (-1) (j + 1) = .int ((j + 1 : Nat) : Int) :: rgF (j : Int) (-1) j := by
  unfold rgF
  rw [List.range_succ_eq_map, List.map_cons, List.map_map]
  congr 1
  apply List.map_congr_left
  intro k _
  simp only [Function.comp]
  congr 1
  omega
abbrev bodyD : MS := (sSeq (sSet 11 (mB ixF (mFld "ways" (mVar 0)) (mB ixF (mVar 5) (mVar 8)))) (sSeq (sIf (mB eqF (mB ixF (mVar 11) (mC (.int 0))) (mC (.str "add"))) (sPutD (mVar 7) (mB ixF (mVar 5) (mVar 8)) (mB dgetF (mVar 4) (mB ixF (mVar 11) (mC (.int 1))))) sSkip) (sSet 4 (mCall p_back (aCons (mVar 11) (aCons (mVar 4) (aCons (mIxC (mVar 6) (mB subF (mVar 8) (mC (.int 1)))) aNil)))))))
theorem line_last {B : Bk} (hB : B.Ord) (i : Nat) : ∃ l, B.line i = l ++ [i] ∧ l.length + 1 = (B.line i).length := by
  cases hu : B.up i with
  | none => exact ⟨[], by rw [line_none hu]; rfl, by rw [line_none hu]; rfl⟩
  | some p => exact ⟨B.line p.1, line_some hB hu, by rw [line_some hB hu]; simp⟩
section
variable {B : Bk} {post : List Ct} (hp : Plain post) (hB : B.Wf)
include hp hB
theorem change_loop {r : Rd × Ow} (hr : NdR r.1 ∧ ∃ L, B.nms[0]? = some L ∧ ∀ a, a ∈ nm r.1 ↔ a ∈ L) {x1 x2 x3 : Sl} : ∀ (i : Nat), i ≤ B.stp.length → ∀ (Z : List Nat) (now : Rd) (ow : Ow) (x8 x11 : Sl), slNoOwn (some x8) = true → Like now (B.rd r i) → OwOk ow → (B.line i ++ Z).length ≤ 40 →
    (∀ now' ow', B.back r i now ow = some (now', ow') → (Like now' r.1 ∧ OwOk ow') ∧ ∃ y8 y11, slNoOwn (some y8) = true ∧ loopF 8 bodyD (rgF (((B.line i).length - 1 : Nat) : Int) (-1) ((B.line i).length - 1)) [.v (.c 0), x1, x2, x3, .v (.f (rF now)), .v (.f (.lst (intL (B.line i ++ Z)))), .own (.cls (List.range' (post.length + 6) (B.line i ++ Z).length)), .own (.dct (oK ow)), x8, .no, .no, x11] (bS B (post ++ (B.line i ++ Z).map fun j => .dct (rK (B.rd r j))) []) =
      .nx [.v (.c 0), x1, x2, x3, .v (.f (rF now')), .v (.f (.lst (intL (B.line i ++ Z)))), .own (.cls (List.range' (post.length + 6) (B.line i ++ Z).length)), .own (.dct (oK ow')), y8, .no, .no, y11] (bS B (post ++ (B.line i ++ Z).map fun j => .dct (rK (B.rd r j))) [])) ∧
    (B.back r i now ow = none → ∃ sl, loopF 8 bodyD (rgF (((B.line i).length - 1 : Nat) : Int) (-1) ((B.line i).length - 1)) [.v (.c 0), x1, x2, x3, .v (.f (rF now)), .v (.f (.lst (intL (B.line i ++ Z)))), .own (.cls (List.range' (post.length + 6) (B.line i ++ Z).length)), .own (.dct (oK ow)), x8, .no, .no, x11] (bS B (post ++ (B.line i ++ Z).map fun j => .dct (rK (B.rd r j))) []) =
      .exc "BadNumber" sl (bS B (post ++ (B.line i ++ Z).map fun j => .dct (rK (B.rd r j))) [])) := by
  intro i
  induction i using Nat.strongRecOn with
  | _ i ih =>
    intro hi Z now ow x8 x11 hx8 hlk hoo hlen
    cases hu : B.up i with
    | none =>
      have hi0 := up0 hi hu
      rw [line_none hu, back_none' hu]
      refine ⟨fun now' ow' h => ?_, fun h => by cases h⟩
      cases h
      refine ⟨⟨?_, hoo⟩, x8, x11, hx8, rfl⟩
      rw [rd_none hu] at hlk
      exact hlk
    | some p =>
      have hlt := up_lt hB.ord hu
      obtain ⟨fits, nd, l12⟩ := rd_fits hB hr hu
      have hle := line_some hB.ord hu
      obtain ⟨l, hl1, hl2⟩ := line_last hB.ord p.1
      have hi30 : i < 30 := by have := hB.n30; have := hB.len; omega
      have hLL : (B.line i).length - 1 = l.length + 1 := by rw [hle, List.length_append]; simp; omega
      have hLp : (B.line p.1).length - 1 = l.length := by omega
      have hzz : B.line i ++ Z = B.line p.1 ++ ([i] ++ Z) := by rw [hle, List.append_assoc]
      rw [hLL, rgF_down]
      have ihp := ih p.1 hlt (by omega) ([i] ++ Z)
      rw [← hzz, hLp] at ihp
      have hl40 := hlen
      have at1 : L2.atI (intL (B.line i ++ Z)) ((l.length + 1 : Nat) : Int) = some (.int (i : Int)) := by
        have hlt2 : l.length + 1 < (intL (B.line i ++ Z)).length := by
          rw [List.length_map, hzz]; simp; omega
        rw [Fm.atI_nat hlt2]
        have : (B.line i ++ Z)[l.length + 1]? = some i := by
          rw [hzz, List.getElem?_append_right (by omega), hl2]
          simp
        congr 1
        rw [List.getElem_map]
        congr 2
        have h2 := List.getElem?_eq_some_iff.mp this
        exact h2.2
      have hcell : (post ++ (B.line i ++ Z).map fun j => Ct.dct (rK (B.rd r j)))[post.length + l.length]? = some (.dct (rK (B.rd r p.1))) := by
        rw [List.getElem?_append_right (by omega), show post.length + l.length - post.length = l.length by omega, List.getElem?_map]
        have : (B.line i ++ Z)[l.length]? = some p.1 := by
          rw [hzz, hl1, List.append_assoc, List.getElem?_append_right (Nat.le_refl _)]
          simp
        rw [this]; rfl
      have hks : L2.atI (List.range' (post.length + 6) (B.line i ++ Z).length) ((l.length : Nat) : Int) = some (post.length + 6 + l.length) := by
        rw [Fm.atI_nat (by rw [List.length_range', hzz]; simp; omega)]
        simp
      have hpl : Plain (post ++ (B.line i ++ Z).map fun j => Ct.dct (rK (B.rd r j))) := hp.app fun c hc => by
        obtain ⟨j, _, rfl⟩ := List.mem_map.mp hc
        rfl
      have hw := ws_at hu
      have hfn : ∀ a ∈ p.2.new, a ∈ nm now := fun a ha => by
        rw [hlk.mem, rd_some hB.ord hu, mem_forth]
        exact .inr ha
      have hnl : now.length ≤ 1000 := by
        have hL' : ∃ M, B.nms[i]? = some M := ⟨_, List.getElem?_eq_getElem (by have := hB.len; omega)⟩
        obtain ⟨M, hM⟩ := hL'
        have h1 := rd_ok hB hr i M hM
        rw [hlk.len h1.1]
        omega
      generalize (B.line i ++ Z) = Lf at *
      generalize hP : (post ++ Lf.map fun j => Ct.dct (rK (B.rd r j))) = P2 at *
      generalize hK : List.range' (post.length + 6) Lf.length = ks at *
      have hs2 : insOk (bS B P2 []) := insOkB hpl
      have hcell2 : (bS B P2 []).O[post.length + 6 + l.length]? = some (.dct (rK (B.rd r p.1))) := by
        rw [show post.length + 6 + l.length = (post.length + l.length) + 6 by omega, bSi]
        exact hcell
      have bok := back_ok hs2 (d := now) (e := B.rd r p.1) (w := .f (rF now)) (w2 := .c (post.length + 6 + l.length)) (.inl rfl) (.inr ⟨_, rfl, hcell2⟩) hnl fits.wf hfn fits.old
      have h1 : ∀ (a b c : Sl), kIxC2 (.o 6) [.v (.c 0), x1, x2, x3, .v (.f (rF now)), .v (.f (.lst (intL Lf))), .own (.cls ks), a, b, .no, .no, c] (.w (.f (.int (((l.length + 1 : Nat) : Int) - 1)))) (bS B P2 []) = .ok (.w (.c (post.length + 6 + l.length))) (bS B P2 []) := fun a b c => by
        rw [show (((l.length + 1 : Nat) : Int) - 1) = ((l.length : Nat) : Int) by omega]
        exact e_kIxC2 (ks := ks) rfl hks
      generalize hj : ((l.length + 1 : Nat) : Int) = jj at *
      have hoz : ow.length < sizeLine := ltz hoo.len (by decide)
      have e1 : bodyD [.v (.c 0), x1, x2, x3, .v (.f (rF now)), .v (.f (.lst (intL Lf))), .own (.cls ks), .own (.dct (oK ow)), .v (.f (.int jj)), .no, .no, x11] (bS B P2 []) = (sSet 4 (mCall p_back (aCons (mVar 11) (aCons (mVar 4) (aCons (mIxC (mVar 6) (mB subF (mVar 8) (mC (.int 1)))) aNil))))) [.v (.c 0), x1, x2, x3, .v (.f (rF now)), .v (.f (.lst (intL Lf))), .own (.cls ks), .own (.dct (oK (ownP p.2 ow i now))), .v (.f (.int jj)), .no, .no, .v (.f p.2.f)] (bS B P2 []) := by
        cases q : p.2.isAdd with
        | true =>
          cases e : p.2 with
          | add c n =>
            rw [e] at hw hfn
            have hc := gR_v (hfn c (by simp [Stp.new]))
            generalize intL Lf = LL at at1
            simp [hw, at1, f_add, hc, hoz, pK_oK, ownP]
          | _ => rw [e] at q; cases q
        | false =>
          obtain ⟨w, ps, e, hne⟩ := f_ne q
          have : ownP p.2 ow i now = ow := by
            cases e2 : p.2 <;> first | rfl | (rw [e2] at q; cases q)
          rw [this, e]
          rw [e] at hw
          generalize intL Lf = LL at at1
          simp [hw, at1, hne]
      have hset : ([.v (.c 0), x1, x2, x3, .v (.f (rF now)), .v (.f (.lst (intL Lf))), .own (.cls ks), .own (.dct (oK ow)), x8, .no, .no, x11] : List Sl).set 8 (.v (.f (.int jj))) = [.v (.c 0), x1, x2, x3, .v (.f (rF now)), .v (.f (.lst (intL Lf))), .own (.cls ks), .own (.dct (oK ow)), .v (.f (.int jj)), .no, .no, x11] := rfl
      have hoo' : OwOk (ownP p.2 ow i now) := by
        unfold ownP
        split
        · exact hoo.put hi30 _
        · exact hoo
      rw [back_some' hB.ord hu]
      cases hb : backR p.2 now (B.rd r p.1) with
      | none =>
        refine ⟨fun now' ow' h => (by cases h), fun _ => ?_⟩
        have hb2 := bok.2 hb
        have b1 : bodyD (([.v (.c 0), x1, x2, x3, .v (.f (rF now)), .v (.f (.lst (intL Lf))), .own (.cls ks), .own (.dct (oK ow)), x8, .no, .no, x11] : List Sl).set 8 (.v (.f (.int jj)))) (bS B P2 []) = .exc "BadNumber" [.v (.c 0), x1, x2, x3, .v (.f (rF now)), .v (.f (.lst (intL Lf))), .own (.cls ks), .own (.dct (oK (ownP p.2 ow i now))), .v (.f (.int jj)), .no, .no, .v (.f p.2.f)] (bS B P2 []) := by
          rw [hset, e1]
          simp [h1, hb2]
        refine ⟨[.v (.c 0), x1, x2, x3, .v (.f (rF now)), .v (.f (.lst (intL Lf))), .own (.cls ks), .own (.dct (oK (ownP p.2 ow i now))), .v (.f (.int jj)), .no, .no, .v (.f p.2.f)], ?_⟩
        conv => lhs; unfold loopF
        rw [b1]
      | some now1 =>
        have hb2 := bok.1 _ hb
        have b1 : bodyD (([.v (.c 0), x1, x2, x3, .v (.f (rF now)), .v (.f (.lst (intL Lf))), .own (.cls ks), .own (.dct (oK ow)), x8, .no, .no, x11] : List Sl).set 8 (.v (.f (.int jj)))) (bS B P2 []) = .nx [.v (.c 0), x1, x2, x3, .v (.f (rF now1)), .v (.f (.lst (intL Lf))), .own (.cls ks), .own (.dct (oK (ownP p.2 ow i now))), .v (.f (.int jj)), .no, .no, .v (.f p.2.f)] (bS B P2 []) := by
          rw [hset, e1]
          simp [h1, hb2]
        rw [loopF_nx b1]
        exact ihp now1 (ownP p.2 ow i now) _ _ rfl (like_back hB hr hu hlk hb) hoo' hl40
end
/-- record k is another one -/
def Bk.setR (B : Bk) (k : Nat) (r : Rd × Ow) : Bk := ⟨B.nms, B.stp, B.rcs.set k r⟩
theorem rd_setR (B : Bk) (k : Nat) (r q : Rd × Ow) (i : Nat) : (B.setR k r).rd q i = B.rd q i := by
  have : ∀ f i, (B.setR k r).rdF q f i = B.rdF q f i := by
    intro f
    induction f with
    | zero => intro i; rfl
    | succ f ih =>
      intro i
      unfold Bk.rdF
      have hu : (B.setR k r).up i = B.up i := by cases i <;> rfl
      rw [hu]
      cases B.up i with
      | none => rfl
      | some p => simp only [ih]
  exact this i i
theorem Bk.Wf.setR {B : Bk} (hB : B.Wf) {k : Nat} {r : Rd × Ow} (h : NdR r.1 ∧ ∃ L, B.nms[0]? = some L ∧ ∀ a, a ∈ nm r.1 ↔ a ∈ L) (ho : OwOk r.2) : (B.setR k r).Wf where
  ord := hB.ord
  len := hB.len
  n30 := hB.n30
  nd := hB.nd
  st := fun i p hu => hB.st i p (by rw [← hu]; cases i <;> rfl)
  rc := fun q hq => by
    rcases List.mem_or_eq_of_mem_set hq with hq | rfl
    · exact hB.rc q hq
    · exact h
  ow := fun q hq => by
    rcases List.mem_or_eq_of_mem_set hq with hq | rfl
    · exact hB.ow q hq
    · exact ho
theorem set_r (B : Bk) (k : Nat) (r : Rd × Ow) (post : List Ct) (lk : List W) : bS (B.setR k r) post lk = rS B.ls B.es B.ws (B.ks.set k (rF r.1)) (B.os.set k (oF r.2)) post lk := by
  rw [bS_r]
  simp [Bk.ls, Bk.es, Bk.ws, Bk.ks, Bk.os, Bk.setR, List.map_set]
/-- the forms that read otherwise -/
def Bk.diff (B : Bk) (r q : Rd × Ow) : List Nat := (List.range B.nms.length).filter fun j => !eqRb (B.rd q j) (B.rd r j)
theorem chR_like {l : Nu} : ∀ {d e : Rd}, chR d l = .ok e → (∀ p ∈ l, p.1 ∈ nm d) → NdR d → Like e d := by
  induction l with
  | nil => intro d e h _ hn; cases h; exact ⟨hn, fun _ => .rfl⟩
  | cons p l ih =>
    intro d e h hm hn
    obtain ⟨a, x⟩ := p
    have ha := hm (a, x) List.mem_cons_self
    cases x with
    | int i =>
      have := ih (d := pR d a i) h (fun p hp => by rw [nm_re ha]; exact hm p (List.mem_cons_of_mem _ hp)) (hn.put _ _)
      refine ⟨this.nd, fun b => ?_⟩
      rw [this.mem, nm_re ha]
    | _ => cases h
theorem changed_like {d e : Rd} {l : Nu} (h : changedR d l = .ok e) (hn : NdR d) : Like e d := by
  unfold changedR at h
  split at h
  · cases h
  · rename_i q
    exact chR_like h (fun p hp => by
      have := List.all_eq_true.mp (Bool.not_eq_false _ ▸ q) p hp
      simpa using this) hn
theorem ixN_nat {n k : Nat} (h : k < n) : L2.ixN n (k : Int) = some k := by
  unfold L2.ixN
  have h1 : (0 : Int) ≤ k := by omega
  have h2 : (k : Int) < n := by omega
  simp [h1, h2, h]
theorem small_dn : ∀ n : Nat, n < 60 → ((-1 : Int) ≠ 0 ∧ (-1 : Int).natAbs < 1073741824 ∧ Builtin.Range.small (n : Int) 0 (-1) = true ∧ 0 ≤ Builtin.Range.rangeSize (n : Int) 0 (-1)) ∧ (Builtin.Range.rangeSize (n : Int) 0 (-1)).toNat = n := by decide +kernel
theorem iR3_ok {a b c : M} {sl : List Sl} {s : Sto} {i j k : Int} (ha : a sl s = .ok (.w (.f (.int i))) s) (hb : b sl s = .ok (.w (.f (.int j))) s) (hc : c sl s = .ok (.w (.f (.int k))) s) (g : k ≠ 0 ∧ k.natAbs < 1073741824 ∧ Builtin.Range.small i j k = true ∧ 0 ≤ Builtin.Range.rangeSize i j k) : iR3 a b c sl s = .ok (rgF i k (Builtin.Range.rangeSize i j k).toNat) s := by
  unfold iR3
  rw [ha]
  simp only [Fm.R.bind_ok]
  rw [hb]
  simp only [Fm.R.bind_ok]
  rw [hc]
  simp only [Fm.R.bind_ok, frz]
  exact if_pos g
section
variable {B : Bk} {post : List Ct} (hp : Plain post) (hB : B.Wf)
include hp hB
theorem r_change_err {k i : Nat} {r : Rd × Ow} (hk : B.rcs[k]? = some r) (hi : i ≤ B.stp.length) {l : Nu} (hl : ∀ p ∈ l, vK (nK l) (sk p.1) = some p.2) {c : Str} (h : changedR (B.rd r i) l = .error c) :
    p_B_change [.c 0, .f (.int (k : Int)), .f (.int (i : Int)), .f (nF l)] (bS B post []) = .exc c (bS B post []) := by
  have hs : insOk (bS B post []) := insOkB hp
  have hch := r_changed hp hB hk hi hl
  rw [h] at hch
  obtain ⟨rr, hr, he⟩ := run_of 12 b_B_change [.c 0, .f (.int (k : Int)), .f (.int (i : Int)), .f (nF l)] (bS B post [])
  show runA 12 b_B_change _ _ = _
  rw [he, stepx hr (sl' := [.v (.c 0), .v (.f (.int (k : Int))), .v (.f (.int (i : Int))), .v (.f (nF l)), .no, .no, .no, .no, .no, .no, .no, .no]) (s' := bS B post []) (c := c) (by simp [hch, runR]), outA_exc hs]
theorem r_change {k i : Nat} {r : Rd × Ow} (hk : B.rcs[k]? = some r) (hi : i ≤ B.stp.length) {l : Nu} (hl : ∀ p ∈ l, vK (nK l) (sk p.1) = some p.2) {now : Rd} (h : changedR (B.rd r i) l = .ok now) :
    (B.back r i now r.2 = none → p_B_change [.c 0, .f (.int (k : Int)), .f (.int (i : Int)), .f (nF l)] (bS B post []) = .exc "BadNumber" (bS B post [])) ∧
    (∀ q, B.back r i now r.2 = some q → (B.setR k q).Wf ∧ p_B_change [.c 0, .f (.int (k : Int)), .f (.int (i : Int)), .f (nF l)] (bS B post []) = .ok (.fr (.lst (intL (B.diff r q)))) (bS (B.setR k q) post [])) := by
  have hs : insOk (bS B post []) := insOkB hp
  have nlen := hB.len
  have n30 := hB.n30
  have hrc := hB.rc r (List.mem_of_getElem? hk)
  have hkl : k < B.rcs.length := (List.getElem?_eq_some_iff.mp hk).1
  have hch := r_changed hp hB hk hi hl
  rw [h] at hch
  obtain ⟨L, hL⟩ : ∃ L, B.nms[i]? = some L := ⟨_, List.getElem?_eq_getElem (by omega)⟩
  obtain ⟨nd, mem, l12⟩ := rd_ok hB hrc i L hL
  have lik := changed_like h nd
  have hln := r_line (lk := []) hp hB.ord hi (by omega)
  have hrd := r_readings (lk := []) hp hB hk hi
  have hll := line_len B i
  have hos := os_at hk
  have hcl := change_loop hp hB hrc (x1 := .v (.f (.int (k : Int)))) (x2 := .v (.f (.int (i : Int)))) (x3 := .v (.f (nF l))) i hi [] now r.2 .no .no rfl lik (hB.ow r (List.mem_of_getElem? hk)) (by rw [List.append_nil]; omega)
  rw [List.append_nil] at hcl
  have hpl : Plain (post ++ B.cells r i) := hp.app fun c hc => by
    obtain ⟨j, _, rfl⟩ := List.mem_map.mp hc
    rfl
  have hcells : (post ++ (B.line i).map fun j => Ct.dct (rK (B.rd r j))) = post ++ B.cells r i := rfl
  rw [hcells] at hcl
  generalize hP : post ++ B.cells r i = P2 at *
  generalize hK : List.range' (post.length + 6) (B.line i).length = ks at *
  obtain ⟨n, hn⟩ : ∃ n, (B.line i).length = n + 1 := ⟨(B.line i).length - 1, by
    have : 0 < (B.line i).length := List.length_pos_iff.mpr (line_ne B i)
    omega⟩
  rw [hn, Nat.add_sub_cancel] at hcl
  obtain ⟨sm1, sm2⟩ := small_dn n (by omega)
  obtain ⟨rr, hr, he⟩ := run_of 12 b_B_change [.c 0, .f (.int (k : Int)), .f (.int (i : Int)), .f (nF l)] (bS B post [])
  have he : p_B_change [.c 0, .f (.int (k : Int)), .f (.int (i : Int)), .f (nF l)] (bS B post []) = outA (bS B post []) rr := he
  rw [he]
  clear he
  unfold b_B_change at hr
  replace hr := step hr (sl' := [.v (.c 0), .v (.f (.int (k : Int))), .v (.f (.int (i : Int))), .v (.f (nF l)), .v (.f (rF now)), .no, .no, .no, .no, .no, .no, .no]) (by simp [hch, runR])
  replace hr := step hr (sl' := [.v (.c 0), .v (.f (.int (k : Int))), .v (.f (.int (i : Int))), .v (.f (nF l)), .v (.f (rF now)), .v (.f (.lst (intL (B.line i)))), .no, .no, .no, .no, .no, .no]) (by simp [hln])
  replace hr := stepS hr (s' := bS B P2 []) (sl' := [.v (.c 0), .v (.f (.int (k : Int))), .v (.f (.int (i : Int))), .v (.f (nF l)), .v (.f (rF now)), .v (.f (.lst (intL (B.line i)))), .own (.cls ks), .no, .no, .no, .no, .no]) (by simp [hrd])
  replace hr := step hr (sl' := [.v (.c 0), .v (.f (.int (k : Int))), .v (.f (.int (i : Int))), .v (.f (nF l)), .v (.f (rF now)), .v (.f (.lst (intL (B.line i)))), .own (.cls ks), .own (.dct (oK r.2)), .no, .no, .no, .no]) (by simp [hos])
  have hit : iR3 (mB subF (mN lenF (aCons (mVar 5) aNil)) (mC (.int 1))) (mC (.int 0)) (mU negF (mC (.int 1))) [.v (.c 0), .v (.f (.int (k : Int))), .v (.f (.int (i : Int))), .v (.f (nF l)), .v (.f (rF now)), .v (.f (.lst (intL (B.line i)))), .own (.cls ks), .own (.dct (oK r.2)), .no, .no, .no, .no] (bS B P2 []) = .ok (rgF (n : Int) (-1) n) (bS B P2 []) := by
    have e1 : ((n : Int) + 1 - 1) = (n : Int) := by omega
    have := iR3_ok (a := mB subF (mN lenF (aCons (mVar 5) aNil)) (mC (.int 1))) (b := mC (.int 0)) (c := mU negF (mC (.int 1))) (sl := [.v (.c 0), .v (.f (.int (k : Int))), .v (.f (.int (i : Int))), .v (.f (nF l)), .v (.f (rF now)), .v (.f (.lst (intL (B.line i)))), .own (.cls ks), .own (.dct (oK r.2)), .no, .no, .no, .no]) (s := bS B P2 []) (i := (n : Int)) (j := 0) (k := -1) (by simp [hn]) rfl (by simp) sm1
    rw [sm2] at this
    exact this
  constructor
  · intro hb
    obtain ⟨sl, hlp⟩ := hcl.2 hb
    rw [stepx hr (sl' := sl) (s' := bS B P2 []) (c := "BadNumber") (by
      rw [e_sFor, hit]
      exact hlp)]
    have hb := bOkB (B := B) (B' := B) (lk := []) (lk' := []) (post' := B.cells r i) hp
    have hbk := backB (B := B) (B' := B) (post := post) (lk := []) (lk' := []) (post' := B.cells r i)
    rw [hP] at hb hbk
    simp only [outA, hb, if_true, hbk]
  · intro q hb
    obtain ⟨q1, q2⟩ := q
    obtain ⟨⟨lk1, ook⟩, y8, y11, hy8, hlp⟩ := hcl.1 q1 q2 hb
    have hrc' : NdR q1 ∧ ∃ L, B.nms[0]? = some L ∧ ∀ a, a ∈ nm q1 ↔ a ∈ L := by
      obtain ⟨h1, L, h2, h3⟩ := hrc
      exact ⟨lk1.nd, L, h2, fun a => by rw [lk1.mem, h3]⟩
    have hW : (B.setR k (q1, q2)).Wf := hB.setR hrc' ook
    refine ⟨hW, ?_⟩
    replace hr := step hr (sl' := [.v (.c 0), .v (.f (.int (k : Int))), .v (.f (.int (i : Int))), .v (.f (nF l)), .v (.f (rF q1)), .v (.f (.lst (intL (B.line i)))), .own (.cls ks), .own (.dct (oK q2)), y8, .no, .no, y11]) (by
      rw [e_sFor, hit]
      exact hlp)
    have hall := r_all (lk := []) hpl hB hk
    have hall2 := r_all (lk := []) hpl hW (k := k) (r := (q1, q2)) (by
      show (B.rcs.set k (q1, q2))[k]? = _
      rw [List.getElem?_set_self hkl])
    replace hr := step hr (sl' := [.v (.c 0), .v (.f (.int (k : Int))), .v (.f (.int (i : Int))), .v (.f (nF l)), .v (.f (rF q1)), .v (.f (.lst (intL (B.line i)))), .own (.cls ks), .v (.f (oF q2)), y8, .no, .no, y11]) (by simp)
    replace hr := step hr (sl' := [.v (.c 0), .v (.f (.int (k : Int))), .v (.f (.int (i : Int))), .v (.f (nF l)), .v (.f (rF q1)), .v (.f (.lst (intL (B.line i)))), .own (.cls ks), .v (.f (oF q2)), y8, .v (.f (.lst (B.all r B.nms.length))), .no, y11]) (by simp [hall])
    rw [bS_r] at hr
    have kl1 : B.ks.length = B.rcs.length := ksN B
    have kl2 : B.os.length = B.rcs.length := by simp [Bk.os]
    have ix1 : L2.ixN B.rcs.length (k : Int) = some k := ixN_nat hkl
    replace hr := stepS hr (s' := rS B.ls B.es B.ws (B.ks.set k (rF q1)) B.os P2 []) (sl' := [.v (.c 0), .v (.f (.int (k : Int))), .v (.f (.int (i : Int))), .v (.f (nF l)), .v (.f (rF q1)), .v (.f (.lst (intL (B.line i)))), .own (.cls ks), .v (.f (oF q2)), y8, .v (.f (.lst (B.all r B.nms.length))), .no, y11]) (by simp [kl1, ix1])
    replace hr := stepS hr (s' := bS (B.setR k (q1, q2)) P2 []) (sl' := [.v (.c 0), .v (.f (.int (k : Int))), .v (.f (.int (i : Int))), .v (.f (nF l)), .v (.f (rF q1)), .v (.f (.lst (intL (B.line i)))), .own (.cls ks), .v (.f (oF q2)), y8, .v (.f (.lst (B.all r B.nms.length))), .no, y11]) (by rw [set_r]; simp [kl2, ix1])
    have eall : (B.setR k (q1, q2)).all (q1, q2) (B.setR k (q1, q2)).nms.length = B.all (q1, q2) B.nms.length := by
      unfold Bk.all
      exact List.map_congr_left fun j _ => by rw [rd_setR]
    rw [eall] at hall2
    replace hr := step hr (sl' := [.v (.c 0), .v (.f (.int (k : Int))), .v (.f (.int (i : Int))), .v (.f (nF l)), .v (.f (rF q1)), .v (.f (.lst (intL (B.line i)))), .own (.cls ks), .v (.f (oF q2)), y8, .v (.f (.lst (B.all r B.nms.length))), .v (.f (.lst (B.all (q1, q2) B.nms.length))), y11]) (by simp [hall2])
    have hnB : inB (B.nms.length : Int) = true := inB_of2 (by omega)
    have hat : ∀ (x : Rd × Ow) (j : Nat), j < B.nms.length → L2.atI (B.all x B.nms.length) (j : Int) = some (rF (B.rd x j)) := fun x j hj => by
      rw [Fm.atI_nat (by simpa using hj)]
      simp
    have lal : ∀ x, (B.all x B.nms.length).length = B.nms.length := fun x => by simp
    have lc : mLc 8 (iR1 (mN lenF (aCons (mVar 10) aNil))) (mB neF (mB ixF (mVar 10) (mVar 8)) (mB ixF (mVar 9) (mVar 8))) (mVar 8) [.v (.c 0), .v (.f (.int (k : Int))), .v (.f (.int (i : Int))), .v (.f (nF l)), .v (.f (rF q1)), .v (.f (.lst (intL (B.line i)))), .own (.cls ks), .v (.f (oF q2)), y8, .v (.f (.lst (B.all r B.nms.length))), .v (.f (.lst (B.all (q1, q2) B.nms.length))), y11] (bS (B.setR k (q1, q2)) P2 []) = .ok (.fr (.lst (intL (B.diff r (q1, q2))))) (bS (B.setR k (q1, q2)) P2 []) := by
      refine mLc_eq (s1 := bS (B.setR k (q1, q2)) P2 []) (xs := rgF 0 1 B.nms.length) hy8 (by simp [lal, hnB]) ?_ (Nat.le_trans (show _ ≤ 30 by
        rw [List.length_map]
        exact Nat.le_trans (List.length_filter_le _ _) (by simp; omega)) (by decide))
      have := compF_pure (i := 8) (t := mB neF (mB ixF (mVar 10) (mVar 8)) (mB ixF (mVar 9) (mVar 8))) (e := mVar 8) (s := bS (B.setR k (q1, q2)) P2 []) (sl := [.v (.c 0), .v (.f (.int (k : Int))), .v (.f (.int (i : Int))), .v (.f (nF l)), .v (.f (rF q1)), .v (.f (.lst (intL (B.line i)))), .own (.cls ks), .v (.f (oF q2)), .no, .v (.f (.lst (B.all r B.nms.length))), .v (.f (.lst (B.all (q1, q2) B.nms.length))), y11]) (p := fun x => match x with
          | .int j => !eqRb (B.rd (q1, q2) j.toNat) (B.rd r j.toNat)
          | _ => true) (f := id) (rgF 0 1 B.nms.length) (fun x hx => by
          obtain ⟨j, hj, rfl⟩ := rgF_mem hx
          have a1 := hat r j hj
          have a2 := hat (q1, q2) j hj
          simp only [Int.zero_add, Int.toNat_natCast]
          generalize B.all r B.nms.length = A1 at a1
          generalize B.all (q1, q2) B.nms.length = A2 at a2
          simp [a1, a2]) (fun x hx _ => by
          obtain ⟨j, hj, rfl⟩ := rgF_mem hx
          exact ⟨_, rfl, rfl⟩)
      show compF 8 _ _ _ _ _ = _
      refine this.trans ?_
      congr 1
      unfold Bk.diff rgF intL
      rw [List.map_id, List.filter_map]
      rw [show (fun (k : Nat) => F.int (0 + (k : Int) * 1)) = fun (k : Nat) => F.int (k : Int) by funext j; simp]
      try congr 1
      try (apply List.filter_congr; intro j _; simp)
    have hrr : rr = .rt (.fr (.lst (intL (B.diff r (q1, q2))))) (bS (B.setR k (q1, q2)) P2 []) := by
      rw [← hr]
      simp [lc]
    rw [hrr]
    have hb := bOkB (B := B) (B' := B.setR k (q1, q2)) (lk := []) (lk' := []) (post' := B.cells r i) hp
    have hbk := backB (B := B) (B' := B.setR k (q1, q2)) (post := post) (lk := []) (lk' := []) (post' := B.cells r i)
    rw [hP] at hb hbk
    simp [outA, hb, hbk, Ct.ptrs]
end
end PB

/-! PT: books grown stay so. -/
namespace PB
open PySem L2 Fm
theorem new_wf {L : List Str} (hn : L.Nodup) (h1 : 1 ≤ L.length) (h2 : L.length ≤ 12) : (newBk L).Wf where
  ord := fun i p h => by cases h
  len := rfl
  n30 := by simp [newBk]
  nd := fun i M h => by
    cases i with
    | zero => cases h; exact ⟨hn, h1, h2⟩
    | succ i => cases h
  st := fun i p h => by
    cases i with
    | zero => cases h
    | succ i => cases h
  rc := fun r h => by cases h
  ow := fun r h => by cases h
theorem nm_zero (L : List Str) : nm (zeroR L) = L := by
  unfold nm zeroR
  rw [List.map_map]
  exact List.map_id L
theorem Bk.Wf.make {B : Bk} (hB : B.Wf) {L : List Str} (h0 : B.nms[0]? = some L) : (B.make L).Wf where
  ord := hB.ord
  len := hB.len
  n30 := hB.n30
  nd := hB.nd
  st := fun i p hu => hB.st i p (by rw [← hu]; cases i <;> rfl)
  rc := fun q hq => by
    rcases List.mem_append.mp hq with hq | hq
    · exact hB.rc q hq
    · simp at hq
      subst hq
      exact ⟨by rw [NdR, nm_zero]; exact (hB.nd 0 L h0).1, L, h0, fun a => by rw [nm_zero]⟩
  ow := fun q hq => by
    rcases List.mem_append.mp hq with hq | hq
    · exact hB.ow q hq
    · simp at hq
      subst hq
      exact .nil
theorem up_grow {B : Bk} {i : Nat} {st : Stp} {M : List Str} {j : Nat} : (B.grow i st M).up j = if j = B.stp.length + 1 then some (i, st) else B.up j := by
  cases j with
  | zero => rfl
  | succ j =>
    show (B.stp ++ [(i, st)])[j]? = _
    by_cases h : j < B.stp.length
    · rw [List.getElem?_append_left h, if_neg (by omega)]; rfl
    · rw [List.getElem?_append_right (by omega)]
      by_cases h2 : j = B.stp.length
      · subst h2; simp
      · rw [if_neg (by omega), List.getElem?_eq_none (by simp; omega)]
        show none = B.stp[j]?
        rw [List.getElem?_eq_none (by omega)]
theorem Bk.Wf.grow {B : Bk} (hB : B.Wf) {i : Nat} {st : Stp} {L M : List Str} (hi : B.nms[i]? = some L) (wf : st.wf) (hnb : nbR st L = .ok M) (h30 : B.nms.length < 30) : (B.grow i st M).Wf := by
  have hil : i < B.nms.length := (List.getElem?_eq_some_iff.mp hi).1
  have hlen := hB.len
  have nm1 : ∀ (j : Nat) (X : List Str), B.nms[j]? = some X → (B.grow i st M).nms[j]? = some X := fun j X h => by
    show (B.nms ++ [M])[j]? = _
    rw [List.getElem?_append_left (List.getElem?_eq_some_iff.mp h).1]; exact h
  refine ⟨fun j p h => ?_, ?_, ?_, fun j X h => ?_, fun j p hu => ?_, fun r hr => ?_, hB.ow⟩
  · have h : (B.stp ++ [(i, st)])[j]? = some p := h
    by_cases hj : j < B.stp.length
    · rw [List.getElem?_append_left hj] at h
      exact hB.ord j p h
    · rw [List.getElem?_append_right (by omega)] at h
      have hj2 : j - B.stp.length = 0 := by
        by_cases q : j - B.stp.length = 0
        · exact q
        · rw [List.getElem?_eq_none (by simp; omega)] at h; cases h
      rw [hj2] at h
      cases h
      show i ≤ j
      omega
  · show (B.nms ++ [M]).length = (B.stp ++ [(i, st)]).length + 1
    simp [hlen]
  · show (B.nms ++ [M]).length ≤ 30
    simp; omega
  · have h : (B.nms ++ [M])[j]? = some X := h
    by_cases hj : j < B.nms.length
    · rw [List.getElem?_append_left hj] at h
      exact hB.nd j X h
    · rw [List.getElem?_append_right (by omega)] at h
      have hj2 : j - B.nms.length = 0 := by
        by_cases q : j - B.nms.length = 0
        · exact q
        · rw [List.getElem?_eq_none (by simp; omega)] at h; cases h
      rw [hj2] at h
      cases h
      have h1 := nb_mem hnb (hB.nd i L hi).1 wf
      have h2 := nbR_ok hnb
      exact ⟨h1.1, h2.2.2.1, h2.2.2.2.1⟩
  · rw [up_grow] at hu
    split at hu
    · rename_i q
      cases hu
      refine ⟨wf, L, M, nm1 i L hi, ?_, hnb⟩
      rw [q]
      show (B.nms ++ [M])[B.stp.length + 1]? = some M
      rw [← hlen]
      simp
    · obtain ⟨w, X, Y, h1, h2, h3⟩ := hB.st j p hu
      exact ⟨w, X, Y, nm1 _ _ h1, nm1 _ _ h2, h3⟩
  · obtain ⟨h1, X, h2, h3⟩ := hB.rc r hr
    exact ⟨h1, X, nm1 _ _ h2, h3⟩
theorem nb_turn {a : Str} {L : List Str} (ha : a ∈ L) (h2 : L.length ≤ 12) : nbR (.turn a) L = .ok L := by
  have e : nbF (.turn a) L = L := by
    unfold nbF
    have : (L.flatMap fun x => if (Stp.turn a).old.head? = some x then (Stp.turn a).new else if x ∈ (Stp.turn a).old then [] else [x]) = L := by
      clear ha h2
      induction L with
      | nil => rfl
      | cons x L ih =>
        rw [List.flatMap_cons, ih]
        by_cases q : a = x
        · simp [Stp.old, Stp.new, q]
        · have : ¬ x = a := fun z => q z.symm
          simp [Stp.old, q, this]
    rw [this]
    simp [Stp.old]
  have h1 : 1 ≤ L.length := List.length_pos_iff.mpr (fun h => by rw [h] at ha; cases ha)
  unfold nbR
  rw [if_neg (by simp [Stp.old, ha]), if_neg, if_neg, e]
  · rw [e]; omega
  · rw [Bool.not_eq_false, List.all_eq_true]
    intro x _
    by_cases q : x = a <;> simp [Stp.old, Stp.new, q]
end PB

/-! PU: a change is read; a change to what is read changes nothing. -/
namespace PB
open PySem L2 Fm
theorem vR_congr {d e : Rd} (h : EqR d e) (a : Str) : vR d a = vR e a := by unfold vR; rw [h a]
theorem EqR.put {d e : Rd} (h : EqR d e) (a : Str) (i : Int) : EqR (pR d a i) (pR e a i) := fun x => by rw [gR_put, gR_put, h x]
theorem EqR.drp {d e : Rd} (h : EqR d e) (a : Str) : EqR (dR d a) (dR e a) := fun x => by rw [gR_drp, gR_drp, h x]
theorem forth_congr {st : Stp} {d e : Rd} (h : EqR d e) (n : Int) : EqR (forthR st d n) (forthR st e n) := by
  have v := vR_congr h
  cases st <;> simp only [forthR, v]
  · exact h.put _ _
  · exact h.drp _
  · exact (h.drp _).put _ _
  · exact (h.drp _).put _ _
  · exact (h.drp _).put _ _
  · exact ((h.drp _).put _ _).put _ _
  · exact ((h.drp _).drp _).put _ _
/-- alike: both refused, or both led back alike -/
def EqO : Option Rd → Option Rd → Prop
  | none, none => True
  | some r, some q => EqR r q
  | _, _ => False
theorem back_congr {st : Stp} {d d' e e' : Rd} (h : EqR d d') (h2 : EqR e e') : EqO (backR st d e) (backR st d' e') := by
  have v := vR_congr h
  have v2 := vR_congr h2
  cases st <;> simp only [backR, v, v2]
  case part a c b z =>
    split
    · trivial
    · exact ((h.drp _).drp _).put _ _
  case add => exact h.drp _
  case drop => exact h.put _ _
  case join => exact ((h.drp _).put _ _).put _ _
  all_goals exact (h.drp _).put _ _
theorem gO_ownP {st : Stp} {ow : Ow} {i j : Nat} {now : Rd} (h : j ≠ i) : gO (ownP st ow i now) j = gO ow j := by
  unfold ownP
  split
  · rw [gO_put, if_neg h]
  · rfl
/-- what is led back, is read -/
theorem rd_back {B : Bk} (hB : B.Wf) {r : Rd × Ow} (hr : NdR r.1 ∧ ∃ L, B.nms[0]? = some L ∧ ∀ a, a ∈ nm r.1 ↔ a ∈ L) : ∀ (i : Nat) (now : Rd) (ow : Ow) (q : Rd × Ow), Like now (B.rd r i) → B.back r i now ow = some q → EqR (B.rd q i) now ∧ ∀ j, i < j → gO q.2 j = gO ow j := by
  intro i
  induction i using Nat.strongRecOn with
  | _ i ih =>
    intro now ow q hl hb
    cases hu : B.up i with
    | none =>
      rw [back_none' hu] at hb
      cases hb
      rw [rd_none hu]
      exact ⟨.rfl, fun _ _ => rfl⟩
    | some p =>
      have hlt := up_lt hB.ord hu
      rw [back_some' hB.ord hu] at hb
      cases e : backR p.2 now (B.rd r p.1) with
      | none => rw [e] at hb; cases hb
      | some now1 =>
        rw [e] at hb
        obtain ⟨i1, i2⟩ := ih p.1 hlt now1 (ownP p.2 ow i now) q (like_back hB hr hu hl e) hb
        obtain ⟨fits, nd, _⟩ := rd_fits hB hr hu
        have mem := hl.mem
        rw [rd_some hB.ord hu] at mem
        refine ⟨?_, fun j hj => ?_⟩
        · rw [rd_some hB.ord hu]
          refine (forth_congr i1 _).trans (forth_back fits.wf (fun a ha => (mem a).mpr (mem_forth.mpr (.inr ha))) (fun a h1 h2 h3 => ?_) e fun a ha hadd => ?_)
          · rcases mem_forth.mp ((mem a).mp h3) with h4 | h4
            · exact h4.2 h1
            · exact h2 h4
          · have g := i2 i hlt
            cases e2 : p.2 with
            | add c n =>
              rw [e2] at g ha
              simp only [Stp.new, List.mem_singleton] at ha
              subst ha
              have : gO q.2 i = some (vR now a) := by
                rw [g]
                show gO (pO ow i (vR now a)) i = _
                rw [gO_put, if_pos rfl]
              simp [ownOf, this]
            | _ => rw [e2] at hadd; cases hadd
        · rw [i2 j (by omega), gO_ownP (by omega)]
/-- own numbers alike -/
def OwEq (B : Bk) (ow ow' : Ow) : Prop := ∀ (j : Nat) (p : Nat × Stp), B.up j = some p → ownOf ow j p.2 = ownOf ow' j p.2
theorem rd_eq {B : Bk} (hB : B.Ord) {r q : Rd × Ow} (h1 : EqR q.1 r.1) (h2 : OwEq B q.2 r.2) : ∀ j, EqR (B.rd q j) (B.rd r j) := by
  intro j
  induction j using Nat.strongRecOn with
  | _ j ih =>
    cases hu : B.up j with
    | none => rw [rd_none hu, rd_none hu]; exact h1
    | some p =>
      rw [rd_some hB hu, rd_some hB hu, h2 j p hu]
      exact forth_congr (ih p.1 (up_lt hB hu)) _
/-- to what is read: back to what it was -/
theorem back_same {B : Bk} (hB : B.Wf) {r : Rd × Ow} (hr : NdR r.1 ∧ ∃ L, B.nms[0]? = some L ∧ ∀ a, a ∈ nm r.1 ↔ a ∈ L) : ∀ (i : Nat) (now : Rd) (ow : Ow), EqR now (B.rd r i) → OwEq B ow r.2 → ∃ q, B.back r i now ow = some q ∧ EqR q.1 r.1 ∧ OwEq B q.2 r.2 := by
  intro i
  induction i using Nat.strongRecOn with
  | _ i ih =>
    intro now ow hl ho
    cases hu : B.up i with
    | none =>
      rw [rd_none hu] at hl
      exact ⟨_, back_none' hu, hl, ho⟩
    | some p =>
      have hlt := up_lt hB.ord hu
      obtain ⟨fits, nd, _⟩ := rd_fits hB hr hu
      rw [rd_some hB.ord hu] at hl
      obtain ⟨r1, hr1, er1⟩ := back_forth (n := (ownOf r.2 i p.2).getD 0) (e := B.rd r p.1) fits (fun _ _ => rfl)
      have hc := back_congr (st := p.2) hl (EqR.rfl (d := B.rd r p.1))
      rw [hr1] at hc
      rw [back_some' hB.ord hu]
      cases e : backR p.2 now (B.rd r p.1) with
      | none => rw [e] at hc; exact hc.elim
      | some now1 =>
        rw [e] at hc
        have hc : EqR now1 r1 := hc
        refine ih p.1 hlt now1 (ownP p.2 ow i now) (hc.trans er1) fun j p2 hj => ?_
        by_cases q : j = i
        · subst q
          rw [hu] at hj
          cases hj
          cases e2 : p.2 with
          | add c n =>
            rw [e2] at hl
            have v := vR_congr hl c
            have v2 : vR (forthR (.add c n) (B.rd r p.1) ((ownOf r.2 j (.add c n)).getD 0)) c = (gO r.2 j).getD n := by
              show vR (pR _ c _) c = _
              rw [vR_put, if_pos rfl]; rfl
            rw [v2] at v
            show some ((gO (pO ow j (vR now c)) j).getD n) = some ((gO r.2 j).getD n)
            rw [gO_put, if_pos rfl, v]; rfl
          | _ => rfl
        · have := ho j p2 hj
          rw [← this]
          cases e2 : p2.2 with
          | add c n =>
            show some ((gO _ j).getD n) = some ((gO ow j).getD n)
            rw [gO_ownP q]
          | _ => rfl
/-- other numbers lead back alike -/
theorem back_alike {B : Bk} (hB : B.Wf) {r r' : Rd × Ow} (hrr : ∀ j, EqR (B.rd r j) (B.rd r' j)) : ∀ (i : Nat) (now now' : Rd) (ow ow' : Ow), EqR now now' → OwEq B ow ow' → (B.back r i now ow = none ∧ B.back r' i now' ow' = none) ∨ ∃ q q', B.back r i now ow = some q ∧ B.back r' i now' ow' = some q' ∧ EqR q.1 q'.1 ∧ OwEq B q.2 q'.2 := by
  intro i
  induction i using Nat.strongRecOn with
  | _ i ih =>
    intro now now' ow ow' hl ho
    cases hu : B.up i with
    | none => exact .inr ⟨_, _, back_none' hu, back_none' hu, hl, ho⟩
    | some p =>
      have hlt := up_lt hB.ord hu
      rw [back_some' hB.ord hu, back_some' hB.ord hu]
      have hc := back_congr (st := p.2) hl (hrr p.1)
      cases e : backR p.2 now (B.rd r p.1) with
      | none =>
        rw [e] at hc
        cases e' : backR p.2 now' (B.rd r' p.1) with
        | none => exact .inl ⟨rfl, rfl⟩
        | some x => rw [e'] at hc; exact hc.elim
      | some n1 =>
        rw [e] at hc
        cases e' : backR p.2 now' (B.rd r' p.1) with
        | none => rw [e'] at hc; exact hc.elim
        | some n2 =>
          rw [e'] at hc
          refine ih p.1 hlt n1 n2 _ _ hc fun j p2 hj => ?_
          have h0 := ho j p2 hj
          cases e2 : p2.2 with
          | add c n =>
            rw [e2] at h0
            have h0 : some ((gO ow j).getD n) = some ((gO ow' j).getD n) := h0
            show some ((gO (ownP p.2 ow i now) j).getD n) = some ((gO (ownP p.2 ow' i now') j).getD n)
            by_cases q : j = i
            · subst q
              rw [hu] at hj
              cases hj
              rw [e2]
              show some ((gO (pO ow j (vR now c)) j).getD n) = some ((gO (pO ow' j (vR now' c)) j).getD n)
              rw [gO_put, gO_put, if_pos rfl, if_pos rfl, vR_congr hl]
            · rw [gO_ownP q, gO_ownP q, h0]
          | _ => rfl
end PB

/-! PV: the pool's names; steps that fit. -/
namespace PB
open PySem L2 Fm
def poolS (c : Int) : List Str := rowOf c 26
theorem pool_F (c : Int) : (List.range 26).map (poolF c) = (poolS c).map F.str := by
  unfold poolS rowOf
  rw [List.map_map]
  rfl
theorem poolS_nd (c : Int) : (poolS c).Nodup := row_nd c (by omega)
theorem poolS_len (c : Int) : (poolS c).length = 26 := by simp [poolS, rowOf]
theorem poolL_ltr (c : Int) (k : Nat) : ∀ n ∈ poolL c k, ∃ x, n = ltr x := by
  intro n hn
  unfold poolL at hn
  split at hn
  · obtain ⟨j, _, rfl⟩ := List.mem_map.mp hn
    exact ⟨_, rfl⟩
  · rcases List.mem_append.mp hn with hn | hn
    · rcases List.mem_append.mp hn with hn | hn
      · exact ⟨_, (List.mem_replicate.mp hn).2⟩
      · simp at hn; exact ⟨_, hn⟩
    · exact ⟨_, (List.mem_replicate.mp hn).2⟩
theorem ltr_abc (x : Int) : ltr x ∈ abc.cps.toList := by
  obtain ⟨h1, h2⟩ := fmod_lt' x (n := 26) (by decide)
  unfold ltr
  exact List.mem_of_getElem? (abc_at _ (by omega))
theorem pool_nm (c : Int) (k : Nat) : isNm (.str (mkS (poolL c k))) = true := by
  obtain ⟨h1, h2⟩ := poolL_len c k
  have g1 : 1 ≤ (mkS (poolL c k)).length := h1
  have g2 : (mkS (poolL c k)).length ≤ 8 := h2
  show (decide (1 ≤ (mkS (poolL c k)).length) && decide ((mkS (poolL c k)).length ≤ 8) && (signs (mkS (poolL c k))).all isSg) = true
  rw [decide_eq_true g1, decide_eq_true g2, Bool.true_and, Bool.true_and]
  rw [List.all_eq_true]
  intro x hx
  obtain ⟨n, hn, rfl⟩ := List.mem_map.mp hx
  have hn : n ∈ poolL c k := by simpa [mkS] using hn
  obtain ⟨y, rfl⟩ := poolL_ltr c k n hn
  exact decide_eq_true (ltr_abc y)
theorem poolS_nm (c : Int) : ∀ x ∈ poolS c, isNm (.str x) = true := by
  intro x hx
  unfold poolS rowOf at hx
  obtain ⟨k, _, rfl⟩ := List.mem_map.mp hx
  exact pool_nm c k
theorem filt_len {α : Type} (p : α → Bool) (L : List α) : (L.filter p).length + (L.filter fun x => !p x).length = L.length := by
  induction L with
  | nil => rfl
  | cons a L ih =>
    rw [List.filter_cons, List.filter_cons]
    cases p a <;> simp <;> omega
theorem stays_len {st : Stp} {L : List Str} (hn : L.Nodup) (ho : ∀ a ∈ st.old, a ∈ L) (hno : st.old.Nodup) : (staysF st L).length + st.old.length = L.length := by
  have h1 := filt_len (fun x => decide (x ∈ st.old)) L
  have h2 : (L.filter fun x => decide (x ∈ st.old)).Perm st.old := by
    rw [List.perm_ext_iff_of_nodup (hn.sublist List.filter_sublist) hno]
    intro a
    rw [List.mem_filter]
    constructor
    · intro h; simpa using h.2
    · intro h; exact ⟨ho a h, by simpa using h⟩
  have h3 := h2.length_eq
  unfold staysF
  omega
theorem old_nd {st : Stp} (wf : st.wf) : st.old.Nodup := by
  cases st <;> simp [Stp.old]
  exact wf.1
theorem nb_of {st : Stp} {L : List Str} (hn : L.Nodup) (f : Fits st L) (h1 : st.old.length + 1 ≤ L.length + st.new.length) (h2 : L.length + st.new.length ≤ 12 + st.old.length) : nbR st L = .ok (nbF st L) := by
  have hl : (nbF st L).length = (staysF st L).length + st.new.length := by
    rw [← due_eq hn f.old]
    have := congrArg List.length (List.take_append_drop (atF st L) (staysF st L))
    simp only [List.length_append] at this ⊢
    omega
  have hs := stays_len hn f.old (old_nd f.wf)
  unfold nbR
  rw [if_neg, if_neg, if_neg]
  · omega
  · rw [Bool.not_eq_false, List.all_eq_true]
    intro x hx
    by_cases q : x ∈ st.new
    · simp [f.new x q hx]
    · simp [q]
  · rw [Bool.not_eq_false, List.all_eq_true]
    intro x hx
    simp [f.old x hx]
/-- names of the pool that are not there -/
theorem free_ok {P L : List Str} (hP : P.Nodup) (hP2 : P.length = 26) (hn : L.Nodup) (hl : L.length ≤ 12) : (P.filter fun x => !decide (x ∈ L)).Nodup ∧ 14 ≤ (P.filter fun x => !decide (x ∈ L)).length ∧ (P.filter fun x => !decide (x ∈ L)).length ≤ 26 := by
  refine ⟨hP.sublist List.filter_sublist, ?_, ?_⟩
  · have h1 := filt_len (fun x => decide (x ∈ L)) P
    have h2 := List.Nodup.length_le_of_subset (l₁ := P.filter fun x => decide (x ∈ L)) (l₂ := L) (hP.sublist List.filter_sublist) (fun x hx => by
      have := (List.mem_filter.mp hx).2
      simpa using this)
    omega
  · rw [← hP2]; exact List.length_filter_le _ _
/-- two places, one behind the other, in a ring -/
theorem ring {F0 : List Str} (hn : F0.Nodup) (h2 : 2 ≤ F0.length) (x : Int) : ∃ a b, L2.atI (F0.map F.str) (x.fmod (F0.length : Int)) = some (.str a) ∧ L2.atI (F0.map F.str) ((x + 1).fmod (F0.length : Int)) = some (.str b) ∧ a ≠ b ∧ a ∈ F0 ∧ b ∈ F0 := by
  obtain ⟨m1, m2⟩ := fmod_lt' x (n := (F0.length : Int)) (by omega)
  obtain ⟨k1, k2⟩ := fmod_lt' (x + 1) (n := (F0.length : Int)) (by omega)
  obtain ⟨i, hi⟩ : ∃ i : Nat, x.fmod (F0.length : Int) = i := ⟨_, (Int.toNat_of_nonneg m1).symm⟩
  obtain ⟨j, hj⟩ : ∃ j : Nat, (x + 1).fmod (F0.length : Int) = j := ⟨_, (Int.toNat_of_nonneg k1).symm⟩
  have hne : i ≠ j := by
    intro e
    have e2 : x.fmod (F0.length : Int) = (x + 1).fmod (F0.length : Int) := by rw [hi, hj, e]
    rw [Int.fmod_eq_emod_of_nonneg _ (by omega), Int.fmod_eq_emod_of_nonneg _ (by omega)] at e2
    have h3 : ((x + 1) - x) % (F0.length : Int) = 0 := by
      rw [Int.sub_emod, e2]; simp
    rw [show x + 1 - x = 1 by omega, Int.emod_eq_of_lt (by omega) (by omega)] at h3
    omega
  rw [hi] at m2 ⊢
  rw [hj] at k2 ⊢
  have hi2 : i < F0.length := by omega
  have hj2 : j < F0.length := by omega
  refine ⟨F0[i], F0[j], row_at (List.getElem?_eq_getElem hi2), row_at (List.getElem?_eq_getElem hj2), fun e => hne ((List.getElem_inj hn).mp e), List.getElem_mem _, List.getElem_mem _⟩
end PB

/-! PW: numbers handed in as a reading; lists of readings. -/
namespace PB
open PySem L2 Fm
def putA (d e : Rd) : Rd := e.foldl (fun d p => pR d p.1 p.2) d
def nuI (e : Rd) : Nu := e.map fun p => (p.1, F.int p.2)
theorem nK_I (e : Rd) : nK (nuI e) = rK e := by
  unfold nuI rK nK
  rw [List.map_map]
  rfl
theorem nF_I (e : Rd) : nF (nuI e) = rF e := by
  show F.dct (nK (nuI e)) = _
  rw [nK_I]
theorem chR_I (e : Rd) : ∀ d : Rd, chR d (nuI e) = .ok (putA d e) := by
  induction e with
  | nil => intro d; rfl
  | cons p e ih =>
    intro d
    exact ih (pR d p.1 p.2)
theorem nuI_v {e : Rd} (h : NdR e) : ∀ p ∈ nuI e, vK (nK (nuI e)) (sk p.1) = some p.2 := by
  intro p hp
  obtain ⟨q, hq, rfl⟩ := List.mem_map.mp hp
  rw [nK_I, vK_rK]
  show (gR e q.1).map F.int = some (.int q.2)
  rw [gR_mem h hq]
  rfl
theorem changedR_I {d e : Rd} (h : ∀ a ∈ nm e, a ∈ nm d) : changedR d (nuI e) = .ok (putA d e) := by
  unfold changedR
  rw [if_neg, chR_I]
  rw [Bool.not_eq_false, List.all_eq_true]
  intro p hp
  obtain ⟨q, hq, rfl⟩ := List.mem_map.mp hp
  exact decide_eq_true (h q.1 (List.mem_map.mpr ⟨q, hq, rfl⟩))
theorem gR_putA {e : Rd} (h : NdR e) : ∀ (d : Rd) (x : Str), gR (putA d e) x = match gR e x with
    | some i => some i
    | none => gR d x := by
  induction e with
  | nil => intro d x; rfl
  | cons p e ih =>
    intro d x
    obtain ⟨a, i⟩ := p
    have h : (a :: nm e).Nodup := h
    rw [List.nodup_cons] at h
    show gR (putA (pR d a i) e) x = _
    rw [ih h.2, gR_cons]
    by_cases q : a = x
    · subst q
      rw [gR_no h.1, gR_put]
      simp
    · rw [if_neg q, gR_put, if_neg (fun z => q z.symm)]
theorem putA_congr {d d' e : Rd} (he : NdR e) (h : EqR d d') : EqR (putA d e) (putA d' e) := fun x => by
  rw [gR_putA he, gR_putA he, h x]
theorem putA_same {d e : Rd} (he : NdR e) (h : EqR e d) : EqR (putA d e) d := fun x => by
  rw [gR_putA he, ← h x]
  cases gR e x <;> rfl
theorem putA_nd {e : Rd} : ∀ {d : Rd}, NdR d → NdR (putA d e) := by
  induction e with
  | nil => intro d h; exact h
  | cons p e ih => intro d h; exact ih (h.put _ _)
theorem eqRb_comm {d e : Rd} (h : NdR d) (h2 : NdR e) : eqRb d e = eqRb e d := by
  rw [Bool.eq_iff_iff, eqRb_iff h h2, eqRb_iff h2 h]
  exact ⟨EqR.symm, EqR.symm⟩
theorem eqRb_congr {d d' e e' : Rd} (n1 : NdR d) (n2 : NdR d') (n3 : NdR e) (n4 : NdR e') (h : EqR d d') (h2 : EqR e e') : eqRb d e = eqRb d' e' := by
  rw [Bool.eq_iff_iff, eqRb_iff n1 n3, eqRb_iff n2 n4]
  exact ⟨fun q => (h.symm.trans q).trans h2, fun q => (h.trans q).trans h2.symm⟩
theorem eqT_all {f g : Nat → Rd} : ∀ n : Nat, eqT (.lst ((List.range n).map fun j => rF (f j))) (.lst ((List.range n).map fun j => rF (g j))) = some ((List.range n).all fun j => eqRb (f j) (g j)) := by
  intro n
  show eqN 6 _ _ = _
  unfold eqN
  rw [if_pos (by rw [List.length_map, List.length_map])]
  generalize List.range n = l
  induction l with
  | nil => rfl
  | cons a l ih =>
    simp only [List.map_cons, List.zipWith_cons_cons, eqN_rK 4, allO, ih, List.all_cons]
end PB

/-! PZ: steps of other names in either order; a step and its contrary. -/
namespace PB
open PySem L2 Fm
def valR (st : Stp) (v : Str → Int) (n : Int) (x : Str) : Int := match st with
  | .add _ _ => n
  | .drop _ => 0
  | .name a _ => v a
  | .shift a k => v a + k
  | .turn a => 0 - v a
  | .part a _ e z => if x = e then (v a).fmod z else (v a).fdiv z
  | .join a b _ z => v a * z + v b
theorem forth_char (st : Stp) (d : Rd) (n : Int) (x : Str) : gR (forthR st d n) x = if x ∈ st.new then some (valR st (vR d) n x) else if x ∈ st.old then none else gR d x := by
  cases st <;> simp only [forthR, gR_put, gR_drp, Stp.old, Stp.new, valR, List.mem_cons, List.not_mem_nil, or_false, if_false] <;> grind
theorem valR_congr {st : Stp} {v v' : Str → Int} (h : ∀ a ∈ st.old, v a = v' a) (n : Int) (x : Str) : valR st v n x = valR st v' n x := by
  cases st <;> simp [valR, Stp.old] at h ⊢ <;> simp [h]
theorem vR_forth {st : Stp} {d : Rd} {n : Int} {x : Str} (h1 : x ∉ st.old) (h2 : x ∉ st.new) : vR (forthR st d n) x = vR d x := by
  unfold vR
  rw [gR_forth_other h2 h1]
/-- either order -/
theorem forth_comm {s t : Stp} {d : Rd} {n m : Int} (h : ∀ x, (x ∈ s.old ∨ x ∈ s.new) → ¬ (x ∈ t.old ∨ x ∈ t.new)) : EqR (forthR t (forthR s d n) m) (forthR s (forthR t d m) n) := fun x => by
  have c1 : valR t (vR (forthR s d n)) m x = valR t (vR d) m x := valR_congr (fun a ha => vR_forth (fun q => h a (.inl q) (.inl ha)) (fun q => h a (.inr q) (.inl ha))) m x
  have c2 : valR s (vR (forthR t d m)) n x = valR s (vR d) n x := valR_congr (fun a ha => vR_forth (fun q => h a (.inl ha) (.inl q)) (fun q => h a (.inl ha) (.inr q))) n x
  rw [forth_char, forth_char s (forthR t d m), forth_char, forth_char, c1, c2]
  have hx := h x
  grind
/-- a step's contrary -/
inductive Con : Stp → Stp → Prop
  | name (a c : Str) (h : a ≠ c) : Con (.name a c) (.name c a)
  | shift (a : Str) (n : Int) : Con (.shift a n) (.shift a (-n))
  | turn (a : Str) : Con (.turn a) (.turn a)
  | part (a c e : Str) (z : Int) (h : c ≠ e) (h1 : a ≠ c) (h2 : a ≠ e) (hz : 0 < z) : Con (.part a c e z) (.join c e a z)
theorem forth_con {s t : Stp} (h : Con s t) {d : Rd} {n m : Int} (ho : ∀ a ∈ s.old, a ∈ nm d) (hn : ∀ a ∈ s.new, a ∉ s.old → a ∉ nm d) : EqR (forthR t (forthR s d n) m) d := fun x => by
  cases h with
  | name a c h =>
    have ga := gR_v (ho a (by simp [Stp.old]))
    have gc := gR_no (hn c (by simp [Stp.new]) (by simp [Stp.old]; exact fun q => h q.symm))
    simp only [forthR, gR_put, gR_drp, vR_put, if_true]
    grind
  | shift a k =>
    have ga := gR_v (ho a (by simp [Stp.old]))
    have e : vR d a + k + -k = vR d a := by omega
    simp only [forthR, gR_put, gR_drp, vR_put, if_true, e]
    grind
  | turn a =>
    have ga := gR_v (ho a (by simp [Stp.old]))
    have e : 0 - (0 - vR d a) = vR d a := by omega
    simp only [forthR, gR_put, gR_drp, vR_put, if_true, e]
    grind
  | part a c e z h h1 h2 hz =>
    have ga := gR_v (ho a (by simp [Stp.old]))
    have gc := gR_no (hn c (by simp [Stp.new]) (by simp [Stp.old]; exact fun q => h1 q.symm))
    have ge := gR_no (hn e (by simp [Stp.new]) (by simp [Stp.old]; exact fun q => h2 q.symm))
    have ee := fdiv_fmod (vR d a) z hz
    simp only [forthR, gR_put, gR_drp, vR_put, if_true, if_neg h, ee]
    grind
end PB

namespace K13
open PySem L2 Fm PB
/-! ### what the defs compute -/
abbrev ns0 : List Str := ["BadNumber"]
def N_is_name : List Str := ["thing", "sign"]
def N_is_number : List Str := ["thing"]
def N_is_size : List Str := ["thing"]
def N_is_step : List Str := ["thing", "word"]
def N_begins_from : List Str := ["step"]
def N_brings : List Str := ["step"]
def N_names_behind : List Str := ["step", "names", "old", "new", "name", "found"]
def N_forth : List Str := ["step", "reading", "own", "found", "name", "word"]
def N_back : List Str := ["step", "reading", "elder", "found", "name", "word", "more"]
def N_good_names : List Str := ["names", "name", "place"]
def N_B_init : List Str := ["self", "names"]
def N_B_need_form : List Str := ["self", "form"]
def N_B_need_record : List Str := ["self", "record"]
def N_B_grow : List Str := ["self", "form", "step", "names"]
def N_B_make : List Str := ["self", "first", "name"]
def N_B_line : List Str := ["self", "form", "found", "place"]
def N_B_own : List Str := ["self", "record", "form"]
def N_B_readings : List Str := ["self", "record", "form", "found", "newer"]
def N_B_reading : List Str := ["self", "record", "form"]
def N_B_all_readings : List Str := ["self", "record", "found", "form"]
def N_B_changed : List Str := ["self", "record", "form", "numbers", "found", "name"]
def N_B_change : List Str := ["self", "record", "form", "numbers", "now", "line", "elders", "owns", "place", "before", "after", "step"]
def N_l_cell_at : List Str := ["_law_script", "_law_k"]
def N_l_pool : List Str := ["_law_cell", "_law_signs", "_law_found", "_law_k", "_law_same", "_law_ahead", "_law_word", "_law_first_here", "_law_j"]
def N_l_step : List Str := ["_law_cell", "_law_more", "_law_pool_here", "_law_names", "_law_old", "_law_low", "_law_free", "_law_new", "_law_size", "_law_kind", "_law_name"]
def b_l_step : MS := (sSeq (sSet 4 (mB ixF (mVar 3) (mB modF (mB divF (mVar 1) (mC (.int 3))) (mN lenF (aCons (mVar 3) aNil))))) (sSeq (sSet 5 (mB ixF (mVar 3) (mB modF (mB addF (mB addF (mB divF (mVar 1) (mC (.int 3))) (mC (.int 1))) (mB modF (mB divF (mVar 1) (mC (.int 36))) (mC (.int 11)))) (mN lenF (aCons (mVar 3) aNil))))) (sSeq (sSet 6 (mLc 10 (iL (mVar 2)) (mB ninF (mVar 10) (mVar 3)) (mVar 10))) (sSeq (sSet 7 (mLst (aCons (mB ixF (mVar 6) (mB modF (mB divF (mVar 1) (mC (.int 5))) (mN lenF (aCons (mVar 6) aNil)))) (aCons (mB ixF (mVar 6) (mB modF (mB addF (mB divF (mVar 1) (mC (.int 5))) (mC (.int 1))) (mN lenF (aCons (mVar 6) aNil)))) aNil)))) (sSeq (sSet 8 (mB ixF (mLst (aCons (mB addF (mC (.int 2)) (mB modF (mVar 1) (mC (.int 70)))) (aCons (mB addF (mC (.int 2)) (mB modF (mVar 1) (mC (.int 999999)))) aNil))) (mB modF (mB divF (mVar 1) (mC (.int 7))) (mC (.int 2))))) (sSeq (sSet 9 (mB modF (mVar 0) (mC (.int 7)))) (sSeq (sIf (mAnd (mB eqF (mVar 9) (mC (.int 0))) (mB ltF (mN lenF (aCons (mVar 3) aNil)) (mC (.int 12)))) (sRet (mTup (aCons (mC (.str "add")) (aCons (mB ixF (mVar 7) (mC (.int 0))) (aCons (mB subF (mB modF (mB mulF (mVar 1) (mC (.int 48271))) (mC (.int 2000003))) (mC (.int 1000001))) aNil))))) sSkip) (sSeq (sIf (mAnd (mB eqF (mVar 9) (mC (.int 1))) (mB gtF (mN lenF (aCons (mVar 3) aNil)) (mC (.int 1)))) (sRet (mTup (aCons (mC (.str "drop")) (aCons (mVar 4) aNil)))) sSkip) (sSeq (sIf (mB eqF (mVar 9) (mC (.int 2))) (sRet (mTup (aCons (mC (.str "name")) (aCons (mVar 4) (aCons (mB ixF (mVar 7) (mC (.int 0))) aNil))))) sSkip) (sSeq (sIf (mB eqF (mVar 9) (mC (.int 3))) (sRet (mTup (aCons (mC (.str "shift")) (aCons (mVar 4) (aCons (mB subF (mB modF (mB mulF (mVar 1) (mC (.int 48271))) (mC (.int 2000003))) (mC (.int 1000001))) aNil))))) sSkip) (sSeq (sIf (mAnd (mB eqF (mVar 9) (mC (.int 5))) (mB ltF (mN lenF (aCons (mVar 3) aNil)) (mC (.int 12)))) (sRet (mTup (aCons (mC (.str "part")) (aCons (mVar 4) (aCons (mB ixF (mVar 7) (mC (.int 0))) (aCons (mB ixF (mVar 7) (mC (.int 1))) (aCons (mVar 8) aNil))))))) sSkip) (sSeq (sIf (mAnd (mB eqF (mVar 9) (mC (.int 6))) (mB neF (mVar 4) (mVar 5))) (sRet (mTup (aCons (mC (.str "join")) (aCons (mVar 4) (aCons (mVar 5) (aCons (mB ixF (mVar 7) (mC (.int 0))) (aCons (mVar 8) aNil))))))) sSkip) (sRet (mTup (aCons (mC (.str "turn")) (aCons (mVar 4) aNil))))))))))))))))
def p_l_step : Psi := runA 11 b_l_step
def N_l_hangs_behind : List Str := ["_law_step_here", "_law_hangs", "_law_form", "_law_found", "_law_name", "_law_both"]
def b_l_hangs_behind : MS := (sSeq (sOwn 3 mDnew) (sSeq (sForD 4 (mVar 1) (sIf (mOr (mB eqF (mB ixF (mVar 0) (mC (.int 0))) (mC (.str "add"))) (mAnd (mB neF (mVar 4) (mB ixF (mVar 0) (mC (.int 1)))) (mOr (mB neF (mB ixF (mVar 0) (mC (.int 0))) (mC (.str "join"))) (mB neF (mVar 4) (mB ixF (mVar 0) (mC (.int 2))))))) (sPutD (mVar 3) (mVar 4) (mB dgetF (mVar 1) (mVar 4))) sSkip)) (sSeq (sIf (mB eqF (mB ixF (mVar 0) (mC (.int 0))) (mC (.str "add"))) (sPutD (mVar 3) (mB ixF (mVar 0) (mC (.int 1))) (mDct [((mB addF (mC (.str "own")) (mN strF (aCons (mVar 2) aNil))), (mC (.bl true)))])) sSkip) (sSeq (sIf (mB eqF (mB ixF (mVar 0) (mC (.int 0))) (mC (.str "name"))) (sPutD (mVar 3) (mB ixF (mVar 0) (mC (.int 2))) (mB dgetF (mVar 1) (mB ixF (mVar 0) (mC (.int 1))))) sSkip) (sSeq (sIf (mOr (mB eqF (mB ixF (mVar 0) (mC (.int 0))) (mC (.str "shift"))) (mB eqF (mB ixF (mVar 0) (mC (.int 0))) (mC (.str "turn")))) (sPutD (mVar 3) (mB ixF (mVar 0) (mC (.int 1))) (mB dgetF (mVar 1) (mB ixF (mVar 0) (mC (.int 1))))) sSkip) (sSeq (sIf (mB eqF (mB ixF (mVar 0) (mC (.int 0))) (mC (.str "part"))) (sSeq (sPutD (mVar 3) (mB ixF (mVar 0) (mC (.int 2))) (mB dgetF (mVar 1) (mB ixF (mVar 0) (mC (.int 1))))) (sPutD (mVar 3) (mB ixF (mVar 0) (mC (.int 3))) (mB dgetF (mVar 1) (mB ixF (mVar 0) (mC (.int 1)))))) sSkip) (sSeq (sIf (mB eqF (mB ixF (mVar 0) (mC (.int 0))) (mC (.str "join"))) (sSeq (sOwn 5 (mN dictF (aCons (mB dgetF (mVar 1) (mB ixF (mVar 0) (mC (.int 1)))) aNil))) (sSeq (sUpdD (mVar 5) (mB dgetF (mVar 1) (mB ixF (mVar 0) (mC (.int 2))))) (sSeq (sFrz 5) (sPutD (mVar 3) (mB ixF (mVar 0) (mC (.int 3))) (mVar 5))))) sSkip) (sRet (mVar 3)))))))))
def p_l_hangs_behind : Psi := runA 6 b_l_hangs_behind
def N_l_books : List Str := ["_law_script", "_law_book", "_law_names", "_law_pool_here", "_law_hangs", "_law_k", "_law_form", "_law_step_here", "_law_name"]
def b_l_books : MS := (sSeq (sOwn 4 (mLst (aCons (mN dictF (aCons (mLc 8 (iL (mVar 2)) (mC (.bl true)) (mTup (aCons (mVar 8) (aCons (mDct [((mVar 8), (mC (.bl true)))]) aNil)))) aNil)) aNil))) (sSeq (sFor 5 (iR3 (mC (.int 2)) (mN minF (aCons (mB subF (mN lenF (aCons (mVar 0) aNil)) (mC (.int 1))) (aCons (mC (.int 16)) aNil))) (mC (.int 2))) (sSeq (sSet 6 (mB modF (mB addF (mB divF (mB ixF (mVar 0) (mVar 5)) (mC (.int 7))) (mB mulF (mB modF (mB ixF (mVar 0) (mVar 5)) (mC (.int 3))) (mVar 5))) (mN lenF (aCons (mVar 4) aNil)))) (sSeq (sSet 7 (mCall p_l_step (aCons (mB ixF (mVar 0) (mVar 5)) (aCons (mB addF (mB ixF (mVar 0) (mB addF (mVar 5) (mC (.int 1)))) (mB mulF (mC (.int 31)) (mVar 5))) (aCons (mVar 3) (aCons (mN listF (aCons (mB ixF (mVar 4) (mVar 6)) aNil)) aNil)))))) (sSeq (sExp (mMeth p_B_grow "grow" (mVar 1) (aCons (mVar 6) (aCons (mVar 7) aNil)))) (sAppL (mVar 4) (mCall p_l_hangs_behind (aCons (mVar 7) (aCons (mB ixF (mVar 4) (mVar 6)) (aCons (mN lenF (aCons (mVar 4) aNil)) aNil))))))))) (sRet (mVar 4))))
def p_l_books : Psi := runA 9 b_l_books
def N_l_all : List Str := ["_law_book", "_law_record", "_law_many", "_law_form"]
def b_l_all : MS := (sRet (mLc 3 (iR1 (mVar 2)) (mC (.bl true)) (mMeth p_B_reading "reading" (mVar 0) (aCons (mVar 1) (aCons (mVar 3) aNil)))))
def p_l_all : Psi := runA 4 b_l_all
def N_l_number : List Str := ["_law_cell", "_law_k"]
def b_l_number : MS := (sSeq (sIf (mB eqF (mB modF (mVar 0) (mC (.int 2))) (mC (.int 0))) (sRet (mB addF (mB subF (mB modF (mB divF (mVar 0) (mC (.int 2))) (mC (.int 201))) (mC (.int 100))) (mB mulF (mC (.int 37)) (mVar 1)))) sSkip) (sRet (mB subF (mB modF (mB mulF (mB addF (mVar 0) (mVar 1)) (mC (.int 48271))) (mB addF (mB mulF (mC (.int 2)) (mB powF (mC (.int 10)) (mC (.int 12)))) (mC (.int 1)))) (mB powF (mC (.int 10)) (mC (.int 12))))))
def p_l_number : Psi := runA 2 b_l_number
def N_l_first : List Str := ["_law_names", "_law_cell", "_law_first_here", "_law_k"]
def b_l_first : MS := (sSeq (sOwn 2 mDnew) (sSeq (sFor 3 (iR1 (mN lenF (aCons (mVar 0) aNil))) (sPutD (mVar 2) (mB ixF (mVar 0) (mVar 3)) (mCall p_l_number (aCons (mVar 1) (aCons (mVar 3) aNil))))) (sRet (mVar 2))))
def p_l_first : Psi := runA 4 b_l_first
def N_l_numbers : List Str := ["_law_book", "_law_names", "_law_form", "_law_cells", "_law_drawn", "_law_row", "_law_numbers_here", "_law_k", "_law_name"]
def b_l_numbers : MS := (sSeq (sExp (mMeth p_B_change "change" (mVar 0) (aCons (mC (.int 1)) (aCons (mC (.int 0)) (aCons (mCall p_l_first (aCons (mVar 1) (aCons (mB ixF (mVar 3) (mC (.int 2))) aNil))) aNil))))) (sSeq (sSet 4 (mMeth p_B_reading "reading" (mVar 0) (aCons (mC (.int 1)) (aCons (mVar 2) aNil)))) (sSeq (sSet 5 (mN sortF (aCons (mVar 4) aNil))) (sSeq (sOwn 6 mDnew) (sSeq (sFor 7 (iR1 (mB addF (mC (.int 1)) (mB modF (mB ixF (mVar 3) (mC (.int 0))) (mC (.int 2))))) (sSeq (sSet 8 (mB ixF (mVar 5) (mB modF (mB addF (mB divF (mB ixF (mVar 3) (mC (.int 1))) (mC (.int 2))) (mVar 7)) (mN lenF (aCons (mVar 5) aNil))))) (sSeq (sPutD (mVar 6) (mVar 8) (mB dgetF (mVar 4) (mVar 8))) (sIf (mB eqF (mB modF (mB ixF (mVar 3) (mC (.int 1))) (mC (.int 5))) (mC (.int 1))) (sPutD (mVar 6) (mVar 8) (mCall p_l_number (aCons (mB ixF (mVar 3) (mC (.int 2))) (aCons (mB mulF (mC (.int 5)) (mVar 7)) aNil)))) sSkip)))) (sRet (mVar 6)))))))
def p_l_numbers : Psi := runA 9 b_l_numbers
def N_l_done : List Str := ["_law_book", "_law_form", "_law_numbers_here"]
def b_l_done : MS := (sSeq (sTry ns0 (sExp (mMeth p_B_change "change" (mVar 0) (aCons (mC (.int 0)) (aCons (mVar 1) (aCons (mVar 2) aNil))))) [("BadNumber", none, fun c => (sRet (mC (.bl false))))]) (sRet (mC (.bl true))))
def p_l_done : Psi := runA 3 b_l_done
def N_l_stays : List Str := ["_law_hangs", "_law_touched", "_law_before", "_law_after", "_law_form", "_law_name", "_law_is_touched", "_law_thing"]
def b_l_stays : MS := (sSeq (sFor 4 (iR1 (mN lenF (aCons (mVar 0) aNil))) (sForD 5 (mB ixF (mVar 0) (mVar 4)) (sSeq (sSet 6 (mB neF (mLcD 7 (mB dgetF (mB ixF (mVar 0) (mVar 4)) (mVar 5)) (mB dinF (mVar 7) (mVar 1)) (mVar 7)) (mLst aNil))) (sIf (mAnd (mNot (mVar 6)) (mB neF (mB dgetF (mB ixF (mVar 3) (mVar 4)) (mVar 5)) (mB dgetF (mB ixF (mVar 2) (mVar 4)) (mVar 5)))) (sRet (mC (.bl false))) sSkip)))) (sRet (mC (.bl true))))
def p_l_stays : Psi := runA 8 b_l_stays
def N_law : List Str := ["_law_script", "_law_pool_here", "_law_names", "_law_book", "_law_hangs", "_law_k", "_law_form", "_law_numbers_here", "_law_before", "_law_touched", "_law_after", "_law_name", "_law_row"]
def b_law : MS := (sSeq (sSet 1 (mCall p_l_pool (aCons (mCall p_l_cell_at (aCons (mVar 0) (aCons (mC (.int 0)) aNil))) aNil))) (sSeq (sSet 2 (mSl slF (mVar 1) none (some (mB addF (mC (.int 1)) (mB modF (mCall p_l_cell_at (aCons (mVar 0) (aCons (mC (.int 1)) aNil))) (mC (.int 6))))))) (sSeq (sSet 3 (mMake p_B_init (aCons (mN listF (aCons (mVar 2) aNil)) aNil))) (sSeq (sSet 4 (mCall p_l_books (aCons (mVar 0) (aCons (mVar 3) (aCons (mVar 2) (aCons (mVar 1) aNil)))))) (sSeq (sIf (mOr (mB neF (mMeth p_B_make "make" (mVar 3) aNil) (mC (.int 0))) (mB neF (mMeth p_B_make "make" (mVar 3) aNil) (mC (.int 1)))) (sRet (mC (.bl false))) sSkip) (sSeq (sExp (mMeth p_B_change "change" (mVar 3) (aCons (mC (.int 0)) (aCons (mC (.int 0)) (aCons (mCall p_l_first (aCons (mVar 2) (aCons (mCall p_l_cell_at (aCons (mVar 0) (aCons (mC (.int 16)) aNil))) aNil))) aNil))))) (sSeq (sFor 5 (iR3 (mC (.int 17)) (mN minF (aCons (mB subF (mN lenF (aCons (mVar 0) aNil)) (mC (.int 2))) (aCons (mC (.int 50)) aNil))) (mC (.int 3))) (sSeq (sSet 6 (mB modF (mB addF (mB divF (mB ixF (mVar 0) (mVar 5)) (mC (.int 3))) (mB ixF (mVar 0) (mB addF (mVar 5) (mC (.int 1))))) (mN lenF (aCons (mVar 4) aNil)))) (sSeq (sSet 7 (mCall p_l_numbers (aCons (mVar 3) (aCons (mVar 2) (aCons (mVar 6) (aCons (mSl slF (mVar 0) (some (mVar 5)) (some (mB addF (mVar 5) (mC (.int 3))))) aNil)))))) (sSeq (sSet 8 (mCall p_l_all (aCons (mVar 3) (aCons (mC (.int 0)) (aCons (mN lenF (aCons (mVar 4) aNil)) aNil))))) (sSeq (sOwn 9 mDnew) (sSeq (sIf (mCall p_l_done (aCons (mVar 3) (aCons (mVar 6) (aCons (mVar 7) aNil)))) (sForD 11 (mVar 7) (sUpdD (mVar 9) (mB dgetF (mB ixF (mVar 4) (mVar 6)) (mVar 11)))) sSkip) (sSeq (sFrz 9) (sSeq (sSet 10 (mCall p_l_all (aCons (mVar 3) (aCons (mC (.int 0)) (aCons (mN lenF (aCons (mVar 4) aNil)) aNil))))) (sSeq (sIf (mB neF (mLc 12 (iL (mVar 10)) (mC (.bl true)) (mN sortF (aCons (mVar 12) aNil))) (mLc 12 (iL (mVar 4)) (mC (.bl true)) (mN sortF (aCons (mVar 12) aNil)))) (sRet (mC (.bl false))) sSkip) (sIf (mNot (mCall p_l_stays (aCons (mVar 4) (aCons (mVar 9) (aCons (mVar 8) (aCons (mVar 10) aNil)))))) (sRet (mC (.bl false))) sSkip)))))))))) (sRet (mC (.bl true))))))))))
def p_law : Psi := runA 13 b_law
end K13

namespace K13
open PySem L2 Fm PB
set_option maxHeartbeats 0
/-! ### what is hung on -/
abbrev TD := List Str
def tK (t : TD) : List (Key × F) := t.map fun x => (sk x, F.bl true)
def tF (t : TD) : F := .dct (tK t)
theorem tF_inj {s t : TD} (h : tF s = tF t) : s = t := by
  unfold tF tK at h
  have h := F.dct.inj h
  have : (s.map fun x => (sk x, F.bl true)).map (·.1) = (t.map fun x => (sk x, F.bl true)).map (·.1) := by rw [h]
  rw [List.map_map, List.map_map] at this
  have go : ∀ s t : TD, s.map (Sum.inr : Str → Key) = t.map Sum.inr → s = t := by
    intro s
    induction s with
    | nil => intro t h; cases t with
      | nil => rfl
      | cons b t => cases h
    | cons a s ih => intro t h; cases t with
      | nil => cases h
      | cons b t =>
        simp only [List.map_cons, List.cons.injEq] at h
        rw [Sum.inr.inj h.1, ih t h.2]
  exact go s t this
def mT1 (A : TD) (x : Str) : TD := if x ∈ A then A else A ++ [x]
def mT (A B : TD) : TD := B.foldl mT1 A
theorem tK_any (A : TD) (x : Str) : ((tK A).any fun kv => decide (kv.1 = sk x)) = decide (x ∈ A) := by
  unfold tK
  rw [List.any_map]
  induction A with
  | nil => rfl
  | cons a A ih =>
    rw [List.any_cons, ih]
    simp only [Function.comp, List.mem_cons, Bool.decide_or]
    congr 1
    by_cases h : a = x
    · simp [h]
    · have : ¬ x = a := fun z => h z.symm
      simp [h, this]
theorem pK_tK (A : TD) (x : Str) : pK (tK A) (sk x) (.bl true) = tK (mT1 A x) := by
  unfold pK mT1
  rw [tK_any]
  by_cases h : x ∈ A
  · simp only [h, decide_true, if_true]
    unfold tK
    rw [List.map_map]
    apply List.map_congr_left
    intro y _
    simp only [Function.comp]
    split <;> rfl
  · simp only [h, decide_false, Bool.false_eq_true, if_false]
    unfold tK
    rw [List.map_append]; rfl
theorem mK_tK : ∀ (B A : TD), mK (tK A) (tK B) = tK (mT A B)
  | [], A => rfl
  | x :: B, A => by
    show mK (tK A) ((sk x, F.bl true) :: tK B) = _
    unfold mK
    rw [pK_tK, mK_tK B]
    rfl
theorem mem_mT1 {A : TD} {x y : Str} : y ∈ mT1 A x ↔ y ∈ A ∨ y = x := by
  unfold mT1
  split
  · rename_i h
    constructor
    · exact .inl
    · rintro (q | rfl)
      · exact q
      · exact h
  · simp
theorem mem_mT : ∀ {B A : TD} {y : Str}, y ∈ mT A B ↔ y ∈ A ∨ y ∈ B
  | [], A, y => by simp [mT]
  | x :: B, A, y => by
    show y ∈ mT (mT1 A x) B ↔ _
    rw [mem_mT, mem_mT1]
    simp [or_assoc]
theorem mT1_len (A : TD) (x : Str) : (mT1 A x).length ≤ A.length + 1 := by
  unfold mT1; split <;> simp
theorem mT_len : ∀ (B A : TD), (mT A B).length ≤ A.length + B.length
  | [], A => by simp [mT]
  | x :: B, A => by
    show (mT (mT1 A x) B).length ≤ _
    have := mT_len B (mT1 A x)
    have := mT1_len A x
    simp only [List.length_cons]
    omega
@[simp] theorem tK_len (t : TD) : (tK t).length = t.length := by simp [tK]
theorem mT_sub {N A B : TD} (h1 : A ⊆ N) (h2 : B ⊆ N) : mT A B ⊆ N := fun y hy => by
  rcases mem_mT.mp hy with h | h
  · exact h1 h
  · exact h2 h
theorem mT1_nd {A : TD} (h : A.Nodup) (x : Str) : (mT1 A x).Nodup := by
  unfold mT1
  split
  · exact h
  · rename_i q
    rw [List.nodup_append]
    exact ⟨h, by simp, fun a ha b hb e => by simp at hb; subst hb e; exact q ha⟩
theorem mT_nd : ∀ {B A : TD}, A.Nodup → (mT A B).Nodup
  | [], A, h => h
  | x :: B, A, h => mT_nd (B := B) (mT1_nd h x)
/-- what a form's names hang on -/
abbrev Hg := List (Str × TD)
def gH (d : Hg) (a : Str) : Option TD := (d.find? fun p => decide (p.1 = a)).map (·.2)
def pH (d : Hg) (a : Str) (i : TD) : Hg := if (d.any fun p => decide (p.1 = a)) = true then d.map (fun p => if p.1 = a then (p.1, i) else p) else d ++ [(a, i)]
def hK (d : Hg) : List (Key × F) := d.map fun p => (sk p.1, tF p.2)
abbrev hF (d : Hg) : F := .dct (hK d)
abbrev nmH (d : Hg) : List Str := d.map (·.1)
@[simp] theorem vK_hK (d : Hg) (a : Str) : vK (hK d) (sk a) = (gH d a).map tF := by
  induction d with
  | nil => rfl
  | cons p r ih =>
    obtain ⟨l, x⟩ := p
    show vK ((sk l, tF x) :: hK r) (sk a) = _
    rw [vK_cons, ih]
    unfold gH
    rw [List.find?_cons]
    by_cases h : l = a
    · simp [h]
    · simp [h, skinj]
theorem any_hK (d : Hg) (a : Str) : ((hK d).any fun kv => decide (kv.1 = sk a)) = d.any fun p => decide (p.1 = a) := by
  unfold hK
  rw [List.any_map]
  congr 1
  funext p
  simp
@[simp] theorem pK_hK (d : Hg) (a : Str) (i : TD) : pK (hK d) (sk a) (tF i) = hK (pH d a i) := by
  unfold pK pH
  rw [any_hK]
  split
  · unfold hK
    rw [List.map_map, List.map_map]
    apply List.map_congr_left
    intro p _
    simp only [Function.comp]
    by_cases h : p.1 = a <;> simp [h]
  · unfold hK
    rw [List.map_append]
    rfl
@[simp] theorem hK_len (d : Hg) : (hK d).length = d.length := by simp [hK]
@[simp] theorem hK_nil : hK [] = [] := rfl
theorem hK_keys (d : Hg) : (hK d).map (·.1) = (nmH d).map sk := by
  simp [hK, nmH]
theorem gH_nil (a : Str) : gH [] a = none := rfl
theorem gH_cons (l : Str) (x : TD) (r : Hg) (a : Str) : gH ((l, x) :: r) a = if l = a then some x else gH r a := by
  unfold gH
  rw [List.find?_cons]
  by_cases h : l = a <;> simp [h]
theorem map_t_inj {x y : Option TD} (h : x.map tF = y.map tF) : x = y := by
  cases x <;> cases y <;> simp at h ⊢
  exact tF_inj h
theorem gH_put (d : Hg) (a : Str) (i : TD) (b : Str) : gH (pH d a i) b = if b = a then some i else gH d b := by
  apply map_t_inj
  rw [← vK_hK, ← pK_hK, vK_put]
  by_cases h : b = a
  · simp [h]
  · simp [h, skinj]
theorem mem_gH {d : Hg} {a : Str} : a ∈ nmH d ↔ (gH d a).isSome = true := by
  induction d with
  | nil => simp [gH_nil]
  | cons p r ih =>
    obtain ⟨l, x⟩ := p
    rw [gH_cons]
    simp only [List.map_cons, List.mem_cons]
    by_cases h : l = a
    · simp [h]
    · have : ¬ a = l := fun z => h z.symm
      simp [h, this, ih]
theorem gH_of_mem {d : Hg} {a : Str} (h : a ∈ nmH d) : ∃ i, gH d a = some i := Option.isSome_iff_exists.mp (mem_gH.mp h)
theorem gH_no {d : Hg} {a : Str} (h : a ∉ nmH d) : gH d a = none := by
  cases e : gH d a with
  | none => rfl
  | some i => exact absurd (mem_gH.mpr (by rw [e]; rfl)) h
/-- names, each once -/
abbrev NdH (d : Hg) : Prop := (nmH d).Nodup
theorem NdH.k {d : Hg} (h : NdH d) : NdK (hK d) := by
  unfold NdK
  rw [hK_keys]
  have h : (nmH d).Nodup := h
  rw [List.nodup_iff_pairwise_ne] at h ⊢
  rw [List.pairwise_map]
  exact h.imp fun {a b} q z => q (Sum.inr.inj z)
theorem NdH.of {d : Hg} (h : NdK (hK d)) : NdH d := by
  unfold NdK at h
  rw [hK_keys] at h
  show (nmH d).Nodup
  rw [List.nodup_iff_pairwise_ne] at h ⊢
  rw [List.pairwise_map] at h
  exact h.imp fun {a b} q z => q (by rw [z])
theorem NdH.put {d : Hg} (h : NdH d) (a : Str) (i : TD) : NdH (pH d a i) := .of (by rw [← pK_hK]; exact h.k.put _ _)
theorem pH_len (d : Hg) (a : Str) (i : TD) : (pH d a i).length ≤ d.length + 1 := by
  unfold pH
  split
  · rw [List.length_map]; omega
  · rw [List.length_append]; simp
theorem memH_put {d : Hg} {a b : Str} {i : TD} : b ∈ nmH (pH d a i) ↔ b = a ∨ b ∈ nmH d := by
  rw [mem_gH, mem_gH, gH_put]
  by_cases h : b = a <;> simp [h]
theorem NdH.len {d e : Hg} (h : NdH d) (h2 : NdH e) (q : ∀ a, a ∈ nmH d ↔ a ∈ nmH e) : d.length = e.length := by
  have : (nmH d).Perm (nmH e) := (List.perm_ext_iff_of_nodup h h2).mpr q
  simpa using this.length_eq

def tH (h : Hg) (a : Str) : TD := (gH h a).getD []
theorem gH_v {h : Hg} {a : Str} (m : a ∈ nmH h) : gH h a = some (tH h a) := by
  obtain ⟨i, hi⟩ := gH_of_mem m
  unfold tH; rw [hi]; rfl
def keepH (st : Stp) (h : Hg) : Hg := h.filter fun p => !decide (p.1 ∈ st.old)
theorem gH_keep (st : Stp) (h : Hg) (x : Str) : gH (keepH st h) x = if x ∈ st.old then none else gH h x := by
  induction h with
  | nil => simp [keepH, gH_nil]
  | cons p r ih =>
    obtain ⟨l, v⟩ := p
    have e : keepH st ((l, v) :: r) = if l ∈ st.old then keepH st r else (l, v) :: keepH st r := by
      unfold keepH
      rw [List.filter_cons]
      by_cases q : l ∈ st.old <;> simp [q]
    rw [e, gH_cons]
    by_cases q : l ∈ st.old
    · rw [if_pos q, ih]
      by_cases q2 : l = x
      · subst q2; simp [q]
      · simp [q2]
    · rw [if_neg q, gH_cons, ih]
      by_cases q2 : l = x
      · subst q2; simp [q]
      · simp [q2]
theorem keepH_nd {st : Stp} {h : Hg} (n : NdH h) : NdH (keepH st h) := by
  unfold NdH nmH keepH
  exact List.Nodup.sublist (List.Sublist.map _ List.filter_sublist) n
theorem keepH_len (st : Stp) (h : Hg) : (keepH st h).length ≤ h.length := List.length_filter_le _ _
/-- the newer form's -/
def behH (st : Stp) (h : Hg) (own : Str) : Hg := match st with
  | .add c _ => pH (keepH st h) c [own]
  | .drop _ => keepH st h
  | .name a c => pH (keepH st h) c (tH h a)
  | .shift a _ => pH (keepH st h) a (tH h a)
  | .turn a => pH (keepH st h) a (tH h a)
  | .part a c e _ => pH (pH (keepH st h) c (tH h a)) e (tH h a)
  | .join a b c _ => pH (keepH st h) c (mT (tH h a) (tH h b))
def tagS (st : Stp) (h : Hg) (own : Str) : TD := match st with
  | .add _ _ => [own]
  | .drop _ => []
  | .name a _ => tH h a
  | .shift a _ => tH h a
  | .turn a => tH h a
  | .part a _ _ _ => tH h a
  | .join a b _ _ => mT (tH h a) (tH h b)
theorem gH_beh (st : Stp) (h : Hg) (own x : Str) : gH (behH st h own) x = if x ∈ st.new then some (tagS st h own) else if x ∈ st.old then none else gH h x := by
  cases st <;> simp only [behH, gH_put, gH_keep, Stp.new, tagS, List.mem_cons, List.not_mem_nil, or_false, if_false] <;> grind
theorem mem_beh {st : Stp} {h : Hg} {own x : Str} : x ∈ nmH (behH st h own) ↔ (x ∈ nmH h ∧ x ∉ st.old) ∨ x ∈ st.new := by
  rw [mem_gH, gH_beh, mem_gH]
  by_cases q1 : x ∈ st.new
  · simp [q1]
  · by_cases q2 : x ∈ st.old
    · simp [q1, q2]
    · simp [q1, q2]
theorem nd_beh {st : Stp} {h : Hg} {own : Str} (n : NdH h) : NdH (behH st h own) := by
  have k := keepH_nd (st := st) n
  cases st <;> simp only [behH]
  · exact k.put _ _
  · exact k
  · exact k.put _ _
  · exact k.put _ _
  · exact k.put _ _
  · exact (k.put _ _).put _ _
  · exact k.put _ _
/-- a step's new tags hold the old ones' -/
theorem tag_old {st : Stp} {h : Hg} {own a : Str} (ha : a ∈ st.old) (hne : st.new ≠ []) {t : Str} (ht : t ∈ tH h a) : t ∈ tagS st h own := by
  cases st <;> simp only [Stp.old, List.mem_cons, List.not_mem_nil, or_false, tagS, mem_mT] at ha ⊢
  case drop => exact absurd rfl hne
  case join => rcases ha with rfl | rfl <;> simp [ht]
  all_goals (subst ha; exact ht)
/-! ### the whole: books and what their names hang on -/
structure HgOk (B : Bk) (own : Nat → Str) (H : Nat → Hg) : Prop where
  nd : ∀ i, i < B.nms.length → NdH (H i)
  mem : ∀ (i : Nat) (M : List Str), B.nms[i]? = some M → ∀ a, a ∈ nmH (H i) ↔ a ∈ M
  base : ∀ x, x ∈ nmH (H 0) → tH (H 0) x = [x]
  st : ∀ (i : Nat) (p : Nat × Stp), B.up i = some p → H i = behH p.2 (H p.1) (own i)
theorem back_old {st : Stp} {now D d r1 : Rd} (n : Int) (hD : D = forthR st d n) (f : Fits st (nm d)) (h : backR st now d = some r1) (hn : ∀ y ∈ st.new, gR now y = gR D y) {x : Str} (hx : x ∈ st.old) : gR r1 x = gR d x := by
  subst hD
  obtain ⟨r2, h2, e2⟩ := back_forth (n := n) (e := d) f (fun _ _ => rfl)
  rw [← e2 x]
  have v : ∀ y ∈ st.new, vR now y = vR (forthR st d n) y := fun y hy => by unfold vR; rw [hn y hy]
  cases st with
  | part a c e z =>
    simp only [backR] at h h2
    split at h
    · cases h
    · split at h2
      · cases h2
      · cases h; cases h2
        have v1 := v c (by simp [Stp.new])
        have v2 := v e (by simp [Stp.new])
        simp [Stp.old] at hx
        subst hx
        rw [gR_put, gR_put, if_pos rfl, if_pos rfl, v1, v2]
  | join a b c z =>
    cases h; cases h2
    have v1 := v c (by simp [Stp.new])
    simp only [gR_put, v1]
    simp [Stp.old] at hx
    rcases hx with rfl | rfl <;> simp
  | add c k => simp [Stp.old] at hx
  | drop a =>
    cases h; cases h2
    simp [Stp.old] at hx
    subst hx
    rw [gR_put, gR_put, if_pos rfl, if_pos rfl]
  | name a c =>
    cases h; cases h2
    have v1 := v c (by simp [Stp.new])
    simp [Stp.old] at hx
    subst hx
    rw [gR_put, gR_put, if_pos rfl, if_pos rfl, v1]
  | shift a k =>
    cases h; cases h2
    have v1 := v a (by simp [Stp.new])
    simp [Stp.old] at hx
    subst hx
    rw [gR_put, gR_put, if_pos rfl, if_pos rfl, v1]
  | turn a =>
    cases h; cases h2
    have v1 := v a (by simp [Stp.new])
    simp [Stp.old] at hx
    subst hx
    rw [gR_put, gR_put, if_pos rfl, if_pos rfl, v1]
/-- what changed, hangs on T -/
def Ch (H : Nat → Hg) (T : TD) (i : Nat) (now d : Rd) : Prop := ∀ x, gR now x ≠ gR d x → ∀ t ∈ tH (H i) x, t ∈ T
def OwCh (B : Bk) (own : Nat → Str) (T : TD) (ow ow' : Ow) : Prop := ∀ (j : Nat) (p : Nat × Stp), B.up j = some p → ownOf ow j p.2 ≠ ownOf ow' j p.2 → own j ∈ T
section
variable {B : Bk} (hB : B.Wf) {own : Nat → Str} {H : Nat → Hg} (hH : HgOk B own H) {r : Rd × Ow} (hr : NdR r.1 ∧ ∃ L, B.nms[0]? = some L ∧ ∀ a, a ∈ nm r.1 ↔ a ∈ L) {T : TD}
include hB hH hr
theorem back_ch : ∀ (i : Nat) (now : Rd) (ow : Ow) (q : Rd × Ow), i < B.nms.length → Like now (B.rd r i) → Ch H T i now (B.rd r i) → OwCh B own T ow r.2 → B.back r i now ow = some q → Ch H T 0 q.1 r.1 ∧ OwCh B own T q.2 r.2 := by
  intro i
  induction i using Nat.strongRecOn with
  | _ i ih =>
    intro now ow q hi hl hc ho hb
    have hlen := hB.len
    cases hu : B.up i with
    | none =>
      have : i = 0 := up0 (by omega) hu
      subst this
      rw [back_none' hu] at hb
      cases hb
      rw [rd_none hu] at hc
      exact ⟨hc, ho⟩
    | some p =>
      have hlt := up_lt hB.ord hu
      rw [back_some' hB.ord hu] at hb
      cases e : backR p.2 now (B.rd r p.1) with
      | none => rw [e] at hb; cases hb
      | some n1 =>
        rw [e] at hb
        obtain ⟨fits, nd, _⟩ := rd_fits hB hr hu
        have hHi := hH.st i p hu
        have mem := hl.mem
        rw [rd_some hB.ord hu] at mem hc
        refine ih p.1 hlt n1 _ q (by omega) (like_back hB hr hu hl e) (fun x hx t ht => ?_) (fun j p2 hj hne => ?_) hb
        · by_cases hold : x ∈ p.2.old
          · -- some new one changed
            by_cases hall : ∀ y ∈ p.2.new, gR now y = gR (forthR p.2 (B.rd r p.1) ((ownOf r.2 i p.2).getD 0)) y
            · exact absurd (back_old _ rfl fits e hall hold) hx
            · have ⟨y, hy⟩ := Classical.not_forall.mp hall
              have ⟨hy1, hy2⟩ := Classical.not_imp.mp hy
              have hne : p.2.new ≠ [] := fun z => by rw [z] at hy1; cases hy1
              refine hc y hy2 t ?_
              unfold tH
              rw [hHi, gH_beh, if_pos hy1]
              exact tag_old hold hne ht
          · by_cases hnew : x ∈ p.2.new
            · exfalso
              apply hx
              have h1 : x ∉ nm (B.rd r p.1) := fun z => hold (fits.new x hnew z)
              have h2 : x ∉ nm n1 := fun z => by
                rcases (mem_back e).mp z with z | z
                · exact z.2 hnew
                · exact hold z
              rw [gR_no h1, gR_no h2]
            · rw [gR_back_other e hnew hold] at hx
              refine hc x (by rw [gR_forth_other hnew hold]; exact hx) t ?_
              unfold tH at ht ⊢
              rw [hHi, gH_beh, if_neg hnew, if_neg hold]
              exact ht
        · by_cases q1 : j = i
          · subst q1
            rw [hu] at hj
            cases hj
            cases e2 : p.2 with
            | add c n =>
              rw [e2] at hne hc hHi
              have hne : some ((gO (pO ow j (vR now c)) j).getD n) ≠ some ((gO r.2 j).getD n) := hne
              rw [gO_put, if_pos rfl] at hne
              have h1 : gR now c ≠ gR (forthR (.add c n) (B.rd r p.1) ((ownOf r.2 j (.add c n)).getD 0)) c := fun z => by
                apply hne
                have v : vR now c = vR (forthR (.add c n) (B.rd r p.1) ((ownOf r.2 j (.add c n)).getD 0)) c := by unfold vR; rw [z]
                rw [v]
                show some (vR (pR _ c _) c) = _
                rw [vR_put, if_pos rfl]
                rfl
              refine hc c h1 _ ?_
              unfold tH
              rw [hHi, gH_beh, if_pos (by simp [Stp.new])]
              simp [tagS]
            | _ => rw [e2] at hne; exact absurd rfl hne
          · refine ho j p2 hj fun z => hne ?_
            cases e2 : p2.2 with
            | add c n =>
              rw [e2] at z
              have z : some ((gO ow j).getD n) = some ((gO r.2 j).getD n) := z
              show some ((gO _ j).getD n) = some ((gO r.2 j).getD n)
              rw [gO_ownP q1, z]
            | _ => rfl
theorem forth_ch {q : Rd × Ow} (hc : Ch H T 0 q.1 r.1) (ho : OwCh B own T q.2 r.2) : ∀ j, j < B.nms.length → ∀ x, (∀ t ∈ tH (H j) x, t ∉ T) → x ∈ nmH (H j) → gR (B.rd q j) x = gR (B.rd r j) x := by
  intro j
  induction j using Nat.strongRecOn with
  | _ j ih =>
    intro hj x hx hxn
    have hlen := hB.len
    cases hu : B.up j with
    | none =>
      have : j = 0 := up0 (by omega) hu
      subst this
      rw [rd_none hu, rd_none hu]
      refine Classical.byContradiction fun z => ?_
      have hb := hH.base x hxn
      have := hc x z x (by rw [hb]; simp)
      exact hx x (by rw [hb]; simp) this
    | some p =>
      have hlt := up_lt hB.ord hu
      obtain ⟨fits, nd, _⟩ := rd_fits hB hr hu
      have hHi := hH.st j p hu
      obtain ⟨_, L1, M1, hL1, _, _⟩ := hB.st j p hu
      have hmr := (rd_ok hB hr p.1 L1 hL1).2.1
      rw [rd_some hB.ord hu, rd_some hB.ord hu, forth_char, forth_char]
      by_cases hnew : x ∈ p.2.new
      · rw [if_pos hnew, if_pos hnew]
        have hne : p.2.new ≠ [] := fun z => by rw [z] at hnew; cases hnew
        have htx : ∀ t ∈ tagS p.2 (H p.1) (own j), t ∉ T := fun t ht => hx t (by unfold tH; rw [hHi, gH_beh, if_pos hnew]; exact ht)
        have hown : (ownOf q.2 j p.2).getD 0 = (ownOf r.2 j p.2).getD 0 := by
          refine congrArg (fun o : Option Int => o.getD 0) (Classical.byContradiction fun z => ?_)
          have h1 := ho j p hu z
          cases e2 : p.2 with
          | add c n =>
            rw [e2] at htx
            exact htx (own j) (by simp [tagS]) h1
          | _ => rw [e2] at z; exact z rfl
        rw [hown]
        congr 1
        refine valR_congr (fun a ha => ?_) _ _
        have := ih p.1 hlt (by omega) a (fun t ht => htx t (tag_old ha hne ht)) ((hH.mem p.1 L1 hL1 a).mpr ((hmr a).mp (fits.old a ha)))
        unfold vR; rw [this]
      · rw [if_neg hnew, if_neg hnew]
        by_cases hold : x ∈ p.2.old
        · rw [if_pos hold, if_pos hold]
        · rw [if_neg hold, if_neg hold]
          have e1 : tH (H j) x = tH (H p.1) x := by
            unfold tH
            rw [hHi, gH_beh, if_neg hnew, if_neg hold]
          refine ih p.1 hlt (by omega) x (fun t ht => hx t (by rw [e1]; exact ht)) ?_
          rw [hHi, mem_beh] at hxn
          rcases hxn with z | z
          · exact z.1
          · exact absurd z hnew
theorem stays {i : Nat} (hi : i < B.nms.length) {e : Rd} (he : NdR e) {q : Rd × Ow} (hm : ∀ a ∈ nm e, a ∈ nm (B.rd r i)) (hb : B.back r i (putA (B.rd r i) e) r.2 = some q) (hT : ∀ a ∈ nm e, ∀ t ∈ tH (H i) a, t ∈ T) : ∀ j, j < B.nms.length → ∀ x, (∀ t ∈ tH (H j) x, t ∉ T) → x ∈ nmH (H j) → gR (B.rd q j) x = gR (B.rd r j) x := by
  obtain ⟨L, hL⟩ : ∃ L, B.nms[i]? = some L := ⟨_, List.getElem?_eq_getElem hi⟩
  have ok := rd_ok hB hr i L hL
  have lk : Like (putA (B.rd r i) e) (B.rd r i) := changed_like (changedR_I hm) ok.1
  obtain ⟨h1, h2⟩ := back_ch hB hH hr (T := T) i _ r.2 q hi lk (fun x hx t ht => by
    rw [gR_putA he] at hx
    by_cases hxe : x ∈ nm e
    · exact hT x hxe t ht
    · rw [gR_no hxe] at hx
      exact absurd rfl hx) (fun j p hj z => absurd rfl z) hb
  exact forth_ch hB hH hr h1 h2
end
end K13

namespace K13
open PySem L2 Fm PB
set_option maxHeartbeats 0
/-- what the law draws of a step -/
structure Drawn (P L : List Str) (st : Stp) : Prop where
  fits : Fits st L
  l1 : st.old.length + 1 ≤ L.length + st.new.length
  l2 : L.length + st.new.length ≤ 12 + st.old.length
  nm : ∀ a, a ∈ st.old ∨ a ∈ st.new → a ∈ P
theorem r_l_step {s : Sto} (hs : insOk s) (c m : Int) {P L : List Str} (hP : P.Nodup) (hP2 : P.length = 26) (hn : L.Nodup) (h1 : 1 ≤ L.length) (h2 : L.length ≤ 12) (hLP : ∀ a ∈ L, a ∈ P) :
    ∃ st : Stp, p_l_step [.f (.int c), .f (.int m), .f (nsF P), .f (nsF L)] s = .ok (.w (.f st.f)) s ∧ Drawn P L st := by
  obtain ⟨fn, f14, f26⟩ := free_ok hP hP2 hn h2
  have dL : divOk (L.length : Int) = true := divOk_of (by omega)
  have hN0 : ¬ L.length = 0 := by omega
  have hr0 : ∀ i : Int, ∃ x, L2.atI (L.map F.str) (i.fmod (L.length : Int)) = some (.str x) ∧ x ∈ L := fun i => by
    obtain ⟨m1, m2⟩ := fmod_lt' i (n := (L.length : Int)) (by omega)
    obtain ⟨k, hk⟩ : ∃ k : Nat, i.fmod (L.length : Int) = k := ⟨_, (Int.toNat_of_nonneg m1).symm⟩
    rw [hk] at m2 ⊢
    have hk2 : k < L.length := by omega
    exact ⟨_, row_at (List.getElem?_eq_getElem hk2), List.getElem_mem _⟩
  obtain ⟨o, ho, hoL⟩ := hr0 (m.fdiv 3)
  obtain ⟨lo, hlo, hloL⟩ := hr0 (m.fdiv 3 + 1 + (m.fdiv 36).fmod 11)
  have l1 := lc_strs (i := 10) (it := iL (mVar 2)) (t := mB ninF (mVar 10) (mVar 3)) (sl := [.v (.f (.int c)), .v (.f (.int m)), .v (.f (nsF P)), .v (.f (nsF L)), .v (.f (.str o)), .v (.f (.str lo)), .no, .no, .no, .no, .no]) (s := s) (L := P) (p := fun x => !decide (x ∈ L)) (by simp) (by simp) (by omega) (by simp) (fun x hx => by simp [-ninF, nin_strs])
  have fmem : ∀ a ∈ P.filter (fun x => !decide (x ∈ L)), a ∈ P ∧ a ∉ L := fun a ha => by
    have := List.mem_filter.mp ha
    exact ⟨this.1, by simpa using this.2⟩
  generalize (P.filter fun x => !decide (x ∈ L)) = F0 at fn f14 f26 l1 fmem
  obtain ⟨a, b, ha, hb, hab, haF, hbF⟩ := ring fn (by omega) (m.fdiv 5)
  have dF : divOk (F0.length : Int) = true := divOk_of (by omega)
  have hF0 : ¬ F0.length = 0 := by omega
  have zz2 : 2 ≤ sizeLine := by decide
  have zz3 : 3 ≤ sizeLine := by decide
  have zz5 : 5 ≤ sizeLine := by decide
  have d3 : divOk 3 = true := divOk_of (by omega)
  have d36 : divOk 36 = true := divOk_of (by omega)
  have d5 : divOk 5 = true := divOk_of (by omega)
  have d7 : divOk 7 = true := divOk_of (by omega)
  obtain ⟨r, hr, he⟩ := run_of 11 b_l_step [.f (.int c), .f (.int m), .f (nsF P), .f (nsF L)] s
  have he : p_l_step [.f (.int c), .f (.int m), .f (nsF P), .f (nsF L)] s = outA s r := he
  rw [he]
  clear he
  unfold b_l_step at hr
  replace hr := step hr (sl' := [.v (.f (.int c)), .v (.f (.int m)), .v (.f (nsF P)), .v (.f (nsF L)), .v (.f (.str o)), .no, .no, .no, .no, .no, .no]) (by simp [ho, dL, hN0, d3])
  replace hr := step hr (sl' := [.v (.f (.int c)), .v (.f (.int m)), .v (.f (nsF P)), .v (.f (nsF L)), .v (.f (.str o)), .v (.f (.str lo)), .no, .no, .no, .no, .no]) (by simp [hlo, dL, hN0, d3, d36])
  replace hr := step hr (sl' := [.v (.f (.int c)), .v (.f (.int m)), .v (.f (nsF P)), .v (.f (nsF L)), .v (.f (.str o)), .v (.f (.str lo)), .v (.f (nsF F0)), .no, .no, .no, .no]) (by simp [l1])
  replace hr := step hr (sl' := [.v (.f (.int c)), .v (.f (.int m)), .v (.f (nsF P)), .v (.f (nsF L)), .v (.f (.str o)), .v (.f (.str lo)), .v (.f (nsF F0)), .v (.f (.lst [.str a, .str b])), .no, .no, .no]) (by simp [ha, hb, dF, hF0, d5, zz2])
  obtain ⟨z, hz, z2, z3⟩ : ∃ z, L2.atI [F.int (2 + m.fmod 70), .int (2 + m.fmod 999999)] ((m.fdiv 7).fmod 2) = some (.int z) ∧ 2 ≤ z ∧ z ≤ 1000000 := by
    obtain ⟨u1, u2⟩ := fmod_lt' (m.fdiv 7) (n := 2) (by decide)
    obtain ⟨v1, v2⟩ := fmod_lt' m (n := 70) (by decide)
    obtain ⟨w1, w2⟩ := fmod_lt' m (n := 999999) (by decide)
    generalize (m.fdiv 7).fmod 2 = u at u1 u2
    have : u = 0 ∨ u = 1 := by omega
    rcases this with rfl | rfl
    · exact ⟨_, rfl, by omega, by omega⟩
    · exact ⟨_, rfl, by omega, by omega⟩
  replace hr := step hr (sl' := [.v (.f (.int c)), .v (.f (.int m)), .v (.f (nsF P)), .v (.f (nsF L)), .v (.f (.str o)), .v (.f (.str lo)), .v (.f (nsF F0)), .v (.f (.lst [.str a, .str b])), .v (.f (.int z)), .no, .no]) (by simp [hz, d7, zz2])
  obtain ⟨m1, m2⟩ := fmod_lt' c (n := 7) (by decide)
  obtain ⟨k, hk⟩ : ∃ k : Int, c.fmod 7 = k := ⟨_, rfl⟩
  rw [hk] at m1 m2
  replace hr := step hr (sl' := [.v (.f (.int c)), .v (.f (.int m)), .v (.f (nsF P)), .v (.f (nsF L)), .v (.f (.str o)), .v (.f (.str lo)), .v (.f (nsF F0)), .v (.f (.lst [.str a, .str b])), .v (.f (.int z)), .v (.f (.int k)), .no]) (by simp [hk])
  have hmu : mulOk m 48271 = true := mulOk_of (.inr (by decide))
  have d20 : divOk 2000003 = true := divOk_of (by omega)
  have fin : ∀ st : Stp, Drawn P L st → r = .rt (.w (.f st.f)) s → ∃ st, outA s r = .ok (.w (.f st.f)) s ∧ Drawn P L st := fun st h1 h2 => ⟨st, by rw [h2]; simp [outA, bOk_self hs, back_self], h1⟩
  have haL := (fmem a haF).2
  have hbL := (fmem b hbF).2
  have hao : a ≠ o := fun h => haL (h ▸ hoL)
  have hbo : b ≠ o := fun h => hbL (h ▸ hoL)
  have dr : ∀ st : Stp, Fits st L → st.old.length + 1 ≤ L.length + st.new.length → L.length + st.new.length ≤ 12 + st.old.length → (∀ x, x ∈ st.old ∨ x ∈ st.new → x = o ∨ x = lo ∨ x = a ∨ x = b) → Drawn P L st := fun st f q1 q2 q3 => ⟨f, q1, q2, fun x hx => by
    rcases q3 x hx with rfl | rfl | rfl | rfl
    · exact hLP _ hoL
    · exact hLP _ hloL
    · exact (fmem _ haF).1
    · exact (fmem _ hbF).1⟩
  have turnD : Drawn P L (.turn o) := dr _ ⟨trivial, by simp [Stp.old, hoL], by simp [Stp.old, Stp.new]⟩ (by simp [Stp.old, Stp.new] <;> omega) (by simp [Stp.old, Stp.new] <;> omega) (by simp [Stp.old, Stp.new])
  have k7 : k = 0 ∨ k = 1 ∨ k = 2 ∨ k = 3 ∨ k = 4 ∨ k = 5 ∨ k = 6 := by omega
  rcases k7 with rfl | rfl | rfl | rfl | rfl | rfl | rfl
  · by_cases q : L.length < 12
    · have q' : (L.length : Int) < 12 := by omega
      exact fin (.add a ((m * 48271).fmod 2000003 - 1000001)) (dr _ ⟨trivial, by simp [Stp.old], by simp [Stp.new, haL]⟩ (by simp [Stp.old, Stp.new] <;> omega) (by simp [Stp.old, Stp.new] <;> omega) (by simp [Stp.old, Stp.new])) (by rw [← hr]; simp [q', hmu, zz3, Stp.l, d20])
    · have q' : ¬ (L.length : Int) < 12 := by omega
      exact fin _ turnD (by rw [← hr]; simp [q', zz2, Stp.l])
  · by_cases q : 1 < L.length
    · have q' : (1 : Int) < L.length := by omega
      exact fin (.drop o) (dr _ ⟨trivial, by simp [Stp.old, hoL], by simp [Stp.new]⟩ (by simp [Stp.old, Stp.new] <;> omega) (by simp [Stp.old, Stp.new] <;> omega) (by simp [Stp.old, Stp.new])) (by rw [← hr]; simp [q', zz2, Stp.l])
    · have q' : ¬ (1 : Int) < L.length := by omega
      exact fin _ turnD (by rw [← hr]; simp [q', zz2, Stp.l])
  · exact fin (.name o a) (dr _ ⟨trivial, by simp [Stp.old, hoL], by simp [Stp.new, haL]⟩ (by simp [Stp.old, Stp.new] <;> omega) (by simp [Stp.old, Stp.new] <;> omega) (by simp [Stp.old, Stp.new])) (by rw [← hr]; simp [zz3, Stp.l])
  · exact fin (.shift o ((m * 48271).fmod 2000003 - 1000001)) (dr _ ⟨trivial, by simp [Stp.old, hoL], by simp [Stp.old, Stp.new]⟩ (by simp [Stp.old, Stp.new] <;> omega) (by simp [Stp.old, Stp.new] <;> omega) (by simp [Stp.old, Stp.new])) (by rw [← hr]; simp [zz3, hmu, Stp.l, d20])
  · exact fin _ turnD (by rw [← hr]; simp [zz2, Stp.l])
  · by_cases q : L.length < 12
    · have q' : (L.length : Int) < 12 := by omega
      exact fin (.part o a b z) (dr _ ⟨⟨hab, z2, z3⟩, by simp [Stp.old, hoL], by simp [Stp.new, haL, hbL]⟩ (by simp [Stp.old, Stp.new]) (by simp [Stp.old, Stp.new] <;> omega) (by simp [Stp.old, Stp.new])) (by rw [← hr]; simp [q', zz5, Stp.l])
    · have q' : ¬ (L.length : Int) < 12 := by omega
      exact fin _ turnD (by rw [← hr]; simp [q', zz2, Stp.l])
  · by_cases q : o = lo
    · exact fin _ turnD (by rw [← hr]; simp [q, zz2, Stp.l])
    · have hl2 : 2 ≤ L.length := by
        have := List.Nodup.length_le_of_subset (l₁ := [o, lo]) (l₂ := L) (by simp [q]) (fun x hx => by simp at hx; rcases hx with rfl | rfl <;> assumption)
        simpa using this
      exact fin (.join o lo a z) (dr _ ⟨⟨q, z2, z3⟩, by simp [Stp.old, hoL, hloL], by simp [Stp.new, haL]⟩ (by simp [Stp.old, Stp.new] <;> omega) (by simp [Stp.old, Stp.new] <;> omega) (by simp [Stp.old, Stp.new]; grind)) (by rw [← hr]; simp [q, zz5, Stp.l])
theorem rg2 : ∀ h : Nat, h ≤ 64 → ((2 : Int) ≠ 0 ∧ (2 : Int).natAbs < 1073741824 ∧ Builtin.Range.small 2 (min ((h : Int) - 1) 16) 2 = true ∧ 0 ≤ Builtin.Range.rangeSize 2 (min ((h : Int) - 1) 16) 2) ∧ (Builtin.Range.rangeSize 2 (min ((h : Int) - 1) 16) 2).toNat ≤ 7 ∧ ∀ j, j < (Builtin.Range.rangeSize 2 (min ((h : Int) - 1) 16) 2).toNat → 2 + 2 * j + 1 < h := by decide +kernel
theorem rg_at {a c : Int} {n : Nat} {pre post : List F} {x : F} (h : rgF a c n = pre ++ x :: post) : x = .int (a + (pre.length : Int) * c) ∧ pre.length < n := by
  have hl : n = pre.length + (post.length + 1) := by
    have := congrArg List.length h
    simp [rgF] at this
    omega
  have h2 : (rgF a c n)[pre.length]? = (pre ++ x :: post)[pre.length]? := by rw [h]
  rw [List.getElem?_append_right (Nat.le_refl _), Nat.sub_self, List.getElem?_cons_zero] at h2
  unfold rgF at h2
  rw [List.getElem?_map, List.getElem?_range (by omega)] at h2
  exact ⟨(Option.some.inj h2).symm, by omega⟩
/-- all readings of a record, by the law -/
theorem r_l_all {B : Bk} {post : List Ct} {lk : List W} (hp : Plain post) (hB : B.Wf) {k n : Nat} {r : Rd × Ow} (hk : B.rcs[k]? = some r) (hn : n ≤ B.nms.length) : p_l_all [.c 0, .f (.int (k : Int)), .f (.int (n : Int))] (bS B post lk) = .ok (.fr (.lst (B.all r n))) (bS B post lk) := by
  have hs : insOk (bS B post lk) := insOkB hp
  have h30 := hB.n30
  have hlen := hB.len
  have hb : inB (n : Int) = true := inB_of2 (by omega)
  have lc : mLc 3 (iR1 (mVar 2)) (mC (.bl true)) (mMeth p_B_reading "reading" (mVar 0) (aCons (mVar 1) (aCons (mVar 3) aNil))) [.v (.c 0), .v (.f (.int (k : Int))), .v (.f (.int (n : Int))), .no] (bS B post lk) = .ok (.fr (.lst (B.all r n))) (bS B post lk) := by
    refine mLc_eq (s1 := bS B post lk) (xs := rgF 0 1 n) rfl (by simp [hb]) ?_ (Nat.le_trans (show _ ≤ 30 by simp; omega) (by decide))
    have := compF_map (i := 3) (s := bS B post lk) (e := mMeth p_B_reading "reading" (mVar 0) (aCons (mVar 1) (aCons (mVar 3) aNil))) (sl := [.v (.c 0), .v (.f (.int (k : Int))), .v (.f (.int (n : Int))), .no]) (f := fun x => match x with
      | .int j => rF (B.rd r j.toNat)
      | x => x) (rgF 0 1 n) (fun x hx => by
      obtain ⟨j, hj, rfl⟩ := rgF_mem hx
      have hrd := r_reading (lk := lk) hp hB hk (i := j) (by omega)
      simp only [Int.zero_add, Int.toNat_natCast]
      exact ⟨.fr (.dct (rK (B.rd r j))), by simp [hrd], rfl⟩)
    refine this.trans ?_
    congr 1
    unfold rgF Bk.all
    rw [List.map_map]
    apply List.map_congr_left
    intro j _
    simp
  refine runA_fr hs ?_
  simp [b_l_all, lc]
theorem r_l_number {s : Sto} (hs : insOk s) (c k : Int) (h0 : 0 ≤ k) (h1 : k < 1000) : ∃ i, p_l_number [.f (.int c), .f (.int k)] s = .ok (.w (.f (.int i))) s := by
  have m37 : mulOk 37 k = true := mulOk_of (.inl (by decide))
  have hm : mulOk (c + k) 48271 = true := mulOk_of (.inr (by decide))
  have hm2 : mulOk 2 (10 ^ 12) = true := mulOk_of (.inl (by decide))
  have d2 : divOk 2 = true := divOk_of (by omega)
  by_cases q : c.fmod 2 = 0
  · exact ⟨_, runA_rt hs (by simp [b_l_number, q, m37]; rfl)⟩
  · exact ⟨_, runA_rt hs (by simp [b_l_number, q, hm, hm2]; rfl)⟩

def ownT (i : Nat) : Str := Str.ofString "own" ++ Str.ofString ((i : Int).repr)
theorem own_ok : ∀ i : Nat, i < 40 → i.log2 < 1920 ∧ (Str.ofString "own").length + (Str.ofString ((i : Int).repr)).length ≤ 100 := by decide +kernel
abbrev bodyK : MS := (sIf (mOr (mB eqF (mB ixF (mVar 0) (mC (.int 0))) (mC (.str "add"))) (mAnd (mB neF (mVar 4) (mB ixF (mVar 0) (mC (.int 1)))) (mOr (mB neF (mB ixF (mVar 0) (mC (.int 0))) (mC (.str "join"))) (mB neF (mVar 4) (mB ixF (mVar 0) (mC (.int 2))))))) (sPutD (mVar 3) (mVar 4) (mB dgetF (mVar 1) (mVar 4))) sSkip)
theorem keysF_hK (h : Hg) : keysF (hK h) = (nmH h).map F.str := by
  simp [keysF, hK, nmH, kF, List.map_map]
theorem pH_new {d : Hg} {a : Str} (h : a ∉ nmH d) (i : TD) : pH d a i = d ++ [(a, i)] := by
  unfold pH
  rw [if_neg]
  intro q
  obtain ⟨p, hp, e⟩ := List.any_eq_true.mp q
  exact h (List.mem_map.mpr ⟨p, hp, by simpa using e⟩)
theorem gH_mem {d : Hg} (h : NdH d) {a : Str} {i : TD} (m : (a, i) ∈ d) : gH d a = some i := by
  induction d with
  | nil => cases m
  | cons p r ih =>
    obtain ⟨l, y⟩ := p
    rw [gH_cons]
    have h : (l :: nmH r).Nodup := h
    rw [List.nodup_cons] at h
    rcases List.mem_cons.mp m with e | m
    · cases e; simp
    · rw [if_neg fun z => h.1 (by rw [z]; exact List.mem_map.mpr ⟨_, m, rfl⟩)]
      exact ih h.2 m
theorem keep_loop {s : Sto} (d : Hg) (hn : NdH d) (hl : d.length ≤ 1000) (st : Stp) (x2 x4 x5 : Sl) :
    ∃ y, loopF 4 bodyK ((nmH d).map F.str) [.v (.f st.f), .v (.f (hF d)), x2, .own (.dct []), x4, x5] s = .nx [.v (.f st.f), .v (.f (hF d)), x2, .own (.dct (hK (keepH st d))), y, x5] s := by
  obtain ⟨sl', lp, y, rfl⟩ := loop_strs (i := 4) (s := s) (body := bodyK) (fun pre sl => ∃ y, sl = [.v (.f st.f), .v (.f (hF d)), x2, .own (.dct (hK (keepH st (d.take pre.length)))), y, x5]) (nmH d) [.v (.f st.f), .v (.f (hF d)), x2, .own (.dct []), x4, x5] ⟨x4, rfl⟩ (fun pre x post e sl ⟨y, es⟩ => by
    subst es
    have hpl : pre.length < d.length := by
      have := congrArg List.length e
      simp at this
      omega
    have hx : (d[pre.length]).1 = x := by
      have h1 : (nmH d)[pre.length]? = some x := by rw [e]; simp
      rw [List.getElem?_map, List.getElem?_eq_getElem hpl] at h1
      exact Option.some.inj h1
    have hg : gH d x = some (d[pre.length]).2 := gH_mem hn (by rw [← hx]; exact List.getElem_mem hpl)
    have hxn : x ∉ nmH (keepH st (d.take pre.length)) := fun h => by
      obtain ⟨p, hp, ep⟩ := List.mem_map.mp h
      have hp := (List.mem_filter.mp hp).1
      have hnp : x ∈ pre := by
        have : nmH (d.take pre.length) = pre := by
          unfold nmH
          rw [List.map_take]
          show (nmH d).take pre.length = pre
          rw [e]; simp
        rw [← this, ← ep]
        exact List.mem_map.mpr ⟨p, hp, rfl⟩
      have hn : (nmH d).Nodup := hn
      rw [e, List.nodup_append] at hn
      exact hn.2.2 x hnp x (by simp) rfl
    have htake : d.take (pre ++ [x]).length = d.take pre.length ++ [(x, (d[pre.length]).2)] := by
      rw [List.length_append, List.length_singleton, List.take_add_one, List.getElem?_eq_getElem hpl]
      show _ ++ [d[pre.length]] = _
      congr 2
      rw [← hx]
    have hzl : (keepH st (d.take pre.length)).length < sizeLine := ltz (Nat.le_trans (keepH_len _ _) (show (d.take pre.length).length ≤ 1000 by rw [List.length_take]; omega)) (by decide)
    generalize (d[pre.length]).2 = i at hg htake
    rw [htake]
    have hk : keepH st (d.take pre.length ++ [(x, i)]) = if x ∈ st.old then keepH st (d.take pre.length) else pH (keepH st (d.take pre.length)) x i := by
      rw [pH_new hxn]
      unfold keepH
      rw [List.filter_append]
      by_cases q : x ∈ st.old
      · simp [q]
      · simp [q]
    rw [hk]
    generalize keepH st (d.take pre.length) = A at hzl hxn
    have ev : ∀ sl : List Sl, sl = [.v (.f st.f), .v (.f (hF d)), x2, .own (.dct (hK A)), .v (.f (.str x)), x5] → (mOr (mB eqF (mB ixF (mVar 0) (mC (.int 0))) (mC (.str "add"))) (mAnd (mB neF (mVar 4) (mB ixF (mVar 0) (mC (.int 1)))) (mOr (mB neF (mB ixF (mVar 0) (mC (.int 0))) (mC (.str "join"))) (mB neF (mVar 4) (mB ixF (mVar 0) (mC (.int 2))))))) sl s = .ok (.w (.f (.bl (!decide (x ∈ st.old))))) s := fun sl es => by
      subst es
      cases st with
      | join a b c z =>
        by_cases q1 : x = a <;> by_cases q2 : x = b <;> simp [Stp.l, Stp.old, q1, q2]
        all_goals grind
      | add c n => simp [Stp.l, Stp.old]
      | drop a => by_cases q1 : x = a <;> simp [Stp.l, Stp.old, q1]
      | name a c => by_cases q1 : x = a <;> simp [Stp.l, Stp.old, q1]
      | shift a n => by_cases q1 : x = a <;> simp [Stp.l, Stp.old, q1]
      | turn a => by_cases q1 : x = a <;> simp [Stp.l, Stp.old, q1]
      | part a c e z => by_cases q1 : x = a <;> simp [Stp.l, Stp.old, q1]
    have ev := ev _ rfl
    refine ⟨[.v (.f st.f), .v (.f (hF d)), x2, .own (.dct (hK (if x ∈ st.old then A else pH A x i))), .v (.f (.str x)), x5], ?_, _, rfl⟩
    show bodyK [.v (.f st.f), .v (.f (hF d)), x2, .own (.dct (hK A)), .v (.f (.str x)), x5] s = _
    unfold bodyK
    rw [e_sIf, ev]
    by_cases q : x ∈ st.old
    · simp [q]
    · simp [q, hg, hzl])
  refine ⟨y, ?_⟩
  rw [lp]
  unfold nmH
  rw [List.length_map, List.take_length]
theorem dict_tF (t : TD) : dictF [tF t] = .new (.dct (tK t)) := rfl
theorem r_l_hangs_behind {s : Sto} (hs : insOk s) (hlk : s.lk = []) {h : Hg} (hn : NdH h) (hl : h.length ≤ 1000) {st : Stp} (fit : ∀ a ∈ st.old, a ∈ nmH h) {i : Nat} (hi : i < 40) (ht : ∀ a, (tH h a).length ≤ 100) : p_l_hangs_behind [.f st.f, .f (hF h), .f (.int (i : Int))] s = .ok (.fr (.dct (hK (behH st h (ownT i))))) s := by
  have hk : (keepH st h).length < sizeLine := ltz (Nat.le_trans (keepH_len _ _) hl) (by decide)
  have hp : ∀ c v, (pH (keepH st h) c v).length < sizeLine := fun c v => ltz (Nat.le_trans (pH_len _ _ _) (Nat.succ_le_succ (Nat.le_trans (keepH_len _ _) hl))) (by decide)
  obtain ⟨y, lp⟩ := keep_loop (s := { s with lk := [.f (hF h)] }) h hn hl st (.v (.f (.int (i : Int)))) .no .no
  obtain ⟨o1, o2⟩ := own_ok i hi
  have o3 : (Str.ofString "own").length + (Str.ofString ((i : Int).repr)).length ≤ sizeLine := Nat.le_trans o2 (by decide)
  obtain ⟨r, hr, he⟩ := run_of 6 b_l_hangs_behind [.f st.f, .f (hF h), .f (.int (i : Int))] s
  show runA 6 b_l_hangs_behind _ _ = _
  rw [he]
  clear he
  unfold b_l_hangs_behind at hr
  replace hr := step hr (sl' := [.v (.f st.f), .v (.f (hF h)), .v (.f (.int (i : Int))), .own (.dct []), .no, .no]) (by simp)
  replace hr := step hr (sl' := [.v (.f st.f), .v (.f (hF h)), .v (.f (.int (i : Int))), .own (.dct (hK (keepH st h))), y, .no]) (by
    rw [e_sForD, dW_eq (y := .w (.f (hF h))) (kvs := hK h) (s1 := s) (by simp) (by simp) (by simp [unlk, hlk])]
    simp only [Fm.R.st_ok, e_kFD, keysF_hK]
    have e2 : ({ s with lk := frz (.w (.f (hF h))) :: s.lk } : Sto) = { s with lk := [.f (hF h)] } := by rw [hlk]; rfl
    rw [e2, lp]
    cases s
    simp at hlk
    subst hlk
    rfl)
  have fin : ∀ D : Hg, r = .rt (.fr (.dct (hK D))) s → outA s r = .ok (.fr (.dct (hK D))) s := fun D q => by rw [q, outA_dct hs]
  apply fin
  have pk2 : ∀ (K : Hg) (a : Str) (t : TD), pK (hK K) (.inr a) (.dct (tK t)) = hK (pH K a t) := fun K a t => pK_hK K a t
  clear lp
  have ga : ∀ a ∈ st.old, gH h a = some (tH h a) := fun a ha => gH_v (fit a ha)
  cases st with
  | add c n =>
    simp only [behH]
    generalize keepH _ h = K at *
    have md : mDct [((mB addF (mC (.str "own")) (mN strF (aCons (mVar 2) aNil))), (mC (.bl true)))] [.v (.f (Stp.add c n).f), .v (.f (hF h)), .v (.f (.int (i : Int))), .own (.dct (hK K)), y, .no] s = .ok (.fr (.dct (tK [ownT i]))) s := by
      simp [o1, o3]
      rfl
    rw [← hr]
    simp [-mDct, md, Stp.l, hk, pk2]
  | drop a =>
    simp only [behH]
    generalize keepH _ h = K at *
    rw [← hr]
    simp [Stp.l]
  | name a c =>
    simp only [behH]
    generalize keepH _ h = K at *
    have g := ga a (by simp [Stp.old])
    rw [← hr]
    simp [Stp.l, g, hk]
  | shift a n =>
    simp only [behH]
    generalize keepH _ h = K at *
    have g := ga a (by simp [Stp.old])
    rw [← hr]
    simp [Stp.l, g, hk]
  | turn a =>
    simp only [behH]
    generalize keepH _ h = K at *
    have g := ga a (by simp [Stp.old])
    rw [← hr]
    simp [Stp.l, g, hk]
  | part a c e z =>
    simp only [behH]
    generalize keepH _ h = K at *
    have g := ga a (by simp [Stp.old])
    rw [← hr]
    simp [Stp.l, g, hk, hp]
  | join a b c z =>
    simp only [behH]
    generalize keepH _ h = K at *
    have g := ga a (by simp [Stp.old])
    have g2 := ga b (by simp [Stp.old])
    have hz : (tK (tH h a)).length + (tK (tH h b)).length ≤ sizeLine := Nat.le_trans (show _ ≤ 200 by rw [tK_len, tK_len]; have := ht a; have := ht b; omega) (by decide)
    generalize hJ : (sSeq (sOwn 5 (mN dictF (aCons (mB dgetF (mVar 1) (mB ixF (mVar 0) (mC (.int 1)))) aNil))) (sSeq (sUpdD (mVar 5) (mB dgetF (mVar 1) (mB ixF (mVar 0) (mC (.int 2))))) (sSeq (sFrz 5) (sPutD (mVar 3) (mB ixF (mVar 0) (mC (.int 3))) (mVar 5))))) = J at hr
    have j1 : J [.v (.f (Stp.join a b c z).f), .v (.f (hF h)), .v (.f (.int (i : Int))), .own (.dct (hK K)), y, .no] s = .nx [.v (.f (Stp.join a b c z).f), .v (.f (hF h)), .v (.f (.int (i : Int))), .own (.dct (hK (pH K c (mT (tH h a) (tH h b))))), y, .v (.f (.dct (tK (mT (tH h a) (tH h b)))))] s := by
      rw [← hJ]
      rw [st1 (sl' := [.v (.f (Stp.join a b c z).f), .v (.f (hF h)), .v (.f (.int (i : Int))), .own (.dct (hK K)), y, .own (.dct (tK (tH h a)))]) (s' := s) (by simp [Stp.l, g, tF])]
      rw [st1 (e_upd (i := 5) (kvs := tK (tH h a)) (more := tK (tH h b)) (y := .w (.f (tF (tH h b)))) rfl (by simp [Stp.l, g2]) rfl hz)]
      rw [mK_tK]
      rw [st1 (sl' := [.v (.f (Stp.join a b c z).f), .v (.f (hF h)), .v (.f (.int (i : Int))), .own (.dct (hK K)), y, .v (.f (.dct (tK (mT (tH h a) (tH h b)))))]) (s' := s) (by simp)]
      simp [Stp.l, hk, pk2]
    rw [← hr]
    simp [Stp.l, j1]
end K13

namespace K13
open PySem L2 Fm PB
set_option maxHeartbeats 0
abbrev allT (N : List Str) : List Str := N ++ (List.range 40).map ownT
structure Gn (P N : List Str) (n : Nat) (B : Bk) (H : Nat → Hg) : Prop where
  wf : B.Wf
  ln : B.nms.length = n + 1
  h0 : B.nms[0]? = some N
  sub : ∀ (i : Nat) (M : List Str), B.nms[i]? = some M → ∀ a ∈ M, a ∈ P
  rc : B.rcs = []
  hg : HgOk B ownT H
  tn : ∀ i, i ≤ n → ∀ a, (tH (H i) a).Nodup
  ts : ∀ i, i ≤ n → ∀ a, tH (H i) a ⊆ allT N
theorem Gn.tl {P N : List Str} {n : Nat} {B : Bk} {H : Nat → Hg} (g : Gn P N n B H) {i : Nat} (hi : i ≤ n) (a : Str) : (tH (H i) a).length ≤ 52 := by
  have h0 := (g.wf.nd 0 N g.h0).2.2
  have := List.Nodup.length_le_of_subset (g.tn i hi a) (g.ts i hi a)
  simp at this
  omega
theorem tH_beh {st : Stp} {h : Hg} {own x : Str} : tH (behH st h own) x = if x ∈ st.new then tagS st h own else if x ∈ st.old then [] else tH h x := by
  unfold tH
  rw [gH_beh]
  split
  · rfl
  · split <;> rfl
theorem tag_nd {st : Stp} {h : Hg} {own : Str} (hn : ∀ a, (tH h a).Nodup) : (tagS st h own).Nodup := by
  cases st <;> simp only [tagS]
  · simp
  · simp
  all_goals first | exact hn _ | exact mT_nd (hn _)
theorem tag_sub {st : Stp} {h : Hg} {own : Str} {A : List Str} (hs : ∀ a, tH h a ⊆ A) (ho : own ∈ A) : tagS st h own ⊆ A := by
  cases st <;> simp only [tagS]
  · intro x hx
    simp at hx
    subst hx
    exact ho
  · intro x hx; cases hx
  all_goals first | exact hs _ | exact mT_sub (hs _) (hs _)
theorem Gn.grow {P N : List Str} {n : Nat} {B : Bk} {H : Nat → Hg} (g : Gn P N n B H) (hn : n < 20) (hPn : ∀ a ∈ P, isNm (.str a) = true) {i : Nat} (hi : i ≤ n) {st : Stp} (d : Drawn P (nmH (H i)) st) :
    ∃ M, Gn P N (n + 1) (B.grow i st M) (fun j => if j = n + 1 then behH st (H i) (ownT (n + 1)) else H j) ∧ p_B_grow [.c 0, .f (.int (i : Int)), .f st.f] (bS B [] []) = .ok (.w (.f (.int ((n + 1 : Nat) : Int)))) (bS (B.grow i st M) [] []) := by
  have hpn : Plain [] := fun c h => by cases h
  have hl := g.ln
  have hlen := g.wf.len
  obtain ⟨M0, hM0⟩ : ∃ M, B.nms[i]? = some M := ⟨_, List.getElem?_eq_getElem (by omega)⟩
  obtain ⟨q4, q5, q6⟩ := g.wf.nd i M0 hM0
  have q2 := g.hg.mem i M0 hM0
  have qn := g.hg.nd i (by omega)
  have qp : (nmH (H i)).length = M0.length := ((List.perm_ext_iff_of_nodup qn q4).mpr q2).length_eq
  have f : Fits st M0 := ⟨d.fits.wf, fun a ha => (q2 a).mp (d.fits.old a ha), fun a ha hM => d.fits.new a ha ((q2 a).mpr hM)⟩
  have l1 := d.l1
  have l2 := d.l2
  rw [qp] at l1 l2
  have nb := nb_of q4 f (by omega) (by omega)
  have hC := g.wf.grow hM0 f.wf nb (by omega)
  have nbm := nb_mem nb q4 f.wf
  have own1 : ownT (n + 1) ∈ allT N := List.mem_append_right _ (List.mem_map.mpr ⟨n + 1, List.mem_range.mpr (by omega), rfl⟩)
  refine ⟨nbF st M0, ⟨hC, ?_, ?_, fun j M hj => ?_, g.rc, ⟨fun j hj => ?_, fun j M hj a => ?_, fun x hx => ?_, fun j p hu => ?_⟩, fun j hj a => ?_, fun j hj a => ?_⟩, ?_⟩
  · show (B.nms ++ [nbF st M0]).length = _
    simp [hl]
  · show (B.nms ++ [nbF st M0])[0]? = _
    rw [List.getElem?_append_left (by omega)]; exact g.h0
  · have hj : (B.nms ++ [nbF st M0])[j]? = some M := hj
    by_cases q : j < B.nms.length
    · rw [List.getElem?_append_left q] at hj; exact g.sub j M hj
    · rw [List.getElem?_append_right (by omega)] at hj
      cases e : j - B.nms.length with
      | zero =>
        rw [e] at hj; cases hj
        intro a ha
        rcases (nbm.2 a).mp ha with z | z
        · exact g.sub i M0 hM0 a z.1
        · exact d.nm a (.inr z)
      | succ j => rw [e] at hj; cases hj
  · have hj : j < (B.nms ++ [nbF st M0]).length := hj
    rw [List.length_append, List.length_singleton] at hj
    show NdH (if _ then _ else _)
    split
    · exact nd_beh qn
    · exact g.hg.nd j (by omega)
  · have hj : (B.nms ++ [nbF st M0])[j]? = some M := hj
    show a ∈ nmH (if _ then _ else _) ↔ _
    by_cases q : j < B.nms.length
    · rw [List.getElem?_append_left q] at hj
      rw [if_neg (by omega)]
      exact g.hg.mem j M hj a
    · rw [List.getElem?_append_right (by omega)] at hj
      cases e : j - B.nms.length with
      | zero =>
        rw [e] at hj; cases hj
        rw [if_pos (by omega), mem_beh, nbm.2, q2]
      | succ j => rw [e] at hj; cases hj
  · exact g.hg.base x hx
  · show (if _ then _ else _) = behH _ (if _ then _ else _) _
    rw [up_grow] at hu
    split at hu
    · rename_i q
      cases hu
      rw [if_pos (by omega), if_neg (by show ¬ i = n + 1; omega), show j = n + 1 by omega]
    · rename_i q
      have hlt := up_lt g.wf.ord hu
      have hj : j < B.nms.length := by
        refine Classical.byContradiction fun z => ?_
        cases j with
        | zero => cases hu
        | succ j =>
          have hu : B.stp[j]? = some p := hu
          have := (List.getElem?_eq_some_iff.mp hu).1
          omega
      rw [if_neg (by omega), if_neg (by omega)]
      exact g.hg.st j p hu
  · show (tH (if _ then _ else _) a).Nodup
    split
    · rw [tH_beh]
      split
      · exact tag_nd (g.tn i hi)
      · split
        · simp
        · exact g.tn i hi a
    · exact g.tn j (by omega) a
  · show tH (if _ then _ else _) a ⊆ _
    split
    · rw [tH_beh]
      split
      · exact tag_sub (g.ts i hi) own1
      · split
        · intro x hx; cases hx
        · exact g.ts i hi a
    · exact g.ts j (by omega) a
  · have hg := r_grow hpn hM0 q6 g.wf.n30 (by omega) (fun {s} hs => is_step_ok hs d.fits.wf (fun a ha => hPn a (d.nm a (.inl ha))) (fun a ha => hPn a (d.nm a (.inr ha))))
    rw [nb] at hg
    simp only at hg
    rw [if_pos (by omega), hl] at hg
    exact hg
abbrev HSl (H : Nat → Hg) (n : Nat) : List F := (List.range (n + 1)).map fun i => hF (H i)
theorem HSl_at {H : Nat → Hg} {n i : Nat} (hi : i ≤ n) : L2.atI (HSl H n) (i : Int) = some (hF (H i)) := by
  rw [Fm.atI_nat (by simp; omega)]
  simp
theorem HSl_len (H : Nat → Hg) (n : Nat) : (HSl H n).length = n + 1 := by simp
theorem HSl_more (H : Nat → Hg) (n : Nat) (h : Hg) : HSl H n ++ [hF h] = HSl (fun j => if j = n + 1 then h else H j) (n + 1) := by
  unfold HSl
  rw [List.range_succ (n := n + 1), List.map_append]
  congr 1
  · apply List.map_congr_left
    intro j hj
    have := List.mem_range.mp hj
    show hF (H j) = hF (if j = n + 1 then h else H j)
    rw [if_neg (by omega)]
  · simp
/-- at first -/
def hg0 (L : List Str) : Hg := L.map fun x => (x, [x])
theorem gH_hg0 {L : List Str} {x : Str} : gH (hg0 L) x = if x ∈ L then some [x] else none := by
  induction L with
  | nil => rfl
  | cons a L ih =>
    show gH ((a, [a]) :: hg0 L) x = _
    rw [gH_cons, ih]
    by_cases q : a = x
    · simp [q]
    · have : ¬ x = a := fun z => q z.symm
      simp [q, this]
theorem nm_hg0 (L : List Str) : nmH (hg0 L) = L := by
  unfold nmH hg0
  rw [List.map_map]
  exact List.map_id L
theorem gn0 {P N : List Str} (hn : N.Nodup) (h1 : 1 ≤ N.length) (h2 : N.length ≤ 12) (hsub : ∀ a ∈ N, a ∈ P) : Gn P N 0 (newBk N) (fun _ => hg0 N) := by
  have tb : ∀ a, tH (hg0 N) a = if a ∈ N then [a] else [] := fun a => by
    unfold tH
    rw [gH_hg0]
    split <;> rfl
  refine ⟨new_wf hn h1 h2, rfl, rfl, fun i M h => ?_, rfl, ⟨fun i _ => ?_, fun i M h a => ?_, fun x hx => ?_, fun i p hu => ?_⟩, fun i _ a => ?_, fun i _ a => ?_⟩
  · cases i with
    | zero => cases h; exact hsub
    | succ i => cases h
  · show (nmH (hg0 N)).Nodup
    rw [nm_hg0]; exact hn
  · cases i with
    | zero => cases h; show a ∈ nmH (hg0 N) ↔ _; rw [nm_hg0]
    | succ i => cases h
  · have hx : x ∈ nmH (hg0 N) := hx
    rw [nm_hg0] at hx
    show tH (hg0 N) x = _
    rw [tb, if_pos hx]
  · cases i with
    | zero => cases hu
    | succ i => cases hu
  · show (tH (hg0 N) a).Nodup
    rw [tb]; split <;> simp
  · show tH (hg0 N) a ⊆ _
    rw [tb]
    split
    · rename_i q
      intro x hx
      simp at hx
      subst hx
      exact List.mem_append_left _ q
    · intro x hx; cases hx
abbrev bodyB : MS := (sSeq (sSet 6 (mB modF (mB addF (mB divF (mB ixF (mVar 0) (mVar 5)) (mC (.int 7))) (mB mulF (mB modF (mB ixF (mVar 0) (mVar 5)) (mC (.int 3))) (mVar 5))) (mN lenF (aCons (mVar 4) aNil)))) (sSeq (sSet 7 (mCall p_l_step (aCons (mB ixF (mVar 0) (mVar 5)) (aCons (mB addF (mB ixF (mVar 0) (mB addF (mVar 5) (mC (.int 1)))) (mB mulF (mC (.int 31)) (mVar 5))) (aCons (mVar 3) (aCons (mN listF (aCons (mB ixF (mVar 4) (mVar 6)) aNil)) aNil)))))) (sSeq (sExp (mMeth p_B_grow "grow" (mVar 1) (aCons (mVar 6) (aCons (mVar 7) aNil)))) (sAppL (mVar 4) (mCall p_l_hangs_behind (aCons (mVar 7) (aCons (mB ixF (mVar 4) (mVar 6)) (aCons (mN lenF (aCons (mVar 4) aNil)) aNil))))))))
theorem body_b {ns : List Int} {P N : List Str} (hP : P.Nodup) (hP2 : P.length = 26) (hPn : ∀ a ∈ P, isNm (.str a) = true) {n k : Nat} {B : Bk} {H : Nat → Hg} (g : Gn P N n B H) (hn : n < 20) (hk : k + 1 < ns.length) (x5 x6 x7 x8 : Sl) :
    ∃ B' H' y6 y7, Gn P N (n + 1) B' H' ∧ bodyB ([.v (.f (.scr ns)), .v (.c 0), .v (.f (nsF N)), .v (.f (nsF P)), .own (.lst (HSl H n)), x5, x6, x7, x8].set 5 (.v (.f (.int (k : Int))))) (bS B [] []) = .nx [.v (.f (.scr ns)), .v (.c 0), .v (.f (nsF N)), .v (.f (nsF P)), .own (.lst (HSl H' (n + 1))), .v (.f (.int (k : Int))), y6, y7, x8] (bS B' [] []) := by
  have hpn : Plain [] := fun c h => by cases h
  have hl := g.ln
  have a1 : L2.atI ns (k : Int) = some ns[k] := Fm.atI_nat (by omega)
  have a2 : L2.atI ns ((k : Int) + 1) = some ns[k + 1] := by
    have := Fm.atI_nat (xs := ns) (k := k + 1) hk
    rw [show ((k + 1 : Nat) : Int) = (k : Int) + 1 by omega] at this
    exact this
  obtain ⟨u0, u3⟩ := fmod_lt' ns[k] (n := 3) (by decide)
  have mo : mulOk (ns[k].fmod 3) (k : Int) = true := mulOk_of (.inl (by omega))
  have m31 : mulOk 31 (k : Int) = true := mulOk_of (.inl (by decide))
  obtain ⟨v0, v1⟩ := fmod_lt' (ns[k].fdiv 7 + ns[k].fmod 3 * (k : Int)) (n := ((n + 1 : Nat) : Int)) (by omega)
  obtain ⟨i, hi⟩ : ∃ i : Nat, (ns[k].fdiv 7 + ns[k].fmod 3 * (k : Int)).fmod ((n + 1 : Nat) : Int) = i := ⟨_, (Int.toNat_of_nonneg v0).symm⟩
  rw [hi] at v1
  have hi : (ns[k].fdiv 7 + ns[k].fmod 3 * (k : Int)).fmod ((n : Int) + 1) = i := by
    rw [← hi]; congr 1
  have hin : i ≤ n := by omega
  obtain ⟨M0, hM0⟩ : ∃ M, B.nms[i]? = some M := ⟨_, List.getElem?_eq_getElem (by omega)⟩
  obtain ⟨q4, q5, q6⟩ := g.wf.nd i M0 hM0
  have q2 := g.hg.mem i M0 hM0
  have qn := g.hg.nd i (by omega)
  have qp : (nmH (H i)).length = M0.length := ((List.perm_ext_iff_of_nodup qn q4).mpr q2).length_eq
  have qp2 : (H i).length = M0.length := by simpa using qp
  obtain ⟨st, hst, d⟩ := r_l_step (s := bS B [] []) (insOkB hpn) ns[k] (ns[k + 1] + 31 * (k : Int)) (L := nmH (H i)) hP hP2 qn (by omega) (by omega) (fun a ha => g.sub i M0 hM0 a ((q2 a).mp ha))
  obtain ⟨M', g', hgr⟩ := g.grow hn hPn hin d
  have hb := r_l_hangs_behind (s := bS (B.grow i st M') [] []) (insOkB hpn) rfl qn (by omega) d.fits.old (i := n + 1) (by omega) (fun a => Nat.le_trans (g.tl hin a) (by omega))
  have hb : p_l_hangs_behind [.f st.f, .f (hF (H i)), .f (.int ((n : Int) + 1))] (bS (B.grow i st M') [] []) = _ := hb
  have hls := HSl_at (H := H) hin
  have hll := HSl_len H n
  have hmore := HSl_more H n (behH st (H i) (ownT (n + 1)))
  have d7 : divOk 7 = true := divOk_of (by omega)
  have hN0 : ¬ (n : Int) + 1 = 0 := by omega
  have hz : n + 1 < sizeLine := ltz (show _ ≤ 100 by omega) (by decide)
  have hke := keysF_hK (H i)
  simp only [keysF] at hke
  refine ⟨B.grow i st M', _, .v (.f (.int (i : Int))), .v (.f st.f), g', ?_⟩
  rw [← hmore]
  generalize (B.grow i st M') = B' at *
  generalize ns[k] = na at *
  generalize ns[k + 1] = nb at *
  generalize HSl H n = LS at *
  generalize nmH (H i) = NM at hst hke
  show bodyB [.v (.f (.scr ns)), .v (.c 0), .v (.f (nsF N)), .v (.f (nsF P)), .own (.lst LS), .v (.f (.int (k : Int))), x6, x7, x8] (bS B [] []) = _
  obtain ⟨r, hr⟩ : ∃ r, bodyB [.v (.f (.scr ns)), .v (.c 0), .v (.f (nsF N)), .v (.f (nsF P)), .own (.lst LS), .v (.f (.int (k : Int))), x6, x7, x8] (bS B [] []) = r := ⟨_, rfl⟩
  rw [hr]
  unfold bodyB at hr
  replace hr := step hr (sl' := [.v (.f (.scr ns)), .v (.c 0), .v (.f (nsF N)), .v (.f (nsF P)), .own (.lst LS), .v (.f (.int (k : Int))), .v (.f (.int (i : Int))), x7, x8]) (by simp [a1, d7, mo, hN0, hll, hi])
  replace hr := step hr (sl' := [.v (.f (.scr ns)), .v (.c 0), .v (.f (nsF N)), .v (.f (nsF P)), .own (.lst LS), .v (.f (.int (k : Int))), .v (.f (.int (i : Int))), .v (.f st.f), x8]) (by simp [a1, a2, m31, hls, hke, hst])
  replace hr := stepS hr (s' := bS B' [] []) (sl' := [.v (.f (.scr ns)), .v (.c 0), .v (.f (nsF N)), .v (.f (nsF P)), .own (.lst LS), .v (.f (.int (k : Int))), .v (.f (.int (i : Int))), .v (.f st.f), x8]) (by simp [hgr])
  rw [← hr]
  simp [hls, hll, hb, hz]
end K13

namespace K13
open PySem L2 Fm PB
set_option maxHeartbeats 0
theorem r_l_books {ns : List Int} (hns : ns.length ≤ 63) {P N : List Str} (hP : P.Nodup) (hP2 : P.length = 26) (hPn : ∀ a ∈ P, isNm (.str a) = true) (hn : N.Nodup) (h1 : 1 ≤ N.length) (h2 : N.length ≤ 12) (hsub : ∀ a ∈ N, a ∈ P) :
    ∃ n B H, n ≤ 7 ∧ Gn P N n B H ∧ p_l_books [.f (.scr ns), .c 0, .f (nsF N), .f (nsF P)] (bS (newBk N) [] []) = .ok (.fr (.lst (HSl H n))) (bS B [] []) := by
  have hpn : Plain [] := fun c h => by cases h
  have zz1 : 1 ≤ sizeLine := by decide
  obtain ⟨g1, g2, g3⟩ := rg2 ns.length (by omega)
  generalize hH0 : (fun _ => hg0 N : Nat → Hg) = H0
  have g0 : Gn P N 0 (newBk N) H0 := hH0 ▸ gn0 hn h1 h2 hsub
  obtain ⟨sl', s', lp, B, H, x5, x6, x7, hG, rfl, rfl⟩ := loopF_inv (i := 5) (body := bodyB) (fun pre sl s => ∃ B H x5 x6 x7, Gn P N pre.length B H ∧ sl = [.v (.f (.scr ns)), .v (.c 0), .v (.f (nsF N)), .v (.f (nsF P)), .own (.lst (HSl H pre.length)), x5, x6, x7, .no] ∧ s = bS B [] []) (rgF 2 2 (Builtin.Range.rangeSize 2 (min ((ns.length : Int) - 1) 16) 2).toNat) [.v (.f (.scr ns)), .v (.c 0), .v (.f (nsF N)), .v (.f (nsF P)), .own (.lst (HSl H0 0)), .no, .no, .no, .no] (bS (newBk N) [] []) ⟨newBk N, H0, .no, .no, .no, g0, rfl, rfl⟩ (fun pre x post e sl s ⟨B, H, x5, x6, x7, hG, e1, e2⟩ => by
    subst e1 e2
    obtain ⟨ex, hlt⟩ := rg_at e
    have hk := g3 _ hlt
    have e2 : (2 : Int) + (pre.length : Int) * 2 = ((2 + 2 * pre.length : Nat) : Int) := by omega
    rw [e2] at ex
    subst ex
    obtain ⟨B', H', y6, y7, hG', hb⟩ := body_b hP hP2 hPn hG (by omega) (k := 2 + 2 * pre.length) hk x5 x6 x7 .no
    exact ⟨_, _, hb, B', H', _, y6, y7, by rw [List.length_append]; exact hG', by rw [List.length_append]; rfl, rfl⟩)
  refine ⟨_, B, H, ?_, hG, ?_⟩
  · rw [show (rgF 2 2 (Builtin.Range.rangeSize 2 (min ((ns.length : Int) - 1) 16) 2).toNat).length = (Builtin.Range.rangeSize 2 (min ((ns.length : Int) - 1) 16) 2).toNat by simp [rgF]]
    exact g2
  generalize (rgF 2 2 (Builtin.Range.rangeSize 2 (min ((ns.length : Int) - 1) 16) 2).toNat).length = n at *
  obtain ⟨r, hr, he⟩ := run_of 9 b_l_books [.f (.scr ns), .c 0, .f (nsF N), .f (nsF P)] (bS (newBk N) [] [])
  show runA 9 b_l_books _ _ = _
  rw [he]
  clear he
  unfold b_l_books at hr
  have lc : mLc 8 (iL (mVar 2)) (mC (.bl true)) (mTup (aCons (mVar 8) (aCons (mDct [((mVar 8), (mC (.bl true)))]) aNil))) [.v (.f (.scr ns)), .v (.c 0), .v (.f (nsF N)), .v (.f (nsF P)), .no, .no, .no, .no, .no] (bS (newBk N) [] []) = .ok (.fr (.lst (N.map fun x => F.tup [.str x, tF [x]]))) (bS (newBk N) [] []) := by
    refine mLc_eq (s1 := bS (newBk N) [] []) (xs := N.map F.str) rfl (by simp) ?_ (by rw [List.length_map]; exact Nat.le_trans h2 (by decide))
    have := compF_map (i := 8) (s := bS (newBk N) [] []) (e := mTup (aCons (mVar 8) (aCons (mDct [((mVar 8), (mC (.bl true)))]) aNil))) (sl := [.v (.f (.scr ns)), .v (.c 0), .v (.f (nsF N)), .v (.f (nsF P)), .no, .no, .no, .no, .no]) (f := fun x => match x with
      | .str a => F.tup [.str a, tF [a]]
      | x => x) (N.map F.str) (fun x hx => by
      obtain ⟨a, ha, rfl⟩ := List.mem_map.mp hx
      have z2 : 2 ≤ sizeLine := by decide
      exact ⟨.w (.f (.tup [.str a, tF [a]])), by simp [z2]; rfl, rfl⟩)
    refine this.trans ?_
    rw [List.map_map]
    rfl
  have pf : ∀ L : List Str, pairsF (L.map fun x => F.tup [.str x, tF [x]]) = some (hK (hg0 L)) := by
    intro L
    induction L with
    | nil => rfl
    | cons a L ih =>
      show (match pairsF (L.map fun x => F.tup [.str x, tF [x]]) with | some kvs => some ((sk a, tF [a]) :: kvs) | none => none) = _
      rw [ih]
      rfl
  have mk : ∀ (L : List Str) (A : Hg), (∀ x ∈ L, x ∉ nmH A) → L.Nodup → mK (hK A) (hK (hg0 L)) = hK (A ++ hg0 L) := by
    intro L
    induction L with
    | nil => intro A _ _; show hK A = _; simp [hg0]
    | cons a L ih =>
      intro A hA hL
      rw [List.nodup_cons] at hL
      show mK (hK A) ((sk a, tF [a]) :: hK (hg0 L)) = _
      unfold mK
      rw [pK_hK, pH_new (hA a (by simp)), ih _ (fun x hx => ?_) hL.2]
      · show hK ((A ++ [(a, [a])]) ++ hg0 L) = hK (A ++ ((a, [a]) :: hg0 L))
        rw [List.append_assoc]; rfl
      · unfold nmH
        rw [List.map_append, List.mem_append]
        rintro (q | q)
        · exact hA x (by simp [hx]) q
        · simp at q
          exact hL.1 (q ▸ hx)
  have mk0 : mK [] (hK (hg0 N)) = hK (hg0 N) := mk N [] (fun x _ h => by cases h) hn
  have hHS : HSl H0 0 = [hF (hg0 N)] := by rw [← hH0]; rfl
  have pfN := pf N
  replace hr := step hr (sl' := [.v (.f (.scr ns)), .v (.c 0), .v (.f (nsF N)), .v (.f (nsF P)), .own (.lst (HSl H0 0)), .no, .no, .no, .no]) (by
    rw [hHS]
    simp [-mTup, -mDct, lc, pfN, mk0, zz1])
  replace hr := stepS hr (s' := bS B [] []) (sl' := [.v (.f (.scr ns)), .v (.c 0), .v (.f (nsF N)), .v (.f (nsF P)), .own (.lst (HSl H n)), x5, x6, x7, .no]) (by
    rw [e_sFor]
    have hm : (if (16 : Int) < (ns.length : Int) - 1 then (16 : Int) else (ns.length : Int) - 1) = min ((ns.length : Int) - 1) 16 := by
      split <;> omega
    have := iR3_ok (a := mC (.int 2)) (b := mN minF (aCons (mB subF (mN lenF (aCons (mVar 0) aNil)) (mC (.int 1))) (aCons (mC (.int 16)) aNil))) (c := mC (.int 2)) (sl := [.v (.f (.scr ns)), .v (.c 0), .v (.f (nsF N)), .v (.f (nsF P)), .own (.lst (HSl H0 0)), .no, .no, .no, .no]) (s := bS (newBk N) [] []) (i := 2) (j := min ((ns.length : Int) - 1) 16) (k := 2) rfl (by simp [hm]) rfl g1
    rw [this]
    exact lp)
  have : r = .rt (.fr (.lst (HSl H n))) (bS B [] []) := by
    rw [← hr]
    generalize HSl H n = Z
    simp
  rw [this]
  have h1 := bOkB (B := newBk N) (B' := B) (lk := []) (lk' := []) (post' := []) hpn
  have h2 := backB (B := newBk N) (B' := B) (post := []) (lk := []) (lk' := []) (post' := [])
  rw [List.append_nil] at h1 h2
  generalize HSl H n = Z
  simp [outA, h1, h2, Ct.ptrs]
end K13

namespace K13
open PySem L2 Fm PB
set_option maxHeartbeats 0
theorem r_l_first {s : Sto} (hs : insOk s) (L : List Str) (hL : L.length ≤ 12) (c : Int) : ∃ d, BR L L.length d ∧ p_l_first [.f (nsF L), .f (.int c)] s = .ok (.fr (.dct (rK d))) s := by
  have hb : inB (L.length : Int) = true := inB_of2 (by omega)
  obtain ⟨rr, hr, he⟩ := run_of 4 b_l_first [.f (nsF L), .f (.int c)] s
  have he : p_l_first [.f (nsF L), .f (.int c)] s = outA s rr := he
  rw [he]
  clear he
  unfold b_l_first at hr
  replace hr := step hr (sl' := [.v (.f (nsF L)), .v (.f (.int c)), .own (.dct []), .no]) (by simp)
  obtain ⟨sl', lp, d1, x3, rfl, bd⟩ := loop_rg (i := 3) (s := s) (n := L.length) (body := (sPutD (mVar 2) (mB ixF (mVar 0) (mVar 3)) (mCall p_l_number (aCons (mVar 1) (aCons (mVar 3) aNil)))))
    (P := fun j sl => ∃ d x3, sl = [.v (.f (nsF L)), .v (.f (.int c)), .own (.dct (rK d)), x3] ∧ BR L j d) [.v (.f (nsF L)), .v (.f (.int c)), .own (.dct (rK [])), .no] ⟨[], .no, rfl, .nil _⟩ fun j hj sl ⟨d, x3, e, bd⟩ => by
      subst e
      obtain ⟨v, hv⟩ := r_l_number hs c (j : Int) (by omega) (by omega)
      obtain ⟨x, hx⟩ : ∃ x, L[j]? = some x := ⟨_, List.getElem?_eq_getElem hj⟩
      have hx2 := row_at hx
      have hl : d.length < sizeLine := ltz (Nat.le_trans bd.len (Nat.le_of_lt hj)) (by omega)
      refine ⟨_, ?_, pR d x v, .v (.f (.int j)), rfl, bd.put hx v⟩
      simp [hv, hx2, hl]
  replace hr := step hr (sl' := [.v (.f (nsF L)), .v (.f (.int c)), .own (.dct (rK d1)), x3]) (by simpa [hb] using lp)
  refine ⟨d1, bd, ?_⟩
  rw [← hr]
  simp [outA, bOk_self hs, back_self, Ct.ptrs]
/-- the book with another second record -/
theorem r_l_numbers {B : Bk} (hB : B.Wf) {r r2 : Rd × Ow} (hr1 : B.rcs[0]? = some r) (hr2 : B.rcs[1]? = some r2) {N : List Str} (h0 : B.nms[0]? = some N) {i : Nat} (hi : i < B.nms.length) (ca cb cc : Int) :
    ∃ e r2', (B.setR 1 r2').Wf ∧ NdR e ∧ (∀ M, B.nms[i]? = some M → ∀ a ∈ nm e, a ∈ M) ∧ e.length ≤ 4 ∧ p_l_numbers [.c 0, .f (nsF N), .f (.int (i : Int)), .f (.lst [.int ca, .int cb, .int cc])] (bS B [] []) = .ok (.fr (.dct (rK e))) (bS (B.setR 1 r2') [] []) := by
  have hpn : Plain [] := fun c h => by cases h
  have hlen := hB.len
  have hN := hB.nd 0 N h0
  obtain ⟨d1, bd, hf⟩ := r_l_first (s := bS B [] []) (insOkB hpn) N hN.2.2 cc
  obtain ⟨M, hM⟩ : ∃ M, B.nms[i]? = some M := ⟨_, List.getElem?_eq_getElem hi⟩
  have rc2 := hB.rc r2 (List.mem_of_getElem? hr2)
  have hup0 : B.up 0 = none := rfl
  have m1 : ∀ a ∈ nm d1, a ∈ nm (B.rd r2 0) := fun a ha => by
    rw [(rd_ok hB rc2 0 N h0).2.1]
    exact (bd.all a).mp ha
  have ch1 := (r_change (post := []) hpn hB hr2 (i := 0) (by omega) (nuI_v bd.nd) (changedR_I m1)).2 _ (back_none' hup0)
  rw [nF_I] at ch1
  obtain ⟨hB1, ch1⟩ := ch1
  generalize (putA (B.rd r2 0) d1, r2.2) = r2' at hB1 ch1
  have ch1 : p_B_change [.c 0, .f (.int 1), .f (.int 0), .f (rF d1)] (bS B [] []) = .ok (.fr (.lst (intL (B.diff r2 r2')))) (bS (B.setR 1 r2') [] []) := ch1
  obtain ⟨rr, hr, he⟩ := run_of 9 b_l_numbers [.c 0, .f (nsF N), .f (.int (i : Int)), .f (.lst [.int ca, .int cb, .int cc])] (bS B [] [])
  have he : p_l_numbers [.c 0, .f (nsF N), .f (.int (i : Int)), .f (.lst [.int ca, .int cb, .int cc])] (bS B [] []) = outA (bS B [] []) rr := he
  rw [he]
  clear he
  unfold b_l_numbers at hr
  have t0 : ∀ a b c : F, L2.atI [a, b, c] 0 = some a := fun _ _ _ => rfl
  have t1 : ∀ a b c : F, L2.atI [a, b, c] 1 = some b := fun _ _ _ => rfl
  have t2 : ∀ a b c : F, L2.atI [a, b, c] 2 = some c := fun _ _ _ => rfl
  have h2r : (B.setR 1 r2').rcs[1]? = some r2' := by
    show (B.rcs.set 1 r2')[1]? = _
    rw [List.getElem?_set_self (List.getElem?_eq_some_iff.mp hr2).1]
  have hM1 : (B.setR 1 r2').nms[i]? = some M := hM
  have hi1 : i ≤ (B.setR 1 r2').stp.length := by show i ≤ B.stp.length; omega
  have rd2 := r_reading (post := []) (lk := []) hpn hB1 h2r hi1
  have okD := rd_ok hB1 (hB1.rc _ (List.mem_of_getElem? h2r)) i M hM1
  have hMl := hB1.nd i M hM1
  generalize hB1e : B.setR 1 r2' = B1 at *
  replace hr := stepS hr (s' := bS B1 [] []) (sl' := [.v (.c 0), .v (.f (nsF N)), .v (.f (.int (i : Int))), .v (.f (.lst [.int ca, .int cb, .int cc])), .no, .no, .no, .no, .no]) (by simp [t2, hf, ch1])
  have rd2 : p_B_reading [.c 0, .f (.int 1), .f (.int (i : Int))] (bS B1 [] []) = _ := rd2
  generalize B1.rd r2' i = D at rd2 okD
  have srt := sort_rF D (by omega)
  have hrow : ∀ x, x ∈ sortS (nm D) ↔ x ∈ nm D := fun x => (sortS_perm _).mem_iff
  have hDl : D.length = M.length := by
    have := ((List.perm_ext_iff_of_nodup okD.1 hMl.1).mpr okD.2.1).length_eq
    simpa using this
  have hrl : (sortS (nm D)).length = M.length := by rw [(sortS_perm _).length_eq, List.length_map]; exact hDl
  generalize sortS (nm D) = row at srt hrow hrl
  replace hr := step hr (sl' := [.v (.c 0), .v (.f (nsF N)), .v (.f (.int (i : Int))), .v (.f (.lst [.int ca, .int cb, .int cc])), .v (.f (rF D)), .no, .no, .no, .no]) (by simp [rd2])
  replace hr := step hr (sl' := [.v (.c 0), .v (.f (nsF N)), .v (.f (.int (i : Int))), .v (.f (.lst [.int ca, .int cb, .int cc])), .v (.f (rF D)), .v (.f (nsF row)), .no, .no, .no]) (by simp [-sortF, srt])
  replace hr := step hr (sl' := [.v (.c 0), .v (.f (nsF N)), .v (.f (.int (i : Int))), .v (.f (.lst [.int ca, .int cb, .int cc])), .v (.f (rF D)), .v (.f (nsF row)), .own (.dct []), .no, .no]) (by simp)
  obtain ⟨u0, u2⟩ := fmod_lt' ca (n := 2) (by decide)
  obtain ⟨m, hm⟩ : ∃ m : Nat, 1 + ca.fmod 2 = m := ⟨(1 + ca.fmod 2).toNat, by omega⟩
  have hm2 : m ≤ 2 := by omega
  have hbm : inB (m : Int) = true := inB_of2 (by omega)
  have d2 : divOk 2 = true := divOk_of (by omega)
  have d5 : divOk 5 = true := divOk_of (by omega)
  have hrl0 : ¬ row = [] := fun q => by rw [q] at hrl; simp at hrl; omega
  obtain ⟨sl', lp, e, x7, x8, rfl, eN, eM, eL⟩ := loop_rg (i := 7) (s := bS B1 [] []) (n := m) (body := (sSeq (sSet 8 (mB ixF (mVar 5) (mB modF (mB addF (mB divF (mB ixF (mVar 3) (mC (.int 1))) (mC (.int 2))) (mVar 7)) (mN lenF (aCons (mVar 5) aNil))))) (sSeq (sPutD (mVar 6) (mVar 8) (mB dgetF (mVar 4) (mVar 8))) (sIf (mB eqF (mB modF (mB ixF (mVar 3) (mC (.int 1))) (mC (.int 5))) (mC (.int 1))) (sPutD (mVar 6) (mVar 8) (mCall p_l_number (aCons (mB ixF (mVar 3) (mC (.int 2))) (aCons (mB mulF (mC (.int 5)) (mVar 7)) aNil)))) sSkip))))
    (P := fun j sl => ∃ e x7 x8, sl = [.v (.c 0), .v (.f (nsF N)), .v (.f (.int (i : Int))), .v (.f (.lst [.int ca, .int cb, .int cc])), .v (.f (rF D)), .v (.f (nsF row)), .own (.dct (rK e)), x7, x8] ∧ NdR e ∧ (∀ a ∈ nm e, a ∈ nm D) ∧ e.length ≤ j) [.v (.c 0), .v (.f (nsF N)), .v (.f (.int (i : Int))), .v (.f (.lst [.int ca, .int cb, .int cc])), .v (.f (rF D)), .v (.f (nsF row)), .own (.dct (rK [])), .no, .no] ⟨[], .no, .no, rfl, List.nodup_nil, (fun a ha => by cases ha), Nat.le_refl _⟩ fun j hj sl ⟨e, x7, x8, he, eN, eM, eL⟩ => by
      subst he
      obtain ⟨v0, v1⟩ := fmod_lt' (cb.fdiv 2 + (j : Int)) (n := (row.length : Int)) (by omega)
      obtain ⟨p, hp⟩ : ∃ p : Nat, (cb.fdiv 2 + (j : Int)).fmod (row.length : Int) = p := ⟨_, (Int.toNat_of_nonneg v0).symm⟩
      rw [hp] at v1
      obtain ⟨x, hx⟩ : ∃ x, row[p]? = some x := ⟨_, List.getElem?_eq_getElem (by omega)⟩
      have hx2 := row_at hx
      have hxD := (hrow x).mp (List.mem_of_getElem? hx)
      have g := gR_v hxD
      have hl : e.length < sizeLine := ltz (Nat.le_trans eL (Nat.le_of_lt hj)) (by omega)
      have hl2 : (pR e x (vR D x)).length < sizeLine := ltz (Nat.le_trans (pR_len _ _ _) (show e.length + 1 ≤ 5 by omega)) (by omega)
      have m5 : mulOk 5 (j : Int) = true := mulOk_of (.inl (by decide))
      have hmem : ∀ (i : Int), ∀ a ∈ nm (pR e x i), a ∈ nm D := fun i a ha => by
        rcases mem_put.mp ha with rfl | h
        · exact hxD
        · exact eM a h
      by_cases q : cb.fmod 5 = 1
      · obtain ⟨v, hv⟩ := r_l_number (s := bS B1 [] []) (insOkB hpn) cc (5 * (j : Int)) (by omega) (by omega)
        refine ⟨_, ?_, pR (pR e x (vR D x)) x v, .v (.f (.int j)), .v (.f (.str x)), rfl, (eN.put _ _).put _ _, fun a ha => ?_, ?_⟩
        · simp [t1, t2, d2, d5, hrl0, hp, hx2, g, hl, hl2, q, m5, hv]
        · rcases mem_put.mp ha with rfl | h
          · exact hxD
          · exact hmem _ a h
        · have hin : x ∈ nm (pR e x (vR D x)) := mem_put.mpr (.inl rfl)
          rw [len_re hin]
          exact Nat.le_trans (pR_len _ _ _) (by omega)
      · refine ⟨_, ?_, pR e x (vR D x), .v (.f (.int j)), .v (.f (.str x)), rfl, eN.put _ _, hmem _, Nat.le_trans (pR_len _ _ _) (by omega)⟩
        simp [t1, t2, d2, d5, hrl0, hp, hx2, g, hl, hl2, q]
  replace hr := step hr (sl' := [.v (.c 0), .v (.f (nsF N)), .v (.f (.int (i : Int))), .v (.f (.lst [.int ca, .int cb, .int cc])), .v (.f (rF D)), .v (.f (nsF row)), .own (.dct (rK e)), x7, x8]) (by simpa [t0, hm, hbm] using lp)
  refine ⟨e, r2', hB1e ▸ hB1, eN, fun M' hM' a ha => ?_, by omega, ?_⟩
  · rw [hM] at hM'
    cases hM'
    exact (okD.2.1 a).mp (eM a ha)
  have : rr = .rt (.fr (.dct (rK e))) (bS B1 [] []) := by rw [← hr]; simp
  rw [this, ← hB1e]
  have h1 := bOkB (B := B) (B' := B.setR 1 r2') (lk := []) (lk' := []) (post' := []) hpn
  have h2 := backB (B := B) (B' := B.setR 1 r2') (post := []) (lk := []) (lk' := []) (post' := [])
  rw [List.append_nil] at h1 h2
  simp [outA, h1, h2, Ct.ptrs]
theorem r_l_done {B : Bk} (hB : B.Wf) {r : Rd × Ow} (hr1 : B.rcs[0]? = some r) {i : Nat} (hi : i < B.nms.length) {e : Rd} (he : NdR e) (hm : ∀ a ∈ nm e, a ∈ nm (B.rd r i)) :
    (B.back r i (putA (B.rd r i) e) r.2 = none → p_l_done [.c 0, .f (.int (i : Int)), .f (rF e)] (bS B [] []) = .ok (.w (.f (.bl false))) (bS B [] [])) ∧
    (∀ q, B.back r i (putA (B.rd r i) e) r.2 = some q → (B.setR 0 q).Wf ∧ p_l_done [.c 0, .f (.int (i : Int)), .f (rF e)] (bS B [] []) = .ok (.w (.f (.bl true))) (bS (B.setR 0 q) [] [])) := by
  have hpn : Plain [] := fun c h => by cases h
  have hlen := hB.len
  have hs : insOk (bS B [] []) := insOkB hpn
  have hc := r_change (post := []) hpn hB hr1 (i := i) (by omega) (nuI_v he) (changedR_I hm)
  rw [nF_I] at hc
  constructor
  · intro q
    have h1 : p_B_change [.c 0, .f (.int 0), .f (.int (i : Int)), .f (rF e)] (bS B [] []) = _ := hc.1 q
    exact runA_rt hs (by simp [b_l_done, h1, RS.catch, ns0])
  · intro q hq
    obtain ⟨hW, h1⟩ := hc.2 q hq
    refine ⟨hW, ?_⟩
    have h1 : p_B_change [.c 0, .f (.int 0), .f (.int (i : Int)), .f (rF e)] (bS B [] []) = .ok (.fr (.lst (intL (B.diff r q)))) (bS (B.setR 0 q) [] []) := h1
    obtain ⟨rr, hr, he⟩ := run_of 3 b_l_done [.c 0, .f (.int (i : Int)), .f (rF e)] (bS B [] [])
    show runA 3 b_l_done _ _ = _
    rw [he]
    have : rr = .rt (.w (.f (.bl true))) (bS (B.setR 0 q) [] []) := by
      rw [← hr]
      simp [b_l_done, h1]
    rw [this, outB0 hpn]
theorem keysF_tK (t : TD) : keysF (tK t) = t.map F.str := by
  simp [keysF, tK, kF, List.map_map]
theorem vK_tK (T : TD) (x : Str) : (vK (tK T) (sk x)).isSome = decide (x ∈ T) := by
  rw [← vK_some_any, tK_any]
theorem dif_ht {h : Hg} (hx : h ≠ []) (t : TD) : unlk (.f (tF t)) [.f (hF h)] = true := by
  show ([W.f (hF h)].all fun z => match z with | .f (.dct ks) => difD ks (tK t) | _ => true) = true
  simp only [List.all_cons, List.all_nil, Bool.and_true]
  show difD (hK h) (tK t) = true
  unfold difD
  have h1 : ((tK t).all fun p => flatF p.2) = true := by
    rw [List.all_eq_true]
    intro p hp
    obtain ⟨x, _, rfl⟩ := List.mem_map.mp hp
    rfl
  have h2 : ((hK h).all fun p => flatF p.2) = false := by
    cases h with
    | nil => exact absurd rfl hx
    | cons p h => rfl
  rw [h1, h2]
  simp
abbrev bodyI : MS := (sSeq (sSet 6 (mB neF (mLcD 7 (mB dgetF (mB ixF (mVar 0) (mVar 4)) (mVar 5)) (mB dinF (mVar 7) (mVar 1)) (mVar 7)) (mLst aNil))) (sIf (mAnd (mNot (mVar 6)) (mB neF (mB dgetF (mB ixF (mVar 3) (mVar 4)) (mVar 5)) (mB dgetF (mB ixF (mVar 2) (mVar 4)) (mVar 5)))) (sRet (mC (.bl false))) sSkip))
theorem body_i {s : Sto} (hs : insOk s) {HL A0 A1 : List F} {T : TD} {h : Hg} {d0 d1 : Rd} {j : Nat} (hlk : s.lk = [.f (hF h)]) (a0 : L2.atI A0 (j : Int) = some (rF d0)) (a1 : L2.atI A1 (j : Int) = some (rF d1)) (ah : L2.atI HL (j : Int) = some (hF h)) (x : Str) (hx : x ∈ nmH h) (ht : (tH h x).length ≤ 100) (m0 : x ∈ nm d0) (m1 : x ∈ nm d1) (ok : (∃ t ∈ tH h x, t ∈ T) ∨ gR d1 x = gR d0 x) (x5 x6 : Sl) :
    ∃ y6, bodyI ([.v (.f (.lst HL)), .v (.f (tF T)), .v (.f (.lst A0)), .v (.f (.lst A1)), .v (.f (.int (j : Int))), x5, x6, .no].set 5 (.v (.f (.str x)))) s = .nx [.v (.f (.lst HL)), .v (.f (tF T)), .v (.f (.lst A0)), .v (.f (.lst A1)), .v (.f (.int (j : Int))), .v (.f (.str x)), y6, .no] s := by
  have hne : h ≠ [] := fun q => by rw [q] at hx; cases hx
  have gh := gH_v hx
  have g0 := gR_v m0
  have g1 := gR_v m1
  have lc : mLcD 7 (mB dgetF (mB ixF (mVar 0) (mVar 4)) (mVar 5)) (mB dinF (mVar 7) (mVar 1)) (mVar 7) [.v (.f (.lst HL)), .v (.f (tF T)), .v (.f (.lst A0)), .v (.f (.lst A1)), .v (.f (.int (j : Int))), .v (.f (.str x)), x6, .no] s = .ok (.fr (.lst (((tH h x).filter fun t => decide (t ∈ T)).map F.str))) s := by
    unfold mLcD
    rw [dW_eq (y := .w (.f (tF (tH h x)))) (kvs := tK (tH h x)) (s1 := s) (by simp [ah, gh]) rfl (by rw [hlk]; exact dif_ht hne _)]
    simp only [slNoOwn, List.getElem?_cons_succ, List.getElem?_cons_zero, if_true, Fm.R.bind_ok]
    have := compF_pure (i := 7) (t := mB dinF (mVar 7) (mVar 1)) (e := mVar 7) (s := { s with lk := frz (.w (.f (tF (tH h x)))) :: s.lk }) (sl := [.v (.f (.lst HL)), .v (.f (tF T)), .v (.f (.lst A0)), .v (.f (.lst A1)), .v (.f (.int (j : Int))), .v (.f (.str x)), x6, .no]) (p := fun x => match x with | .str a => decide (a ∈ T) | _ => true) (f := id) (keysF (tK (tH h x))) (fun y hy => by
      rw [keysF_tK] at hy
      obtain ⟨t, htt, rfl⟩ := List.mem_map.mp hy
      have hv := vK_tK T t
      have e2 : pk [] s (.f (tF T)) = some (.dct (tK T)) := rfl
      show mB dinF (mVar 7) (mVar 1) [.v (.f (.lst HL)), .v (.f (tF T)), .v (.f (.lst A0)), .v (.f (.lst A1)), .v (.f (.int (j : Int))), .v (.f (.str x)), x6, .v (.f (.str t))] _ = _
      have e3 : dinF (.str t) (tF T) = .val (.bl (decide (t ∈ T))) := by
        show (match kOf (.str t) with | some k => Op.val (.bl (vK (tK T) k).isSome) | none => Op.bad) = _
        show Op.val (.bl (vK (tK T) (sk t)).isSome) = _
        rw [hv]
      simp [-dinF, e3]) (fun y hy _ => by
      rw [keysF_tK] at hy
      obtain ⟨t, htt, rfl⟩ := List.mem_map.mp hy
      exact ⟨_, rfl, rfl⟩)
    have hsz : ((tH h x).filter fun t => decide (t ∈ T)).length ≤ sizeLine := Nat.le_trans (List.length_filter_le _ _) (Nat.le_trans ht (by decide))
    have e4 : (keysF (tK (tH h x))).filter (fun x => match x with | .str a => decide (a ∈ T) | _ => true) = ((tH h x).filter fun t => decide (t ∈ T)).map F.str := by
      rw [keysF_tK, List.filter_map]; rfl
    rw [List.map_id, e4] at this
    show (match compF 7 (mB dinF (mVar 7) (mVar 1)) (mVar 7) (keysF (tK (tH h x))) [.v (.f (.lst HL)), .v (.f (tF T)), .v (.f (.lst A0)), .v (.f (.lst A1)), .v (.f (.int (j : Int))), .v (.f (.str x)), x6, .no] { s with lk := frz (.w (.f (tF (tH h x)))) :: s.lk } with
      | .ok zs s2 => if zs.length ≤ sizeLine then R.ok (Y.fr (.lst zs)) { s2 with lk := s2.lk.tail } else .bad
      | _ => .bad) = _
    rw [this]
    simp [hsz]
  generalize hFl : (tH h x).filter (fun t => decide (t ∈ T)) = Fl at lc
  refine ⟨.v (.f (.bl (!decide (Fl = [])))), ?_⟩
  obtain ⟨r, hr⟩ : ∃ r, bodyI [.v (.f (.lst HL)), .v (.f (tF T)), .v (.f (.lst A0)), .v (.f (.lst A1)), .v (.f (.int (j : Int))), .v (.f (.str x)), x6, .no] s = r := ⟨_, rfl⟩
  show bodyI [.v (.f (.lst HL)), .v (.f (tF T)), .v (.f (.lst A0)), .v (.f (.lst A1)), .v (.f (.int (j : Int))), .v (.f (.str x)), x6, .no] s = _
  rw [hr]
  unfold bodyI at hr
  have eN : eqT (nsF Fl) (.lst []) = some (decide (Fl = [])) := eqT_strs Fl []
  have z0 : 0 ≤ sizeLine := by decide
  replace hr := step hr (sl' := [.v (.f (.lst HL)), .v (.f (tF T)), .v (.f (.lst A0)), .v (.f (.lst A1)), .v (.f (.int (j : Int))), .v (.f (.str x)), .v (.f (.bl (!decide (Fl = [])))), .no]) (by
    simp [lc, z0, eN])
  rw [← hr]
  rcases ok with ⟨t, h1, h2⟩ | h1
  · have q : ¬ Fl = [] := fun z => by
      have : t ∈ Fl := by rw [← hFl]; exact List.mem_filter.mpr ⟨h1, by simpa using h2⟩
      rw [z] at this
      cases this
    simp [q]
  · have hv : vR d1 x = vR d0 x := by unfold vR; rw [h1]
    by_cases q : Fl = []
    · simp [q, a0, a1, g0, g1, hv]
    · simp [q]
theorem r_l_stays {s : Sto} (hs : insOk s) (hlk : s.lk = []) {HL A0 A1 : List F} {T : TD} {n : Nat} (hn : n ≤ 40) {H : Nat → Hg} {d0 d1 : Nat → Rd} (hl : HL.length = n)
    (ok : ∀ j, j < n → L2.atI A0 (j : Int) = some (rF (d0 j)) ∧ L2.atI A1 (j : Int) = some (rF (d1 j)) ∧ L2.atI HL (j : Int) = some (hF (H j)) ∧ ∀ x ∈ nmH (H j), (tH (H j) x).length ≤ 100 ∧ x ∈ nm (d0 j) ∧ x ∈ nm (d1 j) ∧ ((∃ t ∈ tH (H j) x, t ∈ T) ∨ gR (d1 j) x = gR (d0 j) x)) :
    p_l_stays [.f (.lst HL), .f (tF T), .f (.lst A0), .f (.lst A1)] s = .ok (.w (.f (.bl true))) s := by
  have hb : inB (n : Int) = true := inB_of2 (by omega)
  obtain ⟨rr, hr, he⟩ := run_of 8 b_l_stays [.f (.lst HL), .f (tF T), .f (.lst A0), .f (.lst A1)] s
  have he : p_l_stays [.f (.lst HL), .f (tF T), .f (.lst A0), .f (.lst A1)] s = outA s rr := he
  rw [he]
  clear he
  unfold b_l_stays at hr
  obtain ⟨sl', lp, x4, x5, x6, rfl⟩ := loop_rg (i := 4) (s := s) (n := n) (body := (sForD 5 (mB ixF (mVar 0) (mVar 4)) (sSeq (sSet 6 (mB neF (mLcD 7 (mB dgetF (mB ixF (mVar 0) (mVar 4)) (mVar 5)) (mB dinF (mVar 7) (mVar 1)) (mVar 7)) (mLst aNil))) (sIf (mAnd (mNot (mVar 6)) (mB neF (mB dgetF (mB ixF (mVar 3) (mVar 4)) (mVar 5)) (mB dgetF (mB ixF (mVar 2) (mVar 4)) (mVar 5)))) (sRet (mC (.bl false))) sSkip)))) (P := fun j sl => ∃ x4 x5 x6, sl = [.v (.f (.lst HL)), .v (.f (tF T)), .v (.f (.lst A0)), .v (.f (.lst A1)), x4, x5, x6, .no]) [.v (.f (.lst HL)), .v (.f (tF T)), .v (.f (.lst A0)), .v (.f (.lst A1)), .no, .no, .no, .no] ⟨.no, .no, .no, rfl⟩ fun j hj sl ⟨x4, x5, x6, e⟩ => by
    subst e
    obtain ⟨a0, a1, ah, okx⟩ := ok j hj
    obtain ⟨sl2, lp2, x5', x6', rfl⟩ := loop_strs (i := 5) (s := { s with lk := [.f (hF (H j))] }) (body := bodyI) (fun _ sl => ∃ x5 x6, sl = [.v (.f (.lst HL)), .v (.f (tF T)), .v (.f (.lst A0)), .v (.f (.lst A1)), .v (.f (.int (j : Int))), x5, x6, .no]) (nmH (H j)) [.v (.f (.lst HL)), .v (.f (tF T)), .v (.f (.lst A0)), .v (.f (.lst A1)), .v (.f (.int (j : Int))), x5, x6, .no] ⟨x5, x6, rfl⟩ (fun pre x post e sl ⟨x5, x6, e2⟩ => by
      subst e2
      have hx : x ∈ nmH (H j) := by rw [e]; simp
      obtain ⟨o1, o2, o3, o4⟩ := okx x hx
      obtain ⟨y6, hb⟩ := body_i (s := { s with lk := [.f (hF (H j))] }) hs rfl a0 a1 ah x hx o1 o2 o3 o4 x5 x6
      exact ⟨_, hb, _, y6, rfl⟩)
    refine ⟨[.v (.f (.lst HL)), .v (.f (tF T)), .v (.f (.lst A0)), .v (.f (.lst A1)), .v (.f (.int (j : Int))), x5', x6', .no], ?_, _, x5', x6', rfl⟩
    show sForD 5 (mB ixF (mVar 0) (mVar 4)) bodyI [.v (.f (.lst HL)), .v (.f (tF T)), .v (.f (.lst A0)), .v (.f (.lst A1)), .v (.f (.int (j : Int))), x5, x6, .no] s = _
    rw [e_sForD, dW_eq (y := .w (.f (hF (H j)))) (kvs := hK (H j)) (s1 := s) (by simp [ah]) rfl (by rw [hlk]; rfl)]
    simp only [Fm.R.st_ok, e_kFD, keysF_hK]
    have e2 : ({ s with lk := frz (.w (.f (hF (H j)))) :: s.lk } : Sto) = { s with lk := [.f (hF (H j))] } := by rw [hlk]; rfl
    rw [e2, lp2]
    cases s
    simp at hlk
    subst hlk
    rfl
  replace hr := step hr (sl' := [.v (.f (.lst HL)), .v (.f (tF T)), .v (.f (.lst A0)), .v (.f (.lst A1)), x4, x5, x6, .no]) (by simpa [hl, hb] using lp)
  rw [← hr]
  simp [outA, bOk_self hs, back_self]
end K13

namespace K13
open PySem L2 Fm PB
set_option maxHeartbeats 0
theorem gn_ok {L : List Str} (hn : L.Nodup) (h1 : 1 ≤ L.length) (h2 : L.length ≤ 12) (h : ∀ a ∈ L, isNm (.str a) = true) : gnR (L.map F.str) = .ok (L.map F.str) := by
  have ha : (L.map F.str).all isNm = true := by
    rw [List.all_eq_true]
    intro x hx
    obtain ⟨a, ha, rfl⟩ := List.mem_map.mp hx
    exact h a ha
  unfold gnR
  rw [if_neg (by rw [List.length_map]; omega), if_neg (by rw [ha]; simp), strsF_map]
  show (if dupB L = false then _ else _) = _
  rw [if_neg]
  rw [(dupB_iff L).mpr hn]
  simp
theorem cut_mid {xs : List F} {k : Nat} (h : k + 2 < xs.length) : cutF xs (some (k : Int)) (some ((k : Int) + 3)) = [xs[k], xs[k + 1], xs[k + 2]] := by
  unfold cutF
  rw [show (k : Int) + 3 = ((k + 3 : Nat) : Int) by omega, HT.sIx_nat, HT.sIx_nat, Nat.min_eq_left (by omega), Nat.min_eq_left (by omega), show k + 3 - k = 3 by omega]
  apply List.ext_getElem?
  intro j
  match j with
  | 0 => simp [List.getElem?_take, List.getElem?_drop, List.getElem?_eq_getElem (show k < xs.length by omega)]
  | 1 => simp [List.getElem?_take, List.getElem?_drop, List.getElem?_eq_getElem (show k + 1 < xs.length by omega)]
  | 2 => simp [List.getElem?_take, List.getElem?_drop, List.getElem?_eq_getElem (show k + 2 < xs.length by omega)]
  | j + 3 => rw [List.getElem?_eq_none (by simp; omega), List.getElem?_eq_none (by simp)]
theorem keysS_hK : ∀ h : Hg, keysS (hK h) = some (nmH h)
  | [] => rfl
  | (a, i) :: h => by
    show keysS ((sk a, tF i) :: hK h) = _
    unfold keysS
    rw [keysS_hK h]
    rfl
theorem sort_hF (h : Hg) (hl : h.length < 64) : sortF [hF h] = .new (.lst ((sortS (nmH h)).map F.str)) := by
  simp [sortF, keysS_hK, hl]
theorem eqN_ns (A : List Str) (m : Nat) : eqN (m + 2) (nsF A) (nsF A) = some true := by
  unfold eqN
  rw [if_pos rfl]
  induction A with
  | nil => rfl
  | cons a A ih =>
    have h1 : eqN (m + 1) (.str a) (.str a) = some true := by unfold eqN; simp
    simp only [List.map_cons, List.zipWith_cons_cons, h1, allO, ih]
    rfl
theorem eqT_rows (l : List Nat) (R : Nat → List Str) : eqT (.lst (l.map fun j => nsF (R j))) (.lst (l.map fun j => nsF (R j))) = some true := by
  show eqN 6 _ _ = _
  unfold eqN
  rw [if_pos rfl]
  induction l with
  | nil => rfl
  | cons a l ih =>
    simp only [List.map_cons, List.zipWith_cons_cons, eqN_ns _ 3, allO, ih]
    rfl
theorem HgOk.same {B C : Bk} {own : Nat → Str} {H : Nat → Hg} (h : HgOk B own H) (h1 : C.nms = B.nms) (h2 : C.stp = B.stp) : HgOk C own H := by
  have hu : ∀ i, C.up i = B.up i := fun i => by
    cases i with
    | zero => rfl
    | succ i => show C.stp[i]? = B.stp[i]?; rw [h2]
  exact ⟨fun i hi => h.nd i (by rw [← h1]; exact hi), fun i M hM => h.mem i M (by rw [← h1]; exact hM), h.base, fun i p hp => h.st i p (by rw [← hu]; exact hp)⟩
/-- the book as the law goes on -/
structure Now (B0 B : Bk) : Prop where
  wf : B.Wf
  nm : B.nms = B0.nms
  st : B.stp = B0.stp
  rc : B.rcs.length = 2
theorem rows_ok {s : Sto} (n : Nat) (hn : n ≤ 60) {A : List F} (i j : Nat) {sl : List Sl} (R : Nat → List Str) (f : Nat → F) (hs : sl[j]? = some (.v (.f (.lst ((List.range n).map f))))) (hi : slNoOwn sl[i]? = true) (hij : i ≠ j) (lt : i < sl.length) (hf : ∀ k, k < n → sortF [f k] = .new (.lst ((R k).map F.str))) :
    mLc i (iL (mVar j)) (mC (.bl true)) (mN sortF (aCons (mVar i) aNil)) sl s = .ok (.fr (.lst ((List.range n).map fun k => nsF (R k)))) s := by
  refine mLc_eq hi (s1 := s) (xs := (List.range n).map f) (by simp [hs]) ?_ (by rw [List.length_map, List.length_range]; exact Nat.le_trans hn (by decide))
  have go : ∀ l : List Nat, (∀ k ∈ l, k < n) → compF i (mC (.bl true)) (mN sortF (aCons (mVar i) aNil)) (l.map f) (sl.set i .no) s = .ok (l.map fun k => nsF (R k)) s := by
    intro l
    induction l with
    | nil => intro _; rfl
    | cons a l ih =>
      intro h
      have := compF_map (i := i) (s := s) (e := mN sortF (aCons (mVar i) aNil)) (sl := sl.set i .no) (f := fun x => match sortF [x] with | .new (.lst xs) => .lst xs | _ => x) ((a :: l).map f) (fun x hx => by
        obtain ⟨k, hk, rfl⟩ := List.mem_map.mp hx
        have := hf k (h k hk)
        refine ⟨.fr (.lst ((R k).map F.str)), ?_, by rw [this]; rfl⟩
        have e1 : ((sl.set i .no).set i (.v (.f (f k))))[i]? = some (.v (.f (f k))) := by rw [List.getElem?_set_self (by simpa using lt)]
        generalize (sl.set i .no).set i (.v (.f (f k))) = sl2 at e1
        simp [-sortF, e1, this])
      rw [this, List.map_map]
      congr 1
      apply List.map_congr_left
      intro k hk
      simp only [Function.comp]
      rw [hf k (h k hk)]
  exact go (List.range n) fun k hk => List.mem_range.mp hk
abbrev bodyU : MS := (sSeq (sSet 6 (mB modF (mB addF (mB divF (mB ixF (mVar 0) (mVar 5)) (mC (.int 3))) (mB ixF (mVar 0) (mB addF (mVar 5) (mC (.int 1))))) (mN lenF (aCons (mVar 4) aNil)))) (sSeq (sSet 7 (mCall p_l_numbers (aCons (mVar 3) (aCons (mVar 2) (aCons (mVar 6) (aCons (mSl slF (mVar 0) (some (mVar 5)) (some (mB addF (mVar 5) (mC (.int 3))))) aNil)))))) (sSeq (sSet 8 (mCall p_l_all (aCons (mVar 3) (aCons (mC (.int 0)) (aCons (mN lenF (aCons (mVar 4) aNil)) aNil))))) (sSeq (sOwn 9 mDnew) (sSeq (sIf (mCall p_l_done (aCons (mVar 3) (aCons (mVar 6) (aCons (mVar 7) aNil)))) (sForD 11 (mVar 7) (sUpdD (mVar 9) (mB dgetF (mB ixF (mVar 4) (mVar 6)) (mVar 11)))) sSkip) (sSeq (sFrz 9) (sSeq (sSet 10 (mCall p_l_all (aCons (mVar 3) (aCons (mC (.int 0)) (aCons (mN lenF (aCons (mVar 4) aNil)) aNil))))) (sSeq (sIf (mB neF (mLc 12 (iL (mVar 10)) (mC (.bl true)) (mN sortF (aCons (mVar 12) aNil))) (mLc 12 (iL (mVar 4)) (mC (.bl true)) (mN sortF (aCons (mVar 12) aNil)))) (sRet (mC (.bl false))) sSkip) (sIf (mNot (mCall p_l_stays (aCons (mVar 4) (aCons (mVar 9) (aCons (mVar 8) (aCons (mVar 10) aNil)))))) (sRet (mC (.bl false))) sSkip)))))))))
theorem upd_loop {s : Sto} {HL : List F} {h : Hg} {i : Nat} (hH : L2.atI HL (i : Int) = some (hF h)) (hl : ∀ a, (tH h a).length ≤ 52) (x0 x1 x2 x3 x5 x7 x8 x10 x11 x12 : Sl) : ∀ (L : List Str) (T : TD), (∀ a ∈ L, a ∈ nmH h) → T.length + 52 * L.length ≤ 1000 →
    ∃ T' y11, (∀ t ∈ T, t ∈ T') ∧ (∀ a ∈ L, ∀ t ∈ tH h a, t ∈ T') ∧ loopF 11 (sUpdD (mVar 9) (mB dgetF (mB ixF (mVar 4) (mVar 6)) (mVar 11))) (L.map F.str) [x0, x1, x2, x3, .v (.f (.lst HL)), x5, .v (.f (.int (i : Int))), x7, x8, .own (.dct (tK T)), x10, x11, x12] s = .nx [x0, x1, x2, x3, .v (.f (.lst HL)), x5, .v (.f (.int (i : Int))), x7, x8, .own (.dct (tK T')), x10, y11, x12] s := by
  intro L
  induction L generalizing x11 with
  | nil => intro T _ _; exact ⟨T, x11, fun t h => h, fun a h => (by cases h), rfl⟩
  | cons a L ih =>
    intro T hm hz
    have ha := gH_v (hm a (by simp))
    have hz1 : (tK T).length + (tK (tH h a)).length ≤ sizeLine := by
      rw [tK_len, tK_len]
      have := hl a
      rw [List.length_cons] at hz
      exact Nat.le_trans (show _ ≤ 1000 by omega) (by decide)
    obtain ⟨T', y11, t1, t2, lp⟩ := ih (.v (.f (.str a))) (mT T (tH h a)) (fun b hb => hm b (by simp [hb])) (by
      have := mT_len (tH h a) T
      have := hl a
      rw [List.length_cons] at hz
      omega)
    refine ⟨T', y11, fun t ht => t1 t (mem_mT.mpr (.inl ht)), fun b hb t ht => ?_, ?_⟩
    · rcases List.mem_cons.mp hb with rfl | hb
      · exact t1 t (mem_mT.mpr (.inr ht))
      · exact t2 b hb t ht
    · have bd : (sUpdD (mVar 9) (mB dgetF (mB ixF (mVar 4) (mVar 6)) (mVar 11))) ([x0, x1, x2, x3, .v (.f (.lst HL)), x5, .v (.f (.int (i : Int))), x7, x8, .own (.dct (tK T)), x10, x11, x12].set 11 (.v (.f (.str a)))) s = .nx [x0, x1, x2, x3, .v (.f (.lst HL)), x5, .v (.f (.int (i : Int))), x7, x8, .own (.dct (tK (mT T (tH h a)))), x10, .v (.f (.str a)), x12] s := by
        refine (e_upd (i := 9) (kvs := tK T) (more := tK (tH h a)) (y := .w (.f (tF (tH h a)))) rfl ?_ rfl hz1).trans ?_
        · simp [hH, ha]
        · rw [mK_tK]; rfl
      rw [List.map_cons, loopF_nx bd]
      exact lp
theorem body_u {ns : List Int} {P N : List Str} {n k : Nat} {B0 B : Bk} {H : Nat → Hg} (g : Gn P N n B0 H) (hn : n ≤ 20) (w : Now B0 B) (hk : k + 2 < ns.length) {HL : List F} (hHL : HL = HSl H n) (x5 x6 x7 x8 x9 x10 x11 : Sl) :
    ∃ B' y6 y7 y8 y9 y10 y11, Now B0 B' ∧ bodyU ([.v (.f (.scr ns)), .v (.f (nsF P)), .v (.f (nsF N)), .v (.c 0), .v (.f (.lst HL)), x5, x6, x7, x8, x9, x10, x11, .no].set 5 (.v (.f (.int (k : Int))))) (bS B [] []) = .nx [.v (.f (.scr ns)), .v (.f (nsF P)), .v (.f (nsF N)), .v (.c 0), .v (.f (.lst HL)), .v (.f (.int (k : Int))), y6, y7, y8, y9, y10, y11, .no] (bS B' [] []) := by
  have hpn : Plain [] := fun c h => by cases h
  have hl : B.nms.length = n + 1 := by rw [w.nm]; exact g.ln
  have h0 : B.nms[0]? = some N := by rw [w.nm]; exact g.h0
  have a1 : L2.atI ns (k : Int) = some ns[k] := Fm.atI_nat (by omega)
  have a2 : L2.atI ns ((k : Int) + 1) = some ns[k + 1] := by
    have := Fm.atI_nat (xs := ns) (k := k + 1) (by omega)
    rw [show ((k + 1 : Nat) : Int) = (k : Int) + 1 by omega] at this
    exact this
  have hcm := cut_mid (xs := ns.map F.int) (k := k) (by rw [List.length_map]; exact hk)
  simp only [List.getElem_map] at hcm
  obtain ⟨v0, v2⟩ := fmod_lt' (ns[k].fdiv 3 + ns[k + 1]) (n := ((n + 1 : Nat) : Int)) (by omega)
  obtain ⟨i, hi⟩ : ∃ i : Nat, (ns[k].fdiv 3 + ns[k + 1]).fmod ((n + 1 : Nat) : Int) = i := ⟨_, (Int.toNat_of_nonneg v0).symm⟩
  rw [hi] at v2
  have hi : (ns[k].fdiv 3 + ns[k + 1]).fmod ((n : Int) + 1) = i := by
    rw [← hi]; congr 1
  have hin : i ≤ n := by omega
  obtain ⟨r, hr0⟩ : ∃ r, B.rcs[0]? = some r := ⟨_, List.getElem?_eq_getElem (by have := w.rc; omega)⟩
  obtain ⟨r2, hr1⟩ : ∃ r, B.rcs[1]? = some r := ⟨_, List.getElem?_eq_getElem (by have := w.rc; omega)⟩
  obtain ⟨e, r2', hB1, eN, eM, eL, hnum⟩ := r_l_numbers w.wf hr0 hr1 h0 (i := i) (by omega) ns[k] ns[k + 1] ns[k + 2]
  have w1 : Now B0 (B.setR 1 r2') := ⟨hB1, w.nm, w.st, by show (B.rcs.set 1 r2').length = 2; rw [List.length_set]; exact w.rc⟩
  have hr01 : (B.setR 1 r2').rcs[0]? = some r := by
    show (B.rcs.set 1 r2')[0]? = _
    rw [List.getElem?_set_ne (by omega)]; exact hr0
  generalize ns[k] = na at *
  generalize ns[k + 1] = nb at *
  generalize ns[k + 2] = nc at *
  have hl1 : (B.setR 1 r2').nms.length = n + 1 := hl
  have eM : ∀ M, (B.setR 1 r2').nms[i]? = some M → ∀ a ∈ nm e, a ∈ M := eM
  generalize B.setR 1 r2' = B1 at *
  have hg1 : HgOk B1 ownT H := g.hg.same w1.nm w1.st
  have rc0 := hB1.rc r (List.mem_of_getElem? hr01)
  obtain ⟨M, hM⟩ : ∃ M, B1.nms[i]? = some M := ⟨_, List.getElem?_eq_getElem (by omega)⟩
  have okr := rd_ok hB1 rc0 i M hM
  have hme : ∀ a ∈ nm e, a ∈ nm (B1.rd r i) := fun a ha => (okr.2.1 a).mpr (eM M hM a ha)
  have hmh : ∀ a ∈ nm e, a ∈ nmH (H i) := fun a ha => (hg1.mem i M hM a).mpr (eM M hM a ha)
  have hall := r_l_all (lk := []) hpn hB1 hr01 (n := n + 1) (by omega)
  have hall : p_l_all [.c 0, .f (.int 0), .f (.int ((n : Int) + 1))] (bS B1 [] []) = .ok (.fr (.lst (B1.all r (n + 1)))) (bS B1 [] []) := hall
  have hdn := r_l_done hB1 hr01 (i := i) (by omega) eN hme
  have hHi := HSl_at (H := H) hin
  have hHl := HSl_len H n
  rw [← hHL] at hHi hHl
  have d3 : divOk 3 = true := divOk_of (by omega)
  have hN0 : ¬ (n : Int) + 1 = 0 := by omega
  obtain ⟨A0, hA0⟩ : ∃ A0, A0 = B1.all r (n + 1) := ⟨_, rfl⟩
  rw [← hA0] at hall
  -- what the change does
  obtain ⟨T, B2, q, y11, w2, hr02, hst, hst2⟩ : ∃ T B2 q y11, Now B0 B2 ∧ B2.rcs[0]? = some q ∧ (∀ j, j < n + 1 → ∀ x ∈ nmH (H j), (∃ t ∈ tH (H j) x, t ∈ T) ∨ gR (B2.rd q j) x = gR (B1.rd r j) x) ∧
      (sIf (mCall p_l_done (aCons (mVar 3) (aCons (mVar 6) (aCons (mVar 7) aNil)))) (sForD 11 (mVar 7) (sUpdD (mVar 9) (mB dgetF (mB ixF (mVar 4) (mVar 6)) (mVar 11)))) sSkip) [.v (.f (.scr ns)), .v (.f (nsF P)), .v (.f (nsF N)), .v (.c 0), .v (.f (.lst HL)), .v (.f (.int (k : Int))), .v (.f (.int (i : Int))), .v (.f (rF e)), .v (.f (.lst A0)), .own (.dct []), x10, x11, .no] (bS B1 [] []) = .nx [.v (.f (.scr ns)), .v (.f (nsF P)), .v (.f (nsF N)), .v (.c 0), .v (.f (.lst HL)), .v (.f (.int (k : Int))), .v (.f (.int (i : Int))), .v (.f (rF e)), .v (.f (.lst A0)), .own (.dct (tK T)), x10, y11, .no] (bS B2 [] []) := by
    cases hq : B1.back r i (putA (B1.rd r i) e) r.2 with
    | none =>
      refine ⟨[], B1, r, x11, w1, hr01, fun j _ x _ => .inr rfl, ?_⟩
      simp [hdn.1 hq]
      rfl
    | some q =>
      obtain ⟨hW, hd⟩ := hdn.2 q hq
      obtain ⟨T, y11, t1, t2, lp⟩ := upd_loop (s := bS (B1.setR 0 q) [] [.f (rF e)]) hHi (fun a => g.tl hin a) (.v (.f (.scr ns))) (.v (.f (nsF P))) (.v (.f (nsF N))) (.v (.c 0)) (.v (.f (.int (k : Int)))) (.v (.f (rF e))) (.v (.f (.lst A0))) x10 x11 .no (nm e) [] hmh (by simp; omega)
      refine ⟨T, B1.setR 0 q, q, y11, ⟨hW, w1.nm, w1.st, by show (B1.rcs.set 0 q).length = 2; rw [List.length_set]; exact w1.rc⟩, ?_, fun j hj x hx => ?_, ?_⟩
      · show (B1.rcs.set 0 q)[0]? = _
        rw [List.getElem?_set_self (by have := w1.rc; omega)]
      · by_cases z : ∃ t ∈ tH (H j) x, t ∈ T
        · exact .inl z
        · refine .inr ?_
          rw [rd_setR]
          exact stays hB1 hg1 rc0 (T := T) (i := i) (by omega) eN hme hq t2 j (by omega) x (fun t ht ht2 => z ⟨t, ht, ht2⟩) hx
      · rw [e_sIf]
        have ed : mCall p_l_done (aCons (mVar 3) (aCons (mVar 6) (aCons (mVar 7) aNil))) [.v (.f (.scr ns)), .v (.f (nsF P)), .v (.f (nsF N)), .v (.c 0), .v (.f (.lst HL)), .v (.f (.int (k : Int))), .v (.f (.int (i : Int))), .v (.f (rF e)), .v (.f (.lst A0)), .own (.dct []), x10, x11, .no] (bS B1 [] []) = .ok (.w (.f (.bl true))) (bS (B1.setR 0 q) [] []) := by simp [hd]
        rw [ed]
        show sForD 11 (mVar 7) _ [.v (.f (.scr ns)), .v (.f (nsF P)), .v (.f (nsF N)), .v (.c 0), .v (.f (.lst HL)), .v (.f (.int (k : Int))), .v (.f (.int (i : Int))), .v (.f (rF e)), .v (.f (.lst A0)), .own (.dct []), x10, x11, .no] (bS (B1.setR 0 q) [] []) = _
        rw [e_sForD, dW_eq (y := .w (.f (rF e))) (kvs := rK e) (s1 := bS (B1.setR 0 q) [] []) (by simp) (by simp) rfl]
        simp only [Fm.R.st_ok, e_kFD, keysF_rK]
        show (loopF 11 _ _ _ (bS (B1.setR 0 q) [] [.f (rF e)])).unl = _
        have lp : loopF 11 _ _ [.v (.f (.scr ns)), .v (.f (nsF P)), .v (.f (nsF N)), .v (.c 0), .v (.f (.lst HL)), .v (.f (.int (k : Int))), .v (.f (.int (i : Int))), .v (.f (rF e)), .v (.f (.lst A0)), .own (.dct []), x10, x11, .no] (bS (B1.setR 0 q) [] [.f (rF e)]) = _ := lp
        rw [lp]
        rfl
  have rc2 := w2.wf.rc q (List.mem_of_getElem? hr02)
  have hall2 := r_l_all (lk := []) hpn w2.wf hr02 (n := n + 1) (by rw [w2.nm, g.ln]; exact Nat.le_refl _)
  have hall2 : p_l_all [.c 0, .f (.int 0), .f (.int ((n : Int) + 1))] (bS B2 [] []) = .ok (.fr (.lst (B2.all q (n + 1)))) (bS B2 [] []) := hall2
  have nms2 : ∀ j, j < n + 1 → ∃ M, B0.nms[j]? = some M ∧ (∀ a, a ∈ nm (B1.rd r j) ↔ a ∈ M) ∧ (NdR (B2.rd q j) ∧ (∀ a, a ∈ nm (B2.rd q j) ↔ a ∈ M) ∧ (B2.rd q j).length ≤ 12) ∧ (∀ a, a ∈ nmH (H j) ↔ a ∈ M) ∧ (nmH (H j)).Nodup := fun j hj => by
    obtain ⟨M, hM⟩ : ∃ M, B0.nms[j]? = some M := ⟨_, List.getElem?_eq_getElem (by rw [g.ln]; exact hj)⟩
    exact ⟨M, hM, (rd_ok hB1 rc0 j M (by rw [w1.nm]; exact hM)).2.1, rd_ok w2.wf rc2 j M (by rw [w2.nm]; exact hM), g.hg.mem j M hM, g.hg.nd j (by rw [g.ln]; exact hj)⟩
  have rows1 := rows_ok (s := bS B2 [] []) (A := []) (n + 1) (by omega) 12 10 (sl := [.v (.f (.scr ns)), .v (.f (nsF P)), .v (.f (nsF N)), .v (.c 0), .v (.f (.lst ((List.range (n + 1)).map fun j => hF (H j)))), .v (.f (.int (k : Int))), .v (.f (.int (i : Int))), .v (.f (rF e)), .v (.f (.lst A0)), .v (.f (tF T)), .v (.f (.lst ((List.range (n + 1)).map fun j => rF (B2.rd q j)))), y11, .no]) (fun j => sortS (nmH (H j))) (fun j => rF (B2.rd q j)) rfl rfl (by decide) (by simp) (fun j hj => by
    obtain ⟨M, hM, m1, m2, m3, m4⟩ := nms2 j hj
    have := sort_rF (B2.rd q j) (by omega)
    rw [this]
    have hp : (nm (B2.rd q j)).Perm (nmH (H j)) := (List.perm_ext_iff_of_nodup m2.1 m4).mpr fun a => by rw [m2.2.1, m3]
    rw [sortS_eq.mpr hp])
  have rows2 := rows_ok (s := bS B2 [] []) (A := []) (n + 1) (by omega) 12 4 (sl := [.v (.f (.scr ns)), .v (.f (nsF P)), .v (.f (nsF N)), .v (.c 0), .v (.f (.lst ((List.range (n + 1)).map fun j => hF (H j)))), .v (.f (.int (k : Int))), .v (.f (.int (i : Int))), .v (.f (rF e)), .v (.f (.lst A0)), .v (.f (tF T)), .v (.f (.lst (B2.all q (n + 1)))), y11, .no]) (fun j => sortS (nmH (H j))) (fun j => hF (H j)) rfl rfl (by decide) (by simp) (fun j hj => by
    obtain ⟨M, hM, m1, m2, m3, m4⟩ := nms2 j hj
    have hp : (nm (B2.rd q j)).Perm (nmH (H j)) := (List.perm_ext_iff_of_nodup m2.1 m4).mpr fun a => by rw [m2.2.1, m3]
    have := hp.length_eq
    rw [List.length_map, List.length_map] at this
    exact sort_hF (H j) (by have := m2.2.2; omega))
  have er := eqT_rows (List.range (n + 1)) (fun j => sortS (nmH (H j)))
  have hsx := r_l_stays (s := bS B2 [] []) (insOkB hpn) rfl (HL := HSl H n) (A0 := B1.all r (n + 1)) (A1 := B2.all q (n + 1)) (T := T) (n := n + 1) (by omega) (H := H) (d0 := fun j => B1.rd r j) (d1 := fun j => B2.rd q j) (HSl_len H n) (fun j hj => by
    obtain ⟨M, hM, m1, m2, m3, m4⟩ := nms2 j hj
    refine ⟨?_, ?_, HSl_at (by omega), fun x hx => ⟨Nat.le_trans (g.tl (by omega) x) (by omega), (m1 x).mpr ((m3 x).mp hx), (m2.2.1 x).mpr ((m3 x).mp hx), hst j hj x hx⟩⟩
    · rw [Fm.atI_nat (by simpa using hj)]; simp
    · rw [Fm.atI_nat (by simpa using hj)]; simp)
  have eA1 : (List.range (n + 1)).map (fun j => rF (B2.rd q j)) = B2.all q (n + 1) := rfl
  rw [eA1] at rows1
  rw [← hHL, ← hA0] at hsx
  have eHL : (List.range (n + 1)).map (fun j => hF (H j)) = HL := hHL.symm
  rw [eHL] at rows1 rows2
  generalize B2.all q (n + 1) = A1 at *
  generalize (List.range (n + 1)).map (fun k => nsF (sortS (nmH (H k)))) = RW at *
  refine ⟨B2, .v (.f (.int (i : Int))), .v (.f (rF e)), .v (.f (.lst A0)), .v (.f (tF T)), .v (.f (.lst A1)), y11, w2, ?_⟩
  show bodyU [.v (.f (.scr ns)), .v (.f (nsF P)), .v (.f (nsF N)), .v (.c 0), .v (.f (.lst HL)), .v (.f (.int (k : Int))), x6, x7, x8, x9, x10, x11, .no] (bS B [] []) = _
  obtain ⟨rr, hr⟩ : ∃ rr, bodyU [.v (.f (.scr ns)), .v (.f (nsF P)), .v (.f (nsF N)), .v (.c 0), .v (.f (.lst HL)), .v (.f (.int (k : Int))), x6, x7, x8, x9, x10, x11, .no] (bS B [] []) = rr := ⟨_, rfl⟩
  rw [hr]
  unfold bodyU at hr
  replace hr := step hr (sl' := [.v (.f (.scr ns)), .v (.f (nsF P)), .v (.f (nsF N)), .v (.c 0), .v (.f (.lst HL)), .v (.f (.int (k : Int))), .v (.f (.int (i : Int))), x7, x8, x9, x10, x11, .no]) (by simp [a1, a2, d3, hN0, hHl, hi])
  replace hr := stepS hr (s' := bS B1 [] []) (sl' := [.v (.f (.scr ns)), .v (.f (nsF P)), .v (.f (nsF N)), .v (.c 0), .v (.f (.lst HL)), .v (.f (.int (k : Int))), .v (.f (.int (i : Int))), .v (.f (rF e)), x8, x9, x10, x11, .no]) (by simp [hcm, hnum])
  replace hr := step hr (sl' := [.v (.f (.scr ns)), .v (.f (nsF P)), .v (.f (nsF N)), .v (.c 0), .v (.f (.lst HL)), .v (.f (.int (k : Int))), .v (.f (.int (i : Int))), .v (.f (rF e)), .v (.f (.lst A0)), x9, x10, x11, .no]) (by simp [hHl, hall])
  replace hr := step hr (sl' := [.v (.f (.scr ns)), .v (.f (nsF P)), .v (.f (nsF N)), .v (.c 0), .v (.f (.lst HL)), .v (.f (.int (k : Int))), .v (.f (.int (i : Int))), .v (.f (rF e)), .v (.f (.lst A0)), .own (.dct []), x10, x11, .no]) (by simp)
  replace hr := stepS hr hst2
  replace hr := step hr (sl' := [.v (.f (.scr ns)), .v (.f (nsF P)), .v (.f (nsF N)), .v (.c 0), .v (.f (.lst HL)), .v (.f (.int (k : Int))), .v (.f (.int (i : Int))), .v (.f (rF e)), .v (.f (.lst A0)), .v (.f (tF T)), x10, y11, .no]) (by simp [tF])
  replace hr := step hr (sl' := [.v (.f (.scr ns)), .v (.f (nsF P)), .v (.f (nsF N)), .v (.c 0), .v (.f (.lst HL)), .v (.f (.int (k : Int))), .v (.f (.int (i : Int))), .v (.f (rF e)), .v (.f (.lst A0)), .v (.f (tF T)), .v (.f (.lst A1)), y11, .no]) (by simp [hHl, hall2])
  replace hr := step hr (sl' := [.v (.f (.scr ns)), .v (.f (nsF P)), .v (.f (nsF N)), .v (.c 0), .v (.f (.lst HL)), .v (.f (.int (k : Int))), .v (.f (.int (i : Int))), .v (.f (rF e)), .v (.f (.lst A0)), .v (.f (tF T)), .v (.f (.lst A1)), y11, .no]) (by simp [-sortF, rows1, rows2, er])
  rw [← hr]
  simp [hsx]
theorem rg17 : ∀ h : Nat, h ≤ 64 → ((3 : Int) ≠ 0 ∧ (3 : Int).natAbs < 1073741824 ∧ Builtin.Range.small 17 (min ((h : Int) - 2) 50) 3 = true ∧ 0 ≤ Builtin.Range.rangeSize 17 (min ((h : Int) - 2) 50) 3) ∧ ∀ j, j < (Builtin.Range.rangeSize 17 (min ((h : Int) - 2) 50) 3).toNat → 17 + 3 * j + 2 < h := by decide +kernel
theorem law_ok : ∀ ns : List Int, ns.length ≤ 63 → ∃ s', p_law [.f (.scr ns)] ⟨[], []⟩ = .ok (.w (.f (.bl true))) s' := by
  intro ns hns
  have hs : insOk ⟨[], []⟩ := insOk0
  have cc : ∀ (s : Sto), insOk s → ∀ k : Int, 0 ≤ k → p_l_cell_at [.f (.scr ns), .f (.int k)] s = .ok (.w (.f (.int (cl ns k)))) s := fun s hs k hk => r_l_cell_at hs ns k hk
  have c0 := cc _ hs 0 (by decide)
  have c1 := cc _ hs 1 (by decide)
  have hpn : Plain [] := fun c h => by cases h
  obtain ⟨m, hN, hN1, hN6⟩ : ∃ N : Nat, 1 + (cl ns 1).fmod 6 = N ∧ 1 ≤ N ∧ N ≤ 6 := by
    obtain ⟨h1, h2⟩ := fmod_lt' (cl ns 1) (n := 6) (by decide)
    exact ⟨(1 + (cl ns 1).fmod 6).toNat, by omega, by omega, by omega⟩
  have hP := r_l_pool hs (cl ns 0)
  rw [pool_F] at hP
  have hcut : cutF ((poolS (cl ns 0)).map F.str) none (some (m : Int)) = (rowOf (cl ns 0) m).map F.str := by
    rw [cut_to _ _ (by rw [List.length_map, poolS_len]; omega), ← List.map_take]
    unfold poolS rowOf
    rw [← List.map_take, List.take_range, Nat.min_eq_left (by omega)]
  have hrl : (rowOf (cl ns 0) m).length = m := by simp [rowOf]
  have hrn : (rowOf (cl ns 0) m).Nodup := row_nd _ (by omega)
  have hsub : ∀ a ∈ rowOf (cl ns 0) m, a ∈ poolS (cl ns 0) := fun a ha => by
    unfold rowOf at ha
    obtain ⟨k, hk, rfl⟩ := List.mem_map.mp ha
    have := List.mem_range.mp hk
    unfold poolS rowOf
    exact List.mem_map.mpr ⟨k, List.mem_range.mpr (by omega), rfl⟩
  have pnd := poolS_nd (cl ns 0)
  have pln := poolS_len (cl ns 0)
  have pnm := poolS_nm (cl ns 0)
  generalize poolS (cl ns 0) = P at *
  generalize rowOf (cl ns 0) m = N at *
  have hnew := r_new (gn_ok hrn (by omega) (by omega) fun a ha => pnm a (hsub a ha))
  obtain ⟨n, B, H, hn7, g, hbk⟩ := r_l_books hns pnd pln pnm hrn (by omega) (by omega) hsub
  have mk1 := r_make (post := []) hpn g.h0 hrn (by omega) (by rw [g.rc]; decide)
  have w1 := g.wf.make g.h0
  have mk2 := r_make (B := B.make N) (post := []) hpn g.h0 hrn (by omega) (by simp [Bk.make, g.rc])
  have w2 := w1.make g.h0
  have e1 : B.rcs.length = 0 := by rw [g.rc]; rfl
  have e2 : (B.make N).rcs.length = 1 := by simp [Bk.make, g.rc]
  have e3 : ((B.make N).make N).rcs.length = 2 := by simp [Bk.make, g.rc]
  rw [e1] at mk1
  rw [e2] at mk2
  have now2 : Now B ((B.make N).make N) := ⟨w2, rfl, rfl, e3⟩
  generalize hB1 : B.make N = B1 at *
  generalize hB2 : B1.make N = B2 at *
  have c16 := cc (bS B2 [] []) (insOkB hpn) 16 (by decide)
  obtain ⟨d1, bd, hfirst⟩ := r_l_first (s := bS B2 [] []) (insOkB hpn) N (by omega) (cl ns 16)
  obtain ⟨r, hr0⟩ : ∃ r, B2.rcs[0]? = some r := ⟨_, List.getElem?_eq_getElem (by omega)⟩
  have h02 : B2.nms[0]? = some N := by rw [now2.nm]; exact g.h0
  have m1 : ∀ a ∈ nm d1, a ∈ nm (B2.rd r 0) := fun a ha => by
    rw [(rd_ok w2 (w2.rc r (List.mem_of_getElem? hr0)) 0 N h02).2.1]
    exact (bd.all a).mp ha
  have ch1 := (r_change (post := []) hpn w2 hr0 (i := 0) (by omega) (nuI_v bd.nd) (changedR_I m1)).2 _ (back_none' rfl)
  rw [nF_I] at ch1
  obtain ⟨hB3, ch1⟩ := ch1
  generalize (putA (B2.rd r 0) d1, r.2) = r' at hB3 ch1
  have ch1 : p_B_change [.c 0, .f (.int 0), .f (.int 0), .f (rF d1)] (bS B2 [] []) = .ok (.fr (.lst (intL (B2.diff r r')))) (bS (B2.setR 0 r') [] []) := ch1
  have now3 : Now B (B2.setR 0 r') := ⟨hB3, now2.nm, now2.st, by show (B2.rcs.set 0 r').length = 2; rw [List.length_set]; exact now2.rc⟩
  generalize B2.setR 0 r' = B3 at *
  have d6 : divOk 6 = true := divOk_of (by omega)
  obtain ⟨HL, hHL⟩ : ∃ HL, HL = HSl H n := ⟨_, rfl⟩
  rw [← hHL] at hbk
  obtain ⟨rr, hr, he⟩ := run_of 13 b_law [.f (.scr ns)] ⟨[], []⟩
  show ∃ s', runA 13 b_law [.f (.scr ns)] ⟨[], []⟩ = _
  rw [he]
  clear he
  unfold b_law at hr
  replace hr := step hr (sl' := [.v (.f (.scr ns)), .v (.f (nsF P)), .no, .no, .no, .no, .no, .no, .no, .no, .no, .no, .no]) (by simp [c0, hP])
  replace hr := step hr (sl' := [.v (.f (.scr ns)), .v (.f (nsF P)), .v (.f (nsF N)), .no, .no, .no, .no, .no, .no, .no, .no, .no, .no]) (by simp [c1, hN, hcut, d6])
  replace hr := stepS hr (s' := bS (newBk N) [] []) (sl' := [.v (.f (.scr ns)), .v (.f (nsF P)), .v (.f (nsF N)), .v (.c 0), .no, .no, .no, .no, .no, .no, .no, .no, .no]) (by simp [hnew])
  replace hr := stepS hr (s' := bS B [] []) (sl' := [.v (.f (.scr ns)), .v (.f (nsF P)), .v (.f (nsF N)), .v (.c 0), .v (.f (.lst HL)), .no, .no, .no, .no, .no, .no, .no, .no]) (by simp [hbk])
  replace hr := stepS hr (s' := bS B2 [] []) (sl' := [.v (.f (.scr ns)), .v (.f (nsF P)), .v (.f (nsF N)), .v (.c 0), .v (.f (.lst HL)), .no, .no, .no, .no, .no, .no, .no, .no]) (by
    have mk1 : p_B_make [.c 0] (bS B [] []) = .ok (.w (.f (.int 0))) (bS B1 [] []) := mk1
    have mk2 : p_B_make [.c 0] (bS B1 [] []) = .ok (.w (.f (.int 1))) (bS B2 [] []) := mk2
    simp [mk1, mk2])
  replace hr := stepS hr (s' := bS B3 [] []) (sl' := [.v (.f (.scr ns)), .v (.f (nsF P)), .v (.f (nsF N)), .v (.c 0), .v (.f (.lst HL)), .no, .no, .no, .no, .no, .no, .no, .no]) (by simp [c16, hfirst, ch1])
  obtain ⟨g1, g3⟩ := rg17 ns.length (by omega)
  obtain ⟨sl', s', lp, B6, x5, x6, x7, x8, x9, x10, x11, w6, rfl, rfl⟩ := loopF_inv (i := 5) (body := bodyU)
    (fun _ sl s => ∃ B4 x5 x6 x7 x8 x9 x10 x11, Now B B4 ∧ sl = [.v (.f (.scr ns)), .v (.f (nsF P)), .v (.f (nsF N)), .v (.c 0), .v (.f (.lst HL)), x5, x6, x7, x8, x9, x10, x11, .no] ∧ s = bS B4 [] []) (rgF 17 3 (Builtin.Range.rangeSize 17 (min ((ns.length : Int) - 2) 50) 3).toNat) [.v (.f (.scr ns)), .v (.f (nsF P)), .v (.f (nsF N)), .v (.c 0), .v (.f (.lst HL)), .no, .no, .no, .no, .no, .no, .no, .no] (bS B3 [] []) ⟨B3, .no, .no, .no, .no, .no, .no, .no, now3, rfl, rfl⟩ (fun pre x post e sl s ⟨B4, x5, x6, x7, x8, x9, x10, x11, w4, e5, e6⟩ => by
    subst e5 e6
    obtain ⟨ex, hlt⟩ := rg_at e
    have hk := g3 _ hlt
    have e7 : (17 : Int) + (pre.length : Int) * 3 = ((17 + 3 * pre.length : Nat) : Int) := by omega
    rw [e7] at ex
    subst ex
    obtain ⟨B5, y6, y7, y8, y9, y10, y11, w5, hb⟩ := body_u (ns := ns) (P := P) g (by omega) w4 (k := 17 + 3 * pre.length) hk hHL x5 x6 x7 x8 x9 x10 x11
    exact ⟨_, _, hb, B5, _, y6, y7, y8, y9, y10, y11, w5, rfl, rfl⟩)
  replace hr := stepS hr (s' := bS B6 [] []) (sl' := [.v (.f (.scr ns)), .v (.f (nsF P)), .v (.f (nsF N)), .v (.c 0), .v (.f (.lst HL)), x5, x6, x7, x8, x9, x10, x11, .no]) (by
    rw [e_sFor]
    have hm : (if (50 : Int) < (ns.length : Int) - 2 then (50 : Int) else (ns.length : Int) - 2) = min ((ns.length : Int) - 2) 50 := by
      split <;> omega
    have := iR3_ok (a := mC (.int 17)) (b := mN minF (aCons (mB subF (mN lenF (aCons (mVar 0) aNil)) (mC (.int 2))) (aCons (mC (.int 50)) aNil))) (c := mC (.int 3)) (sl := [.v (.f (.scr ns)), .v (.f (nsF P)), .v (.f (nsF N)), .v (.c 0), .v (.f (.lst HL)), .no, .no, .no, .no, .no, .no, .no, .no]) (s := bS B3 [] []) (i := 17) (j := min ((ns.length : Int) - 2) 50) (k := 3) rfl (by simp [hm]) rfl g1
    rw [this]
    exact lp)
  have hrr : rr = .rt (.w (.f (.bl true))) (bS B6 [] []) := by rw [← hr]; simp
  refine ⟨(⟨[], []⟩ : Sto).back (bS B6 [] []), ?_⟩
  rw [hrr]
  simp [outA, bOk]
end K13

namespace K13
open PySem L2 Fm PB
def top (i : Nat) : Stmt := PySem.Challenge.pw_formlens_k13_whole_unknown_stays.main.body.getD i (.Pass ⟨0, 0, 0, 0⟩)
abbrev s_is_name : Stmt := top 17
abbrev s_is_number : Stmt := top 18
abbrev s_is_size : Stmt := top 19
abbrev s_is_step : Stmt := top 20
abbrev s_begins_from : Stmt := top 21
abbrev s_brings : Stmt := top 22
abbrev s_names_behind : Stmt := top 23
abbrev s_forth : Stmt := top 24
abbrev s_back : Stmt := top 25
abbrev s_good_names : Stmt := top 28
abbrev s_B_init : Stmt := inClass (top 29) 0
abbrev s_B_need_form : Stmt := inClass (top 29) 1
abbrev s_B_need_record : Stmt := inClass (top 29) 2
abbrev s_B_grow : Stmt := inClass (top 29) 3
abbrev s_B_make : Stmt := inClass (top 29) 8
abbrev s_B_line : Stmt := inClass (top 29) 10
abbrev s_B_own : Stmt := inClass (top 29) 11
abbrev s_B_readings : Stmt := inClass (top 29) 12
abbrev s_B_reading : Stmt := inClass (top 29) 13
abbrev s_B_all_readings : Stmt := inClass (top 29) 14
abbrev s_B_changed : Stmt := inClass (top 29) 15
abbrev s_B_change : Stmt := inClass (top 29) 16
abbrev s_l_cell_at : Stmt := top 31
abbrev s_l_pool : Stmt := top 32
abbrev s_l_step : Stmt := top 33
abbrev s_l_hangs_behind : Stmt := top 34
abbrev s_l_books : Stmt := top 35
abbrev s_l_all : Stmt := top 36
abbrev s_l_number : Stmt := top 37
abbrev s_l_first : Stmt := top 38
abbrev s_l_numbers : Stmt := top 39
abbrev s_l_done : Stmt := top 40
abbrev s_l_stays : Stmt := top 41
abbrev s_law : Stmt := top 42
structure Tp (K : PySem.W.Frag) (mg : Str → Option Value) (C : Addr) (cls : Str → Addr) (t0 t1 t2 t3 t4 : Tok) (f_is_name f_is_number f_is_size f_is_step f_begins_from f_brings f_names_behind f_forth f_back f_good_names f_B_init f_B_need_form f_B_need_record f_B_grow f_B_make f_B_line f_B_own f_B_readings f_B_reading f_B_all_readings f_B_changed f_B_change f_l_cell_at f_l_pool f_l_step f_l_hangs_behind f_l_books f_l_all f_l_number f_l_first f_l_numbers f_l_done f_l_stays f_law : Addr) : Prop where
  c_LETTERS : mg "LETTERS" = some (.str "abcdefghijklmnopqrstuvwxyz" t0)
  c_MOST_LETTERS : mg "MOST_LETTERS" = some (.int 8 t1)
  c_MOST_NAMES : mg "MOST_NAMES" = some (.int 12 t2)
  c_MOST_SIZE : mg "MOST_SIZE" = some (.int 1000000 t3)
  c_MOST_FORMS : mg "MOST_FORMS" = some (.int 30 t4)
  z_bool : mg "bool" = none
  z_dict : mg "dict" = none
  z_int : mg "int" = none
  z_isinstance : mg "isinstance" = none
  z_len : mg "len" = none
  z_list : mg "list" = none
  z_min : mg "min" = none
  z_range : mg "range" = none
  z_sorted : mg "sorted" = none
  z_str : mg "str" = none
  z_tuple : mg "tuple" = none
  g_is_name : mg "is_name" = some (.ref f_is_name)
  k_is_name : PySem.W.keepIn K (.ref f_is_name) = true
  g_is_number : mg "is_number" = some (.ref f_is_number)
  k_is_number : PySem.W.keepIn K (.ref f_is_number) = true
  g_is_size : mg "is_size" = some (.ref f_is_size)
  k_is_size : PySem.W.keepIn K (.ref f_is_size) = true
  g_is_step : mg "is_step" = some (.ref f_is_step)
  k_is_step : PySem.W.keepIn K (.ref f_is_step) = true
  g_begins_from : mg "begins_from" = some (.ref f_begins_from)
  k_begins_from : PySem.W.keepIn K (.ref f_begins_from) = true
  g_brings : mg "brings" = some (.ref f_brings)
  k_brings : PySem.W.keepIn K (.ref f_brings) = true
  g_names_behind : mg "names_behind" = some (.ref f_names_behind)
  k_names_behind : PySem.W.keepIn K (.ref f_names_behind) = true
  g_forth : mg "forth" = some (.ref f_forth)
  k_forth : PySem.W.keepIn K (.ref f_forth) = true
  g_back : mg "back" = some (.ref f_back)
  k_back : PySem.W.keepIn K (.ref f_back) = true
  g_good_names : mg "good_names" = some (.ref f_good_names)
  k_good_names : PySem.W.keepIn K (.ref f_good_names) = true
  mkB : Mk K C f_B_init
  m_need_form : Meth K C "need_form" f_B_need_form
  m_need_record : Meth K C "need_record" f_B_need_record
  m_grow : Meth K C "grow" f_B_grow
  m_make : Meth K C "make" f_B_make
  m_line : Meth K C "line" f_B_line
  m_own : Meth K C "own" f_B_own
  m_readings : Meth K C "readings" f_B_readings
  m_reading : Meth K C "reading" f_B_reading
  m_all_readings : Meth K C "all_readings" f_B_all_readings
  m_changed : Meth K C "changed" f_B_changed
  m_change : Meth K C "change" f_B_change
  g_l_cell_at : mg "_law_cell_at" = some (.ref f_l_cell_at)
  k_l_cell_at : PySem.W.keepIn K (.ref f_l_cell_at) = true
  g_l_pool : mg "_law_pool" = some (.ref f_l_pool)
  k_l_pool : PySem.W.keepIn K (.ref f_l_pool) = true
  g_l_step : mg "_law_step" = some (.ref f_l_step)
  k_l_step : PySem.W.keepIn K (.ref f_l_step) = true
  g_l_hangs_behind : mg "_law_hangs_behind" = some (.ref f_l_hangs_behind)
  k_l_hangs_behind : PySem.W.keepIn K (.ref f_l_hangs_behind) = true
  g_l_books : mg "_law_books" = some (.ref f_l_books)
  k_l_books : PySem.W.keepIn K (.ref f_l_books) = true
  g_l_all : mg "_law_all" = some (.ref f_l_all)
  k_l_all : PySem.W.keepIn K (.ref f_l_all) = true
  g_l_number : mg "_law_number" = some (.ref f_l_number)
  k_l_number : PySem.W.keepIn K (.ref f_l_number) = true
  g_l_first : mg "_law_first" = some (.ref f_l_first)
  k_l_first : PySem.W.keepIn K (.ref f_l_first) = true
  g_l_numbers : mg "_law_numbers" = some (.ref f_l_numbers)
  k_l_numbers : PySem.W.keepIn K (.ref f_l_numbers) = true
  g_l_done : mg "_law_done" = some (.ref f_l_done)
  k_l_done : PySem.W.keepIn K (.ref f_l_done) = true
  g_l_stays : mg "_law_stays" = some (.ref f_l_stays)
  k_l_stays : PySem.W.keepIn K (.ref f_l_stays) = true
  g_law : mg "law" = some (.ref f_law)
  k_law : PySem.W.keepIn K (.ref f_law) = true
  cl : Cls K C
  n_elders : NoAttr K C "elders"
  n_kept : NoAttr K C "kept"
  n_lists : NoAttr K C "lists"
  n_owns : NoAttr K C "owns"
  n_ways : NoAttr K C "ways"
  g_Book : mg "Book" = some (.ref C)
  x_NoField : XcF K mg cls "NoField"
  x_Taken : XcF K mg cls "Taken"
  x_BadForm : XcF K mg cls "BadForm"
  x_BadName : XcF K mg cls "BadName"
  x_BadNumber : XcF K mg cls "BadNumber"
  y_BadNumber : mg "BadNumber" = some (.ref (cls "BadNumber"))
  h_BadNumber : ∀ c, ns0.contains c = true → PySem.W.exmOne K (.ref (cls c)) (.ref (cls "BadNumber")) = some (exSub c "BadNumber")
  x_BadStep : XcF K mg cls "BadStep"
  x_NoForm : XcF K mg cls "NoForm"
  x_NoRecord : XcF K mg cls "NoRecord"
  x_TooMany : XcF K mg cls "TooMany"
section
variable {P : Program} {w : World} {K : PySem.W.Frag} {mg : Str → Option Value} {base : Heap} {C : Addr} {cls : Str → Addr} {t0 t1 t2 t3 t4 : Tok} {f_is_name f_is_number f_is_size f_is_step f_begins_from f_brings f_names_behind f_forth f_back f_good_names f_B_init f_B_need_form f_B_need_record f_B_grow f_B_make f_B_line f_B_own f_B_readings f_B_reading f_B_all_readings f_B_changed f_B_change f_l_cell_at f_l_pool f_l_step f_l_hangs_behind f_l_books f_l_all f_l_number f_l_first f_l_numbers f_l_done f_l_stays f_law : Addr}
theorem sc_is_name : FnScope N_is_name ["thing"] (defScope s_is_name) := ⟨rfl, rfl, rfl, by decide +kernel, rfl, by decide +kernel, by decide +kernel⟩
set_option maxHeartbeats 4000000 in
theorem d_is_name (T : Tp K mg C cls t0 t1 t2 t3 t4 f_is_name f_is_number f_is_size f_is_step f_begins_from f_brings f_names_behind f_forth f_back f_good_names f_B_init f_B_need_form f_B_need_record f_B_grow f_B_make f_B_line f_B_own f_B_readings f_B_reading f_B_all_readings f_B_changed f_B_change f_l_cell_at f_l_pool f_l_step f_l_hangs_behind f_l_books f_l_all f_l_number f_l_first f_l_numbers f_l_done f_l_stays f_law)  : BodyK P w K mg base C cls 0 f_is_name N_is_name "is_name" s_is_name b_is_name := fun cdv A outer s H E G o hr hp =>
  (dss_cons (ds_if (dt_w (dw_or (dt_not (dt_val (de_isi (t := .str) rfl T.z_isinstance rfl T.z_str rfl (de_var 0)))) (dw_or (dt_cmp od_lt rfl (de_callB cd_len rfl T.z_len rfl (da_cons (de_var 0) da_nil)) de_int) (dw_or1 (dt_cmp od_gt rfl (de_callB cd_len rfl T.z_len rfl (da_cons (de_var 0) da_nil)) (de_gint rfl T.c_MOST_LETTERS)))))) (dss_one (ds_ret o.xs de_bl)) dss_nil) (dss_cons (ds_for 1 sc_is_name.nd rfl (Or.inl rfl) o.fr hp rfl (di_str (de_var 0)) (dss_one (ds_if (dt_cmp od_nin rfl (de_var 1) (de_gstr rfl T.c_LETTERS)) (dss_one (ds_ret o.xs de_bl)) dss_nil))) (dss_one (ds_ret o.xs de_bl))))
theorem sc_is_number : FnScope N_is_number ["thing"] (defScope s_is_number) := ⟨rfl, rfl, rfl, by decide +kernel, rfl, by decide +kernel, by decide +kernel⟩
set_option maxHeartbeats 4000000 in
theorem d_is_number (T : Tp K mg C cls t0 t1 t2 t3 t4 f_is_name f_is_number f_is_size f_is_step f_begins_from f_brings f_names_behind f_forth f_back f_good_names f_B_init f_B_need_form f_B_need_record f_B_grow f_B_make f_B_line f_B_own f_B_readings f_B_reading f_B_all_readings f_B_changed f_B_change f_l_cell_at f_l_pool f_l_step f_l_hangs_behind f_l_books f_l_all f_l_number f_l_first f_l_numbers f_l_done f_l_stays f_law)  : BodyK P w K mg base C cls 0 f_is_number N_is_number "is_number" s_is_number b_is_number := fun cdv A outer s H E G o hr hp =>
  (dss_one (ds_ret o.xs (de_and (de_isi (t := .int) rfl T.z_isinstance rfl T.z_int rfl (de_var 0)) (de_one (de_not (de_isi (t := .bl) rfl T.z_isinstance rfl T.z_bool rfl (de_var 0)))))))
theorem sc_is_size : FnScope N_is_size ["thing"] (defScope s_is_size) := ⟨rfl, rfl, rfl, by decide +kernel, rfl, by decide +kernel, by decide +kernel⟩
set_option maxHeartbeats 4000000 in
theorem d_is_size (T : Tp K mg C cls t0 t1 t2 t3 t4 f_is_name f_is_number f_is_size f_is_step f_begins_from f_brings f_names_behind f_forth f_back f_good_names f_B_init f_B_need_form f_B_need_record f_B_grow f_B_make f_B_line f_B_own f_B_readings f_B_reading f_B_all_readings f_B_changed f_B_change f_l_cell_at f_l_pool f_l_step f_l_hangs_behind f_l_books f_l_all f_l_number f_l_first f_l_numbers f_l_done f_l_stays f_law) (D_is_number : Dfn P w K mg base C cls 1 f_is_number ["thing"] p_is_number) : BodyK P w K mg base C cls 1 f_is_size N_is_size "is_size" s_is_size b_is_size := fun cdv A outer s H E G o hr hp =>
  (dss_one (ds_ret o.xs (de_and (xe_call 1 o D_is_number hr (by decide) rfl T.g_is_number T.k_is_number rfl (da_cons (de_var 0) da_nil)) (de_one (de_chain od_le od_le de_int (de_var 0) (de_gint rfl T.c_MOST_SIZE))))))
theorem sc_is_step : FnScope N_is_step ["thing"] (defScope s_is_step) := ⟨rfl, rfl, rfl, by decide +kernel, rfl, by decide +kernel, by decide +kernel⟩
set_option maxHeartbeats 4000000 in
theorem d_is_step (T : Tp K mg C cls t0 t1 t2 t3 t4 f_is_name f_is_number f_is_size f_is_step f_begins_from f_brings f_names_behind f_forth f_back f_good_names f_B_init f_B_need_form f_B_need_record f_B_grow f_B_make f_B_line f_B_own f_B_readings f_B_reading f_B_all_readings f_B_changed f_B_change f_l_cell_at f_l_pool f_l_step f_l_hangs_behind f_l_books f_l_all f_l_number f_l_first f_l_numbers f_l_done f_l_stays f_law) (D_is_name : Dfn P w K mg base C cls 1 f_is_name ["thing"] p_is_name) (D_is_number : Dfn P w K mg base C cls 1 f_is_number ["thing"] p_is_number) (D_is_size : Dfn P w K mg base C cls 2 f_is_size ["thing"] p_is_size) : BodyK P w K mg base C cls 2 f_is_step N_is_step "is_step" s_is_step b_is_step := fun cdv A outer s H E G o hr hp =>
  (dss_cons (ds_if (dt_w (dw_or (dt_not (dt_val (de_isi (t := .tup) rfl T.z_isinstance rfl T.z_tuple rfl (de_var 0)))) (dw_or (dt_cmp od_lt rfl (de_callB cd_len rfl T.z_len rfl (da_cons (de_var 0) da_nil)) de_int) (dw_or (dt_not (dt_val (de_isi (t := .str) rfl T.z_isinstance rfl T.z_str rfl (de_ix od_ix (fun _ _ => rfl) (de_var 0) de_int)))) (dw_or1 (dt_not (dt_val (xe_call 1 o D_is_name hr (by decide) rfl T.g_is_name T.k_is_name rfl (da_cons (de_ix od_ix (fun _ _ => rfl) (de_var 0) de_int) da_nil))))))))) (dss_one (ds_ret o.xs de_bl)) dss_nil) (dss_cons (ds_set 1 sc_is_step.nd rfl (Or.inl rfl) o.fr (de_ix od_ix (fun _ _ => rfl) (de_var 0) de_int)) (dss_cons (ds_if (dt_w (dw_or (dt_cmp (od_eq hr.units) rfl (de_var 1) de_str) (dw_or1 (dt_cmp (od_eq hr.units) rfl (de_var 1) de_str)))) (dss_one (ds_ret o.xs (de_cmp (od_eq hr.units) rfl (de_callB cd_len rfl T.z_len rfl (da_cons (de_var 0) da_nil)) de_int))) dss_nil) (dss_cons (ds_if (dt_w (dw_or (dt_cmp (od_eq hr.units) rfl (de_var 1) de_str) (dw_or1 (dt_cmp (od_eq hr.units) rfl (de_var 1) de_str)))) (dss_one (ds_ret o.xs (de_and (de_cmp (od_eq hr.units) rfl (de_callB cd_len rfl T.z_len rfl (da_cons (de_var 0) da_nil)) de_int) (de_one (xe_call 1 o D_is_number hr (by decide) rfl T.g_is_number T.k_is_number rfl (da_cons (de_ix od_ix (fun _ _ => rfl) (de_var 0) de_int) da_nil)))))) dss_nil) (dss_cons (ds_if (dt_cmp (od_eq hr.units) rfl (de_var 1) de_str) (dss_one (ds_ret o.xs (de_and (de_cmp (od_eq hr.units) rfl (de_callB cd_len rfl T.z_len rfl (da_cons (de_var 0) da_nil)) de_int) (de_one (xe_call 1 o D_is_name hr (by decide) rfl T.g_is_name T.k_is_name rfl (da_cons (de_ix od_ix (fun _ _ => rfl) (de_var 0) de_int) da_nil)))))) dss_nil) (dss_cons (ds_if (dt_w (dw_or (dt_cmp (od_ne hr.units) rfl (de_callB cd_len rfl T.z_len rfl (da_cons (de_var 0) da_nil)) de_int) (dw_or (dt_not (dt_val (xe_call 1 o D_is_name hr (by decide) rfl T.g_is_name T.k_is_name rfl (da_cons (de_ix od_ix (fun _ _ => rfl) (de_var 0) de_int) da_nil)))) (dw_or (dt_not (dt_val (xe_call 1 o D_is_name hr (by decide) rfl T.g_is_name T.k_is_name rfl (da_cons (de_ix od_ix (fun _ _ => rfl) (de_var 0) de_int) da_nil)))) (dw_or1 (dt_not (dt_val (xe_call 2 o D_is_size hr (by decide) rfl T.g_is_size T.k_is_size rfl (da_cons (de_ix od_ix (fun _ _ => rfl) (de_var 0) de_int) da_nil))))))))) (dss_one (ds_ret o.xs de_bl)) dss_nil) (dss_cons (ds_if (dt_cmp (od_eq hr.units) rfl (de_var 1) de_str) (dss_one (ds_ret o.xs (de_cmp (od_ne hr.units) rfl (de_ix od_ix (fun _ _ => rfl) (de_var 0) de_int) (de_ix od_ix (fun _ _ => rfl) (de_var 0) de_int)))) dss_nil) (dss_one (ds_ret o.xs (de_and (de_cmp (od_eq hr.units) rfl (de_var 1) de_str) (de_one (de_cmp (od_ne hr.units) rfl (de_ix od_ix (fun _ _ => rfl) (de_var 0) de_int) (de_ix od_ix (fun _ _ => rfl) (de_var 0) de_int)))))))))))))
theorem sc_begins_from : FnScope N_begins_from ["step"] (defScope s_begins_from) := ⟨rfl, rfl, rfl, by decide +kernel, rfl, by decide +kernel, by decide +kernel⟩
set_option maxHeartbeats 4000000 in
theorem d_begins_from (T : Tp K mg C cls t0 t1 t2 t3 t4 f_is_name f_is_number f_is_size f_is_step f_begins_from f_brings f_names_behind f_forth f_back f_good_names f_B_init f_B_need_form f_B_need_record f_B_grow f_B_make f_B_line f_B_own f_B_readings f_B_reading f_B_all_readings f_B_changed f_B_change f_l_cell_at f_l_pool f_l_step f_l_hangs_behind f_l_books f_l_all f_l_number f_l_first f_l_numbers f_l_done f_l_stays f_law)  : BodyK P w K mg base C cls 0 f_begins_from N_begins_from "begins_from" s_begins_from b_begins_from := fun cdv A outer s H E G o hr hp =>
  (dss_cons (ds_if (dt_cmp (od_eq hr.units) rfl (de_ix od_ix (fun _ _ => rfl) (de_var 0) de_int) de_str) (dss_one (ds_ret o.xs (de_lst da_nil))) dss_nil) (dss_cons (ds_if (dt_cmp (od_eq hr.units) rfl (de_ix od_ix (fun _ _ => rfl) (de_var 0) de_int) de_str) (dss_one (ds_ret o.xs (de_lst (da_cons (de_ix od_ix (fun _ _ => rfl) (de_var 0) de_int) (da_cons (de_ix od_ix (fun _ _ => rfl) (de_var 0) de_int) da_nil))))) dss_nil) (dss_one (ds_ret o.xs (de_lst (da_cons (de_ix od_ix (fun _ _ => rfl) (de_var 0) de_int) da_nil))))))
theorem sc_brings : FnScope N_brings ["step"] (defScope s_brings) := ⟨rfl, rfl, rfl, by decide +kernel, rfl, by decide +kernel, by decide +kernel⟩
set_option maxHeartbeats 4000000 in
theorem d_brings (T : Tp K mg C cls t0 t1 t2 t3 t4 f_is_name f_is_number f_is_size f_is_step f_begins_from f_brings f_names_behind f_forth f_back f_good_names f_B_init f_B_need_form f_B_need_record f_B_grow f_B_make f_B_line f_B_own f_B_readings f_B_reading f_B_all_readings f_B_changed f_B_change f_l_cell_at f_l_pool f_l_step f_l_hangs_behind f_l_books f_l_all f_l_number f_l_first f_l_numbers f_l_done f_l_stays f_law)  : BodyK P w K mg base C cls 0 f_brings N_brings "brings" s_brings b_brings := fun cdv A outer s H E G o hr hp =>
  (dss_cons (ds_if (dt_cmp (od_eq hr.units) rfl (de_ix od_ix (fun _ _ => rfl) (de_var 0) de_int) de_str) (dss_one (ds_ret o.xs (de_lst da_nil))) dss_nil) (dss_cons (ds_if (dt_cmp (od_eq hr.units) rfl (de_ix od_ix (fun _ _ => rfl) (de_var 0) de_int) de_str) (dss_one (ds_ret o.xs (de_lst (da_cons (de_ix od_ix (fun _ _ => rfl) (de_var 0) de_int) da_nil)))) dss_nil) (dss_cons (ds_if (dt_cmp (od_eq hr.units) rfl (de_ix od_ix (fun _ _ => rfl) (de_var 0) de_int) de_str) (dss_one (ds_ret o.xs (de_lst (da_cons (de_ix od_ix (fun _ _ => rfl) (de_var 0) de_int) (da_cons (de_ix od_ix (fun _ _ => rfl) (de_var 0) de_int) da_nil))))) dss_nil) (dss_cons (ds_if (dt_cmp (od_eq hr.units) rfl (de_ix od_ix (fun _ _ => rfl) (de_var 0) de_int) de_str) (dss_one (ds_ret o.xs (de_lst (da_cons (de_ix od_ix (fun _ _ => rfl) (de_var 0) de_int) da_nil)))) dss_nil) (dss_one (ds_ret o.xs (de_lst (da_cons (de_ix od_ix (fun _ _ => rfl) (de_var 0) de_int) da_nil))))))))
theorem sc_names_behind : FnScope N_names_behind ["step", "names"] (defScope s_names_behind) := ⟨rfl, rfl, rfl, by decide +kernel, rfl, by decide +kernel, by decide +kernel⟩
set_option maxHeartbeats 4000000 in
theorem d_names_behind (T : Tp K mg C cls t0 t1 t2 t3 t4 f_is_name f_is_number f_is_size f_is_step f_begins_from f_brings f_names_behind f_forth f_back f_good_names f_B_init f_B_need_form f_B_need_record f_B_grow f_B_make f_B_line f_B_own f_B_readings f_B_reading f_B_all_readings f_B_changed f_B_change f_l_cell_at f_l_pool f_l_step f_l_hangs_behind f_l_books f_l_all f_l_number f_l_first f_l_numbers f_l_done f_l_stays f_law) (D_begins_from : Dfn P w K mg base C cls 1 f_begins_from ["step"] p_begins_from) (D_brings : Dfn P w K mg base C cls 1 f_brings ["step"] p_brings) : BodyK P w K mg base C cls 1 f_names_behind N_names_behind "names_behind" s_names_behind b_names_behind := fun cdv A outer s H E G o hr hp =>
  (dss_cons (ds_set 2 sc_names_behind.nd rfl (Or.inl rfl) o.fr (xe_call 1 o D_begins_from hr (by decide) rfl T.g_begins_from T.k_begins_from rfl (da_cons (de_var 0) da_nil))) (dss_cons (ds_set 3 sc_names_behind.nd rfl (Or.inl rfl) o.fr (xe_call 1 o D_brings hr (by decide) rfl T.g_brings T.k_brings rfl (da_cons (de_var 0) da_nil))) (dss_cons (ds_for 4 sc_names_behind.nd rfl (Or.inl rfl) o.fr hp rfl (di_list (de_var 2)) (dss_one (ds_if (dt_cmp od_nin rfl (de_var 4) (de_var 1)) (dss_one (ds_raise o rfl T.x_NoField rfl)) dss_nil))) (dss_cons (ds_for 4 sc_names_behind.nd rfl (Or.inl rfl) o.fr hp rfl (di_list (de_var 1)) (dss_one (ds_if (dt_w (dw_and (dt_cmp od_nin rfl (de_var 4) (de_var 2)) (dw_and1 (dt_cmp od_in rfl (de_var 4) (de_var 3))))) (dss_one (ds_raise o rfl T.x_Taken rfl)) dss_nil))) (dss_cons (ds_own 5 sc_names_behind.nd rfl (Or.inl rfl) o.fr (de_lst da_nil)) (dss_cons (ds_for 4 sc_names_behind.nd rfl (Or.inl rfl) o.fr hp rfl (di_list (de_var 1)) (dss_one (ds_if (dt_w (dw_and (dt_cmp (od_ne hr.units) rfl (de_var 2) (de_lst da_nil)) (dw_and1 (dt_cmp (od_eq hr.units) rfl (de_var 4) (de_ix od_ix (fun _ _ => rfl) (de_var 2) de_int))))) (dss_one (ds_own 5 sc_names_behind.nd rfl (Or.inl rfl) o.fr (de_bin od_add (de_var 5) (de_var 3)))) (dss_one (ds_if (dt_cmp od_nin rfl (de_var 4) (de_var 2)) (dss_one (ds_appL (de_var 5) (de_var 4))) dss_nil))))) (dss_cons (ds_if (dt_cmp (od_eq hr.units) rfl (de_var 2) (de_lst da_nil)) (dss_one (ds_own 5 sc_names_behind.nd rfl (Or.inl rfl) o.fr (de_bin od_add (de_var 5) (de_var 3)))) dss_nil) (dss_cons (ds_if (dt_w (dw_or (dt_cmp od_lt rfl (de_callB cd_len rfl T.z_len rfl (da_cons (de_var 5) da_nil)) de_int) (dw_or1 (dt_cmp od_gt rfl (de_callB cd_len rfl T.z_len rfl (da_cons (de_var 5) da_nil)) (de_gint rfl T.c_MOST_NAMES))))) (dss_one (ds_raise o rfl T.x_BadForm rfl)) dss_nil) (dss_one (ds_ret o.xs (de_var 5)))))))))))
theorem sc_forth : FnScope N_forth ["step", "reading", "own"] (defScope s_forth) := ⟨rfl, rfl, rfl, by decide +kernel, rfl, by decide +kernel, by decide +kernel⟩
set_option maxHeartbeats 4000000 in
theorem d_forth (T : Tp K mg C cls t0 t1 t2 t3 t4 f_is_name f_is_number f_is_size f_is_step f_begins_from f_brings f_names_behind f_forth f_back f_good_names f_B_init f_B_need_form f_B_need_record f_B_grow f_B_make f_B_line f_B_own f_B_readings f_B_reading f_B_all_readings f_B_changed f_B_change f_l_cell_at f_l_pool f_l_step f_l_hangs_behind f_l_books f_l_all f_l_number f_l_first f_l_numbers f_l_done f_l_stays f_law) (D_begins_from : Dfn P w K mg base C cls 1 f_begins_from ["step"] p_begins_from) : BodyK P w K mg base C cls 1 f_forth N_forth "forth" s_forth b_forth := fun cdv A outer s H E G o hr hp =>
  (dss_cons (ds_own 3 sc_forth.nd rfl (Or.inl rfl) o.fr (de_callTy (cd_dict rfl) rfl T.z_dict rfl (da_cons (de_var 1) da_nil))) (dss_cons (ds_for 4 sc_forth.nd rfl (Or.inl rfl) o.fr hp rfl (di_list (xe_call 1 o D_begins_from hr (by decide) rfl T.g_begins_from T.k_begins_from rfl (da_cons (de_var 0) da_nil))) (dss_one (ds_popD (de_var 3) (de_var 4) ⟨rfl, rfl, rfl, rfl⟩))) (dss_cons (ds_set 5 sc_forth.nd rfl (Or.inl rfl) o.fr (de_ix od_ix (fun _ _ => rfl) (de_var 0) de_int)) (dss_cons (ds_if (dt_cmp (od_eq hr.units) rfl (de_var 5) de_str) (dss_one (ds_putD (hu_of hr) (de_var 3) (de_ix od_ix (fun _ _ => rfl) (de_var 0) de_int) (de_var 2))) (dss_one (ds_if (dt_cmp (od_eq hr.units) rfl (de_var 5) de_str) (dss_one (ds_putD (hu_of hr) (de_var 3) (de_ix od_ix (fun _ _ => rfl) (de_var 0) de_int) (de_dget (hu_of hr) (de_var 1) (de_ix od_ix (fun _ _ => rfl) (de_var 0) de_int) fun _ _ => rfl))) (dss_one (ds_if (dt_cmp (od_eq hr.units) rfl (de_var 5) de_str) (dss_one (ds_putD (hu_of hr) (de_var 3) (de_ix od_ix (fun _ _ => rfl) (de_var 0) de_int) (de_bin od_add (de_dget (hu_of hr) (de_var 1) (de_ix od_ix (fun _ _ => rfl) (de_var 0) de_int) fun _ _ => rfl) (de_ix od_ix (fun _ _ => rfl) (de_var 0) de_int)))) (dss_one (ds_if (dt_cmp (od_eq hr.units) rfl (de_var 5) de_str) (dss_one (ds_putD (hu_of hr) (de_var 3) (de_ix od_ix (fun _ _ => rfl) (de_var 0) de_int) (de_bin od_sub de_int (de_dget (hu_of hr) (de_var 1) (de_ix od_ix (fun _ _ => rfl) (de_var 0) de_int) fun _ _ => rfl)))) (dss_one (ds_if (dt_cmp (od_eq hr.units) rfl (de_var 5) de_str) (dss_cons (ds_putD (hu_of hr) (de_var 3) (de_ix od_ix (fun _ _ => rfl) (de_var 0) de_int) (de_bin od_div (de_dget (hu_of hr) (de_var 1) (de_ix od_ix (fun _ _ => rfl) (de_var 0) de_int) fun _ _ => rfl) (de_ix od_ix (fun _ _ => rfl) (de_var 0) de_int))) (dss_one (ds_putD (hu_of hr) (de_var 3) (de_ix od_ix (fun _ _ => rfl) (de_var 0) de_int) (de_bin od_mod (de_dget (hu_of hr) (de_var 1) (de_ix od_ix (fun _ _ => rfl) (de_var 0) de_int) fun _ _ => rfl) (de_ix od_ix (fun _ _ => rfl) (de_var 0) de_int))))) (dss_one (ds_if (dt_cmp (od_eq hr.units) rfl (de_var 5) de_str) (dss_one (ds_putD (hu_of hr) (de_var 3) (de_ix od_ix (fun _ _ => rfl) (de_var 0) de_int) (de_bin od_add (de_bin od_mul (de_dget (hu_of hr) (de_var 1) (de_ix od_ix (fun _ _ => rfl) (de_var 0) de_int) fun _ _ => rfl) (de_ix od_ix (fun _ _ => rfl) (de_var 0) de_int)) (de_dget (hu_of hr) (de_var 1) (de_ix od_ix (fun _ _ => rfl) (de_var 0) de_int) fun _ _ => rfl)))) dss_nil))))))))))) (dss_one (ds_ret o.xs (de_var 3)))))))
theorem sc_back : FnScope N_back ["step", "reading", "elder"] (defScope s_back) := ⟨rfl, rfl, rfl, by decide +kernel, rfl, by decide +kernel, by decide +kernel⟩
set_option maxHeartbeats 4000000 in
theorem d_back (T : Tp K mg C cls t0 t1 t2 t3 t4 f_is_name f_is_number f_is_size f_is_step f_begins_from f_brings f_names_behind f_forth f_back f_good_names f_B_init f_B_need_form f_B_need_record f_B_grow f_B_make f_B_line f_B_own f_B_readings f_B_reading f_B_all_readings f_B_changed f_B_change f_l_cell_at f_l_pool f_l_step f_l_hangs_behind f_l_books f_l_all f_l_number f_l_first f_l_numbers f_l_done f_l_stays f_law) (D_brings : Dfn P w K mg base C cls 1 f_brings ["step"] p_brings) : BodyK P w K mg base C cls 1 f_back N_back "back" s_back b_back := fun cdv A outer s H E G o hr hp =>
  (dss_cons (ds_own 3 sc_back.nd rfl (Or.inl rfl) o.fr (de_callTy (cd_dict rfl) rfl T.z_dict rfl (da_cons (de_var 1) da_nil))) (dss_cons (ds_for 4 sc_back.nd rfl (Or.inl rfl) o.fr hp rfl (di_list (xe_call 1 o D_brings hr (by decide) rfl T.g_brings T.k_brings rfl (da_cons (de_var 0) da_nil))) (dss_one (ds_popD (de_var 3) (de_var 4) ⟨rfl, rfl, rfl, rfl⟩))) (dss_cons (ds_set 5 sc_back.nd rfl (Or.inl rfl) o.fr (de_ix od_ix (fun _ _ => rfl) (de_var 0) de_int)) (dss_cons (ds_if (dt_cmp (od_eq hr.units) rfl (de_var 5) de_str) (dss_one (ds_putD (hu_of hr) (de_var 3) (de_ix od_ix (fun _ _ => rfl) (de_var 0) de_int) (de_dget (hu_of hr) (de_var 2) (de_ix od_ix (fun _ _ => rfl) (de_var 0) de_int) fun _ _ => rfl))) (dss_one (ds_if (dt_cmp (od_eq hr.units) rfl (de_var 5) de_str) (dss_one (ds_putD (hu_of hr) (de_var 3) (de_ix od_ix (fun _ _ => rfl) (de_var 0) de_int) (de_dget (hu_of hr) (de_var 1) (de_ix od_ix (fun _ _ => rfl) (de_var 0) de_int) fun _ _ => rfl))) (dss_one (ds_if (dt_cmp (od_eq hr.units) rfl (de_var 5) de_str) (dss_one (ds_putD (hu_of hr) (de_var 3) (de_ix od_ix (fun _ _ => rfl) (de_var 0) de_int) (de_bin od_sub (de_dget (hu_of hr) (de_var 1) (de_ix od_ix (fun _ _ => rfl) (de_var 0) de_int) fun _ _ => rfl) (de_ix od_ix (fun _ _ => rfl) (de_var 0) de_int)))) (dss_one (ds_if (dt_cmp (od_eq hr.units) rfl (de_var 5) de_str) (dss_one (ds_putD (hu_of hr) (de_var 3) (de_ix od_ix (fun _ _ => rfl) (de_var 0) de_int) (de_bin od_sub de_int (de_dget (hu_of hr) (de_var 1) (de_ix od_ix (fun _ _ => rfl) (de_var 0) de_int) fun _ _ => rfl)))) (dss_one (ds_if (dt_cmp (od_eq hr.units) rfl (de_var 5) de_str) (dss_cons (ds_if (dt_w (dw_or (dt_cmp od_lt rfl (de_dget (hu_of hr) (de_var 1) (de_ix od_ix (fun _ _ => rfl) (de_var 0) de_int) fun _ _ => rfl) de_int) (dw_or1 (dt_cmp od_ge rfl (de_dget (hu_of hr) (de_var 1) (de_ix od_ix (fun _ _ => rfl) (de_var 0) de_int) fun _ _ => rfl) (de_ix od_ix (fun _ _ => rfl) (de_var 0) de_int))))) (dss_one (ds_raise o rfl T.x_BadNumber rfl)) dss_nil) (dss_one (ds_putD (hu_of hr) (de_var 3) (de_ix od_ix (fun _ _ => rfl) (de_var 0) de_int) (de_bin od_add (de_bin od_mul (de_dget (hu_of hr) (de_var 1) (de_ix od_ix (fun _ _ => rfl) (de_var 0) de_int) fun _ _ => rfl) (de_ix od_ix (fun _ _ => rfl) (de_var 0) de_int)) (de_dget (hu_of hr) (de_var 1) (de_ix od_ix (fun _ _ => rfl) (de_var 0) de_int) fun _ _ => rfl))))) (dss_one (ds_if (dt_cmp (od_eq hr.units) rfl (de_var 5) de_str) (dss_cons (ds_set 6 sc_back.nd rfl (Or.inl rfl) o.fr (de_bin od_div (de_dget (hu_of hr) (de_var 2) (de_ix od_ix (fun _ _ => rfl) (de_var 0) de_int) fun _ _ => rfl) (de_ix od_ix (fun _ _ => rfl) (de_var 0) de_int))) (dss_cons (ds_putD (hu_of hr) (de_var 3) (de_ix od_ix (fun _ _ => rfl) (de_var 0) de_int) (de_bin od_sub (de_bin od_div (de_dget (hu_of hr) (de_var 1) (de_ix od_ix (fun _ _ => rfl) (de_var 0) de_int) fun _ _ => rfl) (de_ix od_ix (fun _ _ => rfl) (de_var 0) de_int)) (de_var 6))) (dss_one (ds_putD (hu_of hr) (de_var 3) (de_ix od_ix (fun _ _ => rfl) (de_var 0) de_int) (de_bin od_add (de_bin od_mod (de_dget (hu_of hr) (de_var 1) (de_ix od_ix (fun _ _ => rfl) (de_var 0) de_int) fun _ _ => rfl) (de_ix od_ix (fun _ _ => rfl) (de_var 0) de_int)) (de_bin od_mul (de_var 6) (de_ix od_ix (fun _ _ => rfl) (de_var 0) de_int))))))) dss_nil))))))))))) (dss_one (ds_ret o.xs (de_var 3)))))))
theorem sc_good_names : FnScope N_good_names ["names"] (defScope s_good_names) := ⟨rfl, rfl, rfl, by decide +kernel, rfl, by decide +kernel, by decide +kernel⟩
set_option maxHeartbeats 4000000 in
theorem d_good_names (T : Tp K mg C cls t0 t1 t2 t3 t4 f_is_name f_is_number f_is_size f_is_step f_begins_from f_brings f_names_behind f_forth f_back f_good_names f_B_init f_B_need_form f_B_need_record f_B_grow f_B_make f_B_line f_B_own f_B_readings f_B_reading f_B_all_readings f_B_changed f_B_change f_l_cell_at f_l_pool f_l_step f_l_hangs_behind f_l_books f_l_all f_l_number f_l_first f_l_numbers f_l_done f_l_stays f_law) (D_is_name : Dfn P w K mg base C cls 1 f_is_name ["thing"] p_is_name) : BodyK P w K mg base C cls 1 f_good_names N_good_names "good_names" s_good_names b_good_names := fun cdv A outer s H E G o hr hp =>
  (dss_cons (ds_if (dt_w (dw_or (dt_cmp od_lt rfl (de_callB cd_len rfl T.z_len rfl (da_cons (de_var 0) da_nil)) de_int) (dw_or1 (dt_cmp od_gt rfl (de_callB cd_len rfl T.z_len rfl (da_cons (de_var 0) da_nil)) (de_gint rfl T.c_MOST_NAMES))))) (dss_one (ds_raise o rfl T.x_BadForm rfl)) dss_nil) (dss_cons (ds_for 1 sc_good_names.nd rfl (Or.inl rfl) o.fr hp rfl (di_list (de_var 0)) (dss_one (ds_if (dt_not (dt_val (xe_call 1 o D_is_name hr (by decide) rfl T.g_is_name T.k_is_name rfl (da_cons (de_var 1) da_nil)))) (dss_one (ds_raise o rfl T.x_BadName rfl)) dss_nil))) (dss_cons (ds_for 2 sc_good_names.nd rfl (Or.inl rfl) o.fr hp rfl (di_range1 rfl T.z_range (de_callB cd_len rfl T.z_len rfl (da_cons (de_var 0) da_nil))) (dss_one (ds_if (dt_cmp od_in rfl (de_ix od_ix (fun _ _ => rfl) (de_var 0) (de_var 2)) (de_slice sl_any (sl_go _) (de_var 0) do_none (do_some (de_var 2)))) (dss_one (ds_raise o rfl T.x_Taken rfl)) dss_nil))) (dss_one (ds_ret o.xs (de_callTy (cd_list rfl) rfl T.z_list rfl (da_cons (de_var 0) da_nil)))))))
theorem sc_B_init : FnScope N_B_init ["self", "names"] (defScope s_B_init) := ⟨rfl, rfl, rfl, by decide +kernel, rfl, by decide +kernel, by decide +kernel⟩
set_option maxHeartbeats 4000000 in
theorem d_B_init (T : Tp K mg C cls t0 t1 t2 t3 t4 f_is_name f_is_number f_is_size f_is_step f_begins_from f_brings f_names_behind f_forth f_back f_good_names f_B_init f_B_need_form f_B_need_record f_B_grow f_B_make f_B_line f_B_own f_B_readings f_B_reading f_B_all_readings f_B_changed f_B_change f_l_cell_at f_l_pool f_l_step f_l_hangs_behind f_l_books f_l_all f_l_number f_l_first f_l_numbers f_l_done f_l_stays f_law) (D_good_names : Dfn P w K mg base C cls 2 f_good_names ["names"] p_good_names) : BodyK P w K mg base C cls 2 f_B_init N_B_init "Book.__init__" s_B_init b_B_init := fun cdv A outer s H E G o hr hp =>
  (dss_cons (xs_fldN o T.cl T.n_lists (de_var 0) (de_lst (da_cons (xe_call 2 o D_good_names hr (by decide) rfl T.g_good_names T.k_good_names rfl (da_cons (de_var 1) da_nil)) da_nil))) (dss_cons (xs_fldN o T.cl T.n_elders (de_var 0) (de_lst (da_cons de_non da_nil))) (dss_cons (xs_fldN o T.cl T.n_ways (de_var 0) (de_lst (da_cons de_non da_nil))) (dss_cons (xs_fldN o T.cl T.n_kept (de_var 0) (de_lst da_nil)) (dss_one (xs_fldN o T.cl T.n_owns (de_var 0) (de_lst da_nil)))))))
theorem sc_B_need_form : FnScope N_B_need_form ["self", "form"] (defScope s_B_need_form) := ⟨rfl, rfl, rfl, by decide +kernel, rfl, by decide +kernel, by decide +kernel⟩
set_option maxHeartbeats 4000000 in
theorem d_B_need_form (T : Tp K mg C cls t0 t1 t2 t3 t4 f_is_name f_is_number f_is_size f_is_step f_begins_from f_brings f_names_behind f_forth f_back f_good_names f_B_init f_B_need_form f_B_need_record f_B_grow f_B_make f_B_line f_B_own f_B_readings f_B_reading f_B_all_readings f_B_changed f_B_change f_l_cell_at f_l_pool f_l_step f_l_hangs_behind f_l_books f_l_all f_l_number f_l_first f_l_numbers f_l_done f_l_stays f_law) (D_is_number : Dfn P w K mg base C cls 1 f_is_number ["thing"] p_is_number) : BodyK P w K mg base C cls 1 f_B_need_form N_B_need_form "Book.need_form" s_B_need_form b_B_need_form := fun cdv A outer s H E G o hr hp =>
  (dss_one (ds_if (dt_w (dw_or (dt_not (dt_val (xe_call 1 o D_is_number hr (by decide) rfl T.g_is_number T.k_is_number rfl (da_cons (de_var 1) da_nil)))) (dw_or (dt_cmp od_lt rfl (de_var 1) de_int) (dw_or1 (dt_cmp od_ge rfl (de_var 1) (de_callB cd_len rfl T.z_len rfl (da_cons (xe_fld o T.cl T.n_lists (de_var 0)) da_nil))))))) (dss_one (ds_raise o rfl T.x_NoForm rfl)) dss_nil))
theorem sc_B_need_record : FnScope N_B_need_record ["self", "record"] (defScope s_B_need_record) := ⟨rfl, rfl, rfl, by decide +kernel, rfl, by decide +kernel, by decide +kernel⟩
set_option maxHeartbeats 4000000 in
theorem d_B_need_record (T : Tp K mg C cls t0 t1 t2 t3 t4 f_is_name f_is_number f_is_size f_is_step f_begins_from f_brings f_names_behind f_forth f_back f_good_names f_B_init f_B_need_form f_B_need_record f_B_grow f_B_make f_B_line f_B_own f_B_readings f_B_reading f_B_all_readings f_B_changed f_B_change f_l_cell_at f_l_pool f_l_step f_l_hangs_behind f_l_books f_l_all f_l_number f_l_first f_l_numbers f_l_done f_l_stays f_law) (D_is_number : Dfn P w K mg base C cls 1 f_is_number ["thing"] p_is_number) : BodyK P w K mg base C cls 1 f_B_need_record N_B_need_record "Book.need_record" s_B_need_record b_B_need_record := fun cdv A outer s H E G o hr hp =>
  (dss_one (ds_if (dt_w (dw_or (dt_not (dt_val (xe_call 1 o D_is_number hr (by decide) rfl T.g_is_number T.k_is_number rfl (da_cons (de_var 1) da_nil)))) (dw_or (dt_cmp od_lt rfl (de_var 1) de_int) (dw_or1 (dt_cmp od_ge rfl (de_var 1) (de_callB cd_len rfl T.z_len rfl (da_cons (xe_fld o T.cl T.n_kept (de_var 0)) da_nil))))))) (dss_one (ds_raise o rfl T.x_NoRecord rfl)) dss_nil))
theorem sc_B_grow : FnScope N_B_grow ["self", "form", "step"] (defScope s_B_grow) := ⟨rfl, rfl, rfl, by decide +kernel, rfl, by decide +kernel, by decide +kernel⟩
set_option maxHeartbeats 4000000 in
theorem d_B_grow (T : Tp K mg C cls t0 t1 t2 t3 t4 f_is_name f_is_number f_is_size f_is_step f_begins_from f_brings f_names_behind f_forth f_back f_good_names f_B_init f_B_need_form f_B_need_record f_B_grow f_B_make f_B_line f_B_own f_B_readings f_B_reading f_B_all_readings f_B_changed f_B_change f_l_cell_at f_l_pool f_l_step f_l_hangs_behind f_l_books f_l_all f_l_number f_l_first f_l_numbers f_l_done f_l_stays f_law) (D_B_need_form : Dfn P w K mg base C cls 2 f_B_need_form ["self", "form"] p_B_need_form) (D_is_step : Dfn P w K mg base C cls 3 f_is_step ["thing"] p_is_step) (D_names_behind : Dfn P w K mg base C cls 2 f_names_behind ["step", "names"] p_names_behind) : BodyK P w K mg base C cls 3 f_B_grow N_B_grow "Book.grow" s_B_grow b_B_grow := fun cdv A outer s H E G o hr hp =>
  (dss_cons (ds_exp (xe_meth 2 o T.cl T.m_need_form D_B_need_form hr (by decide) (de_var 0) (da_cons (de_var 1) da_nil))) (dss_cons (ds_if (dt_not (dt_val (xe_call 3 o D_is_step hr (by decide) rfl T.g_is_step T.k_is_step rfl (da_cons (de_var 2) da_nil)))) (dss_one (ds_raise o rfl T.x_BadStep rfl)) dss_nil) (dss_cons (ds_set 3 sc_B_grow.nd rfl (Or.inl rfl) o.fr (xe_call 2 o D_names_behind hr (by decide) rfl T.g_names_behind T.k_names_behind rfl (da_cons (de_var 2) (da_cons (de_ix od_ix (fun _ _ => rfl) (xe_fld o T.cl T.n_lists (de_var 0)) (de_var 1)) da_nil)))) (dss_cons (ds_if (dt_cmp od_ge rfl (de_callB cd_len rfl T.z_len rfl (da_cons (xe_fld o T.cl T.n_lists (de_var 0)) da_nil)) (de_gint rfl T.c_MOST_FORMS)) (dss_one (ds_raise o rfl T.x_TooMany rfl)) dss_nil) (dss_cons (ds_appL (xe_fld o T.cl T.n_lists (de_var 0)) (de_var 3)) (dss_cons (ds_appL (xe_fld o T.cl T.n_elders (de_var 0)) (de_var 1)) (dss_cons (ds_appL (xe_fld o T.cl T.n_ways (de_var 0)) (de_var 2)) (dss_one (ds_ret o.xs (de_bin od_sub (de_callB cd_len rfl T.z_len rfl (da_cons (xe_fld o T.cl T.n_lists (de_var 0)) da_nil)) de_int))))))))))
theorem sc_B_make : FnScope N_B_make ["self"] (defScope s_B_make) := ⟨rfl, rfl, rfl, by decide +kernel, rfl, by decide +kernel, by decide +kernel⟩
set_option maxHeartbeats 4000000 in
theorem d_B_make (T : Tp K mg C cls t0 t1 t2 t3 t4 f_is_name f_is_number f_is_size f_is_step f_begins_from f_brings f_names_behind f_forth f_back f_good_names f_B_init f_B_need_form f_B_need_record f_B_grow f_B_make f_B_line f_B_own f_B_readings f_B_reading f_B_all_readings f_B_changed f_B_change f_l_cell_at f_l_pool f_l_step f_l_hangs_behind f_l_books f_l_all f_l_number f_l_first f_l_numbers f_l_done f_l_stays f_law)  : BodyK P w K mg base C cls 0 f_B_make N_B_make "Book.make" s_B_make b_B_make := fun cdv A outer s H E G o hr hp =>
  (dss_cons (ds_own 1 sc_B_make.nd rfl (Or.inl rfl) o.fr de_dnew) (dss_cons (ds_for 2 sc_B_make.nd rfl (Or.inl rfl) o.fr hp rfl (di_list (de_ix od_ix (fun _ _ => rfl) (xe_fld o T.cl T.n_lists (de_var 0)) de_int)) (dss_one (ds_putD (hu_of hr) (de_var 1) (de_var 2) de_int))) (dss_frz 1 o.fr (dss_cons (ds_appL (xe_fld o T.cl T.n_kept (de_var 0)) (de_var 1)) (dss_cons (ds_appL (xe_fld o T.cl T.n_owns (de_var 0)) de_dnew) (dss_one (ds_ret o.xs (de_bin od_sub (de_callB cd_len rfl T.z_len rfl (da_cons (xe_fld o T.cl T.n_kept (de_var 0)) da_nil)) de_int))))))))
theorem sc_B_line : FnScope N_B_line ["self", "form"] (defScope s_B_line) := ⟨rfl, rfl, rfl, by decide +kernel, rfl, by decide +kernel, by decide +kernel⟩
set_option maxHeartbeats 4000000 in
theorem d_B_line (T : Tp K mg C cls t0 t1 t2 t3 t4 f_is_name f_is_number f_is_size f_is_step f_begins_from f_brings f_names_behind f_forth f_back f_good_names f_B_init f_B_need_form f_B_need_record f_B_grow f_B_make f_B_line f_B_own f_B_readings f_B_reading f_B_all_readings f_B_changed f_B_change f_l_cell_at f_l_pool f_l_step f_l_hangs_behind f_l_books f_l_all f_l_number f_l_first f_l_numbers f_l_done f_l_stays f_law)  : BodyK P w K mg base C cls 0 f_B_line N_B_line "Book.line" s_B_line b_B_line := fun cdv A outer s H E G o hr hp =>
  (dss_cons (ds_own 2 sc_B_line.nd rfl (Or.inr rfl) o.fr (de_lst (da_cons (de_var 1) da_nil))) (dss_cons (ds_while 100 hp (dt_notN (de_ix od_ix (fun _ _ => rfl) (xe_fld o T.cl T.n_elders (de_var 0)) (de_ix od_ix (fun _ _ => rfl) (de_var 2) (de_un od_neg de_int)))) (dss_one (ds_appL (de_var 2) (de_ix od_ix (fun _ _ => rfl) (xe_fld o T.cl T.n_elders (de_var 0)) (de_ix od_ix (fun _ _ => rfl) (de_var 2) (de_un od_neg de_int)))))) (dss_frz 2 o.fr (dss_one (ds_ret o.xs (de_lc (x := "place") 3 o rfl sc_B_line.nd (di_range1 rfl T.z_range (de_callB cd_len rfl T.z_len rfl (da_cons (de_var 2) da_nil))) (blkOk_by (own := [("place", 3)]) (N := N_B_line) (sc := defScope s_B_line) (by decide +kernel)) (fun _ _ _ _ _ => pg_name (i := 3) sc_B_line.nd rfl (Or.inl rfl)) (fun _ _ _ _ _ => dts_nil) (fun _ _ _ _ _ G o => (de_ix od_ix (fun _ _ => rfl) (de_var 2) (de_bin od_sub (de_bin od_sub (de_callB cd_len rfl T.z_len rfl (da_cons (de_var 2) da_nil)) de_int) (de_var 3))))))))))
theorem sc_B_own : FnScope N_B_own ["self", "record", "form"] (defScope s_B_own) := ⟨rfl, rfl, rfl, by decide +kernel, rfl, by decide +kernel, by decide +kernel⟩
set_option maxHeartbeats 4000000 in
theorem d_B_own (T : Tp K mg C cls t0 t1 t2 t3 t4 f_is_name f_is_number f_is_size f_is_step f_begins_from f_brings f_names_behind f_forth f_back f_good_names f_B_init f_B_need_form f_B_need_record f_B_grow f_B_make f_B_line f_B_own f_B_readings f_B_reading f_B_all_readings f_B_changed f_B_change f_l_cell_at f_l_pool f_l_step f_l_hangs_behind f_l_books f_l_all f_l_number f_l_first f_l_numbers f_l_done f_l_stays f_law)  : BodyK P w K mg base C cls 0 f_B_own N_B_own "Book.own" s_B_own b_B_own := fun cdv A outer s H E G o hr hp =>
  (dss_cons (ds_if (dt_cmp (od_ne hr.units) rfl (de_ix od_ix (fun _ _ => rfl) (de_ix od_ix (fun _ _ => rfl) (xe_fld o T.cl T.n_ways (de_var 0)) (de_var 2)) de_int) de_str) (dss_one (ds_ret o.xs de_non)) dss_nil) (dss_one (ds_ret o.xs (de_dget2 (hu_of hr) (de_ix od_ix (fun _ _ => rfl) (xe_fld o T.cl T.n_owns (de_var 0)) (de_var 1)) (de_var 2) (de_ix od_ix (fun _ _ => rfl) (de_ix od_ix (fun _ _ => rfl) (xe_fld o T.cl T.n_ways (de_var 0)) (de_var 2)) de_int) ⟨rfl, rfl, rfl, rfl⟩))))
theorem sc_B_readings : FnScope N_B_readings ["self", "record", "form"] (defScope s_B_readings) := ⟨rfl, rfl, rfl, by decide +kernel, rfl, by decide +kernel, by decide +kernel⟩
set_option maxHeartbeats 4000000 in
theorem d_B_readings (T : Tp K mg C cls t0 t1 t2 t3 t4 f_is_name f_is_number f_is_size f_is_step f_begins_from f_brings f_names_behind f_forth f_back f_good_names f_B_init f_B_need_form f_B_need_record f_B_grow f_B_make f_B_line f_B_own f_B_readings f_B_reading f_B_all_readings f_B_changed f_B_change f_l_cell_at f_l_pool f_l_step f_l_hangs_behind f_l_books f_l_all f_l_number f_l_first f_l_numbers f_l_done f_l_stays f_law) (D_B_line : Dfn P w K mg base C cls 1 f_B_line ["self", "form"] p_B_line) (D_B_own : Dfn P w K mg base C cls 1 f_B_own ["self", "record", "form"] p_B_own) (D_forth : Dfn P w K mg base C cls 2 f_forth ["step", "reading", "own"] p_forth) : BodyK P w K mg base C cls 2 f_B_readings N_B_readings "Book.readings" s_B_readings b_B_readings := fun cdv A outer s H E G o hr hp =>
  (dss_cons (ds_own 3 sc_B_readings.nd rfl (Or.inl rfl) o.fr (de_lstC (de_callTy (cd_dict rfl) rfl T.z_dict rfl (da_cons (de_ix od_ix (fun _ _ => rfl) (xe_fld o T.cl T.n_kept (de_var 0)) (de_var 1)) da_nil)))) (dss_cons (ds_for 4 sc_B_readings.nd rfl (Or.inl rfl) o.fr hp rfl (di_list (de_slice sl_any (sl_go _) (xe_meth 1 o T.cl T.m_line D_B_line hr (by decide) (de_var 0) (da_cons (de_var 2) da_nil)) (do_some de_int) do_none)) (dss_one (ds_appC (de_var 3) (xe_call 2 o D_forth hr (by decide) rfl T.g_forth T.k_forth rfl (da_cons (de_ix od_ix (fun _ _ => rfl) (xe_fld o T.cl T.n_ways (de_var 0)) (de_var 4)) (da_cons (de_ixC (fun _ _ => rfl) (de_var 3) (de_un od_neg de_int)) (da_cons (xe_meth 1 o T.cl T.m_own D_B_own hr (by decide) (de_var 0) (da_cons (de_var 1) (da_cons (de_var 4) da_nil))) da_nil))))))) (dss_one (ds_ret o.xs (de_var 3)))))
theorem sc_B_reading : FnScope N_B_reading ["self", "record", "form"] (defScope s_B_reading) := ⟨rfl, rfl, rfl, by decide +kernel, rfl, by decide +kernel, by decide +kernel⟩
set_option maxHeartbeats 4000000 in
theorem d_B_reading (T : Tp K mg C cls t0 t1 t2 t3 t4 f_is_name f_is_number f_is_size f_is_step f_begins_from f_brings f_names_behind f_forth f_back f_good_names f_B_init f_B_need_form f_B_need_record f_B_grow f_B_make f_B_line f_B_own f_B_readings f_B_reading f_B_all_readings f_B_changed f_B_change f_l_cell_at f_l_pool f_l_step f_l_hangs_behind f_l_books f_l_all f_l_number f_l_first f_l_numbers f_l_done f_l_stays f_law) (D_B_need_form : Dfn P w K mg base C cls 2 f_B_need_form ["self", "form"] p_B_need_form) (D_B_need_record : Dfn P w K mg base C cls 2 f_B_need_record ["self", "record"] p_B_need_record) (D_B_readings : Dfn P w K mg base C cls 3 f_B_readings ["self", "record", "form"] p_B_readings) : BodyK P w K mg base C cls 3 f_B_reading N_B_reading "Book.reading" s_B_reading b_B_reading := fun cdv A outer s H E G o hr hp =>
  (dss_cons (ds_exp (xe_meth 2 o T.cl T.m_need_record D_B_need_record hr (by decide) (de_var 0) (da_cons (de_var 1) da_nil))) (dss_cons (ds_exp (xe_meth 2 o T.cl T.m_need_form D_B_need_form hr (by decide) (de_var 0) (da_cons (de_var 2) da_nil))) (dss_one (ds_ret o.xs (de_ixC (fun _ _ => rfl) (xe_meth 3 o T.cl T.m_readings D_B_readings hr (by decide) (de_var 0) (da_cons (de_var 1) (da_cons (de_var 2) da_nil))) (de_un od_neg de_int))))))
theorem sc_B_all_readings : FnScope N_B_all_readings ["self", "record"] (defScope s_B_all_readings) := ⟨rfl, rfl, rfl, by decide +kernel, rfl, by decide +kernel, by decide +kernel⟩
set_option maxHeartbeats 4000000 in
theorem d_B_all_readings (T : Tp K mg C cls t0 t1 t2 t3 t4 f_is_name f_is_number f_is_size f_is_step f_begins_from f_brings f_names_behind f_forth f_back f_good_names f_B_init f_B_need_form f_B_need_record f_B_grow f_B_make f_B_line f_B_own f_B_readings f_B_reading f_B_all_readings f_B_changed f_B_change f_l_cell_at f_l_pool f_l_step f_l_hangs_behind f_l_books f_l_all f_l_number f_l_first f_l_numbers f_l_done f_l_stays f_law) (D_B_own : Dfn P w K mg base C cls 1 f_B_own ["self", "record", "form"] p_B_own) (D_forth : Dfn P w K mg base C cls 2 f_forth ["step", "reading", "own"] p_forth) : BodyK P w K mg base C cls 2 f_B_all_readings N_B_all_readings "Book.all_readings" s_B_all_readings b_B_all_readings := fun cdv A outer s H E G o hr hp =>
  (dss_cons (ds_own 2 sc_B_all_readings.nd rfl (Or.inl rfl) o.fr (de_lst (da_cons (de_callTy (cd_dict rfl) rfl T.z_dict rfl (da_cons (de_ix od_ix (fun _ _ => rfl) (xe_fld o T.cl T.n_kept (de_var 0)) (de_var 1)) da_nil)) da_nil))) (dss_cons (ds_for 3 sc_B_all_readings.nd rfl (Or.inl rfl) o.fr hp rfl (di_range2 rfl T.z_range de_int (de_callB cd_len rfl T.z_len rfl (da_cons (xe_fld o T.cl T.n_lists (de_var 0)) da_nil))) (dss_one (ds_appL (de_var 2) (xe_call 2 o D_forth hr (by decide) rfl T.g_forth T.k_forth rfl (da_cons (de_ix od_ix (fun _ _ => rfl) (xe_fld o T.cl T.n_ways (de_var 0)) (de_var 3)) (da_cons (de_ix od_ix (fun _ _ => rfl) (de_var 2) (de_ix od_ix (fun _ _ => rfl) (xe_fld o T.cl T.n_elders (de_var 0)) (de_var 3))) (da_cons (xe_meth 1 o T.cl T.m_own D_B_own hr (by decide) (de_var 0) (da_cons (de_var 1) (da_cons (de_var 3) da_nil))) da_nil))))))) (dss_one (ds_ret o.xs (de_var 2)))))
theorem sc_B_changed : FnScope N_B_changed ["self", "record", "form", "numbers"] (defScope s_B_changed) := ⟨rfl, rfl, rfl, by decide +kernel, rfl, by decide +kernel, by decide +kernel⟩
set_option maxHeartbeats 4000000 in
theorem d_B_changed (T : Tp K mg C cls t0 t1 t2 t3 t4 f_is_name f_is_number f_is_size f_is_step f_begins_from f_brings f_names_behind f_forth f_back f_good_names f_B_init f_B_need_form f_B_need_record f_B_grow f_B_make f_B_line f_B_own f_B_readings f_B_reading f_B_all_readings f_B_changed f_B_change f_l_cell_at f_l_pool f_l_step f_l_hangs_behind f_l_books f_l_all f_l_number f_l_first f_l_numbers f_l_done f_l_stays f_law) (D_B_reading : Dfn P w K mg base C cls 4 f_B_reading ["self", "record", "form"] p_B_reading) (D_is_number : Dfn P w K mg base C cls 1 f_is_number ["thing"] p_is_number) : BodyK P w K mg base C cls 4 f_B_changed N_B_changed "Book.changed" s_B_changed b_B_changed := fun cdv A outer s H E G o hr hp =>
  (dss_cons (ds_own 4 sc_B_changed.nd rfl (Or.inl rfl) o.fr (xe_meth 4 o T.cl T.m_reading D_B_reading hr (by decide) (de_var 0) (da_cons (de_var 1) (da_cons (de_var 2) da_nil)))) (dss_cons (ds_forD 5 o sc_B_changed.nd rfl (Or.inl rfl) hp rfl (de_var 3) (fun G o => (dss_one (ds_if (dt_dnin (hu_of hr) (de_var 5) (de_var 4)) (dss_one (ds_raise o rfl T.x_NoField rfl)) dss_nil)))) (dss_cons (ds_forD 5 o sc_B_changed.nd rfl (Or.inl rfl) hp rfl (de_var 3) (fun G o => (dss_cons (ds_if (dt_not (dt_val (xe_call 1 o D_is_number hr (by decide) rfl T.g_is_number T.k_is_number rfl (da_cons (de_dget (hu_of hr) (de_var 3) (de_var 5) fun _ _ => rfl) da_nil)))) (dss_one (ds_raise o rfl T.x_BadNumber rfl)) dss_nil) (dss_one (ds_putD (hu_of hr) (de_var 4) (de_var 5) (de_dget (hu_of hr) (de_var 3) (de_var 5) fun _ _ => rfl)))))) (dss_one (ds_ret o.xs (de_var 4))))))
theorem sc_B_change : FnScope N_B_change ["self", "record", "form", "numbers"] (defScope s_B_change) := ⟨rfl, rfl, rfl, by decide +kernel, rfl, by decide +kernel, by decide +kernel⟩
set_option maxHeartbeats 4000000 in
theorem d_B_change (T : Tp K mg C cls t0 t1 t2 t3 t4 f_is_name f_is_number f_is_size f_is_step f_begins_from f_brings f_names_behind f_forth f_back f_good_names f_B_init f_B_need_form f_B_need_record f_B_grow f_B_make f_B_line f_B_own f_B_readings f_B_reading f_B_all_readings f_B_changed f_B_change f_l_cell_at f_l_pool f_l_step f_l_hangs_behind f_l_books f_l_all f_l_number f_l_first f_l_numbers f_l_done f_l_stays f_law) (D_B_all_readings : Dfn P w K mg base C cls 3 f_B_all_readings ["self", "record"] p_B_all_readings) (D_B_changed : Dfn P w K mg base C cls 5 f_B_changed ["self", "record", "form", "numbers"] p_B_changed) (D_B_line : Dfn P w K mg base C cls 1 f_B_line ["self", "form"] p_B_line) (D_B_readings : Dfn P w K mg base C cls 3 f_B_readings ["self", "record", "form"] p_B_readings) (D_back : Dfn P w K mg base C cls 2 f_back ["step", "reading", "elder"] p_back) : BodyK P w K mg base C cls 5 f_B_change N_B_change "Book.change" s_B_change b_B_change := fun cdv A outer s H E G o hr hp =>
  (dss_cons (ds_set 4 sc_B_change.nd rfl (Or.inl rfl) o.fr (xe_meth 5 o T.cl T.m_changed D_B_changed hr (by decide) (de_var 0) (da_cons (de_var 1) (da_cons (de_var 2) (da_cons (de_var 3) da_nil))))) (dss_cons (ds_set 5 sc_B_change.nd rfl (Or.inl rfl) o.fr (xe_meth 1 o T.cl T.m_line D_B_line hr (by decide) (de_var 0) (da_cons (de_var 2) da_nil))) (dss_cons (ds_own 6 sc_B_change.nd rfl (Or.inl rfl) o.fr (xe_meth 3 o T.cl T.m_readings D_B_readings hr (by decide) (de_var 0) (da_cons (de_var 1) (da_cons (de_var 2) da_nil)))) (dss_cons (ds_own 7 sc_B_change.nd rfl (Or.inl rfl) o.fr (de_callTy (cd_dict rfl) rfl T.z_dict rfl (da_cons (de_ix od_ix (fun _ _ => rfl) (xe_fld o T.cl T.n_owns (de_var 0)) (de_var 1)) da_nil))) (dss_cons (ds_for 8 sc_B_change.nd rfl (Or.inl rfl) o.fr hp rfl (di_range3 rfl T.z_range (de_bin od_sub (de_callB cd_len rfl T.z_len rfl (da_cons (de_var 5) da_nil)) de_int) de_int (de_un od_neg de_int)) (dss_cons (ds_set 11 sc_B_change.nd rfl (Or.inl rfl) o.fr (de_ix od_ix (fun _ _ => rfl) (xe_fld o T.cl T.n_ways (de_var 0)) (de_ix od_ix (fun _ _ => rfl) (de_var 5) (de_var 8)))) (dss_cons (ds_if (dt_cmp (od_eq hr.units) rfl (de_ix od_ix (fun _ _ => rfl) (de_var 11) de_int) de_str) (dss_one (ds_putD (hu_of hr) (de_var 7) (de_ix od_ix (fun _ _ => rfl) (de_var 5) (de_var 8)) (de_dget (hu_of hr) (de_var 4) (de_ix od_ix (fun _ _ => rfl) (de_var 11) de_int) fun _ _ => rfl))) dss_nil) (dss_one (ds_set 4 sc_B_change.nd rfl (Or.inl rfl) o.fr (xe_call 2 o D_back hr (by decide) rfl T.g_back T.k_back rfl (da_cons (de_var 11) (da_cons (de_var 4) (da_cons (de_ixC (fun _ _ => rfl) (de_var 6) (de_bin od_sub (de_var 8) de_int)) da_nil))))))))) (dss_frz 7 o.fr (dss_cons (ds_set 9 sc_B_change.nd rfl (Or.inr rfl) o.fr (xe_meth 3 o T.cl T.m_all_readings D_B_all_readings hr (by decide) (de_var 0) (da_cons (de_var 1) da_nil))) (dss_cons (ds_putL (xe_fld o T.cl T.n_kept (de_var 0)) (de_var 1) (de_var 4)) (dss_cons (ds_putL (xe_fld o T.cl T.n_owns (de_var 0)) (de_var 1) (de_var 7)) (dss_cons (ds_set 10 sc_B_change.nd rfl (Or.inr rfl) o.fr (xe_meth 3 o T.cl T.m_all_readings D_B_all_readings hr (by decide) (de_var 0) (da_cons (de_var 1) da_nil))) (dss_one (ds_ret o.xs (de_lc (x := "place") 8 o rfl sc_B_change.nd (di_range1 rfl T.z_range (de_callB cd_len rfl T.z_len rfl (da_cons (de_var 10) da_nil))) (blkOk_by (own := [("place", 8)]) (N := N_B_change) (sc := defScope s_B_change) (by decide +kernel)) (fun _ _ _ _ _ => pg_name (i := 8) sc_B_change.nd rfl (Or.inl rfl)) (fun _ _ _ _ _ => dts_one fun G o => (dt_cmp (od_ne hr.units) rfl (de_ix od_ix (fun _ _ => rfl) (de_var 10) (de_var 8)) (de_ix od_ix (fun _ _ => rfl) (de_var 9) (de_var 8)))) (fun _ _ _ _ _ G o => (de_var 8)))))))))))))))
theorem sc_l_cell_at : FnScope N_l_cell_at ["_law_script", "_law_k"] (defScope s_l_cell_at) := ⟨rfl, rfl, rfl, by decide +kernel, rfl, by decide +kernel, by decide +kernel⟩
set_option maxHeartbeats 4000000 in
theorem d_l_cell_at (T : Tp K mg C cls t0 t1 t2 t3 t4 f_is_name f_is_number f_is_size f_is_step f_begins_from f_brings f_names_behind f_forth f_back f_good_names f_B_init f_B_need_form f_B_need_record f_B_grow f_B_make f_B_line f_B_own f_B_readings f_B_reading f_B_all_readings f_B_changed f_B_change f_l_cell_at f_l_pool f_l_step f_l_hangs_behind f_l_books f_l_all f_l_number f_l_first f_l_numbers f_l_done f_l_stays f_law)  : BodyK P w K mg base C cls 0 f_l_cell_at N_l_cell_at "_law_cell_at" s_l_cell_at b_l_cell_at := fun cdv A outer s H E G o hr hp =>
  (dss_cons (ds_if (dt_cmp od_lt rfl (de_var 1) (de_callB cd_len rfl T.z_len rfl (da_cons (de_var 0) da_nil))) (dss_one (ds_ret o.xs (de_ix od_ix (fun _ _ => rfl) (de_var 0) (de_var 1)))) dss_nil) (dss_one (ds_ret o.xs de_int)))
theorem sc_l_pool : FnScope N_l_pool ["_law_cell"] (defScope s_l_pool) := ⟨rfl, rfl, rfl, by decide +kernel, rfl, by decide +kernel, by decide +kernel⟩
set_option maxHeartbeats 4000000 in
theorem d_l_pool (T : Tp K mg C cls t0 t1 t2 t3 t4 f_is_name f_is_number f_is_size f_is_step f_begins_from f_brings f_names_behind f_forth f_back f_good_names f_B_init f_B_need_form f_B_need_record f_B_grow f_B_make f_B_line f_B_own f_B_readings f_B_reading f_B_all_readings f_B_changed f_B_change f_l_cell_at f_l_pool f_l_step f_l_hangs_behind f_l_books f_l_all f_l_number f_l_first f_l_numbers f_l_done f_l_stays f_law)  : BodyK P w K mg base C cls 0 f_l_pool N_l_pool "_law_pool" s_l_pool b_l_pool := fun cdv A outer s H E G o hr hp =>
  (dss_cons (ds_set 1 sc_l_pool.nd rfl (Or.inr rfl) o.fr de_str) (dss_cons (ds_own 2 sc_l_pool.nd rfl (Or.inl rfl) o.fr (de_lst da_nil)) (dss_cons (ds_for 3 sc_l_pool.nd rfl (Or.inl rfl) o.fr hp rfl (di_range1 rfl T.z_range de_int) (dss_cons (ds_set 4 sc_l_pool.nd rfl (Or.inl rfl) o.fr (de_ix od_ix (fun _ _ => rfl) (de_var 1) (de_bin od_mod (de_bin od_div (de_var 0) de_int) de_int))) (dss_cons (ds_set 5 sc_l_pool.nd rfl (Or.inl rfl) o.fr (de_bin od_mod (de_bin od_div (de_var 0) de_int) de_int)) (dss_cons (ds_set 6 sc_l_pool.nd rfl (Or.inl rfl) o.fr (de_bin od_add (de_bin od_mul (de_var 4) (de_var 5)) (de_ix od_ix (fun _ _ => rfl) (de_var 1) (de_bin od_mod (de_bin od_add (de_bin od_div (de_var 0) de_int) (de_bin od_mul de_int (de_var 3))) de_int)))) (dss_cons (ds_set 6 sc_l_pool.nd rfl (Or.inl rfl) o.fr (de_bin od_add (de_var 6) (de_bin od_mul (de_var 4) (de_bin od_mod (de_bin od_div (de_var 0) de_int) (de_bin od_sub de_int (de_var 5)))))) (dss_cons (ds_if (dt_cmp (od_eq hr.units) rfl (de_bin od_mod (de_var 0) de_int) de_int) (dss_cons (ds_set 7 sc_l_pool.nd rfl (Or.inr rfl) o.fr (de_bin od_add (de_bin od_div (de_var 0) de_int) (de_bin od_mul (de_bin od_div (de_var 3) de_int) de_int))) (dss_one (ds_set 6 sc_l_pool.nd rfl (Or.inl rfl) o.fr (de_join (de_lc (x := "_law_j") 8 o rfl sc_l_pool.nd (di_range1 rfl T.z_range (de_bin od_add de_int (de_bin od_mod (de_var 3) de_int))) (blkOk_by (own := [("_law_j", 8)]) (N := N_l_pool) (sc := defScope s_l_pool) (by decide +kernel)) (fun _ _ _ _ _ => pg_name (i := 8) sc_l_pool.nd rfl (Or.inl rfl)) (fun _ _ _ _ _ => dts_nil) (fun _ _ _ _ _ G o => (de_ix od_ix (fun _ _ => rfl) (de_var 1) (de_bin od_mod (de_bin od_add (de_var 7) (de_var 8)) de_int)))))))) dss_nil) (dss_one (ds_appL (de_var 2) (de_var 6))))))))) (dss_one (ds_ret o.xs (de_var 2))))))
theorem sc_l_step : FnScope N_l_step ["_law_cell", "_law_more", "_law_pool_here", "_law_names"] (defScope s_l_step) := ⟨rfl, rfl, rfl, by decide +kernel, rfl, by decide +kernel, by decide +kernel⟩
set_option maxHeartbeats 4000000 in
theorem d_l_step (T : Tp K mg C cls t0 t1 t2 t3 t4 f_is_name f_is_number f_is_size f_is_step f_begins_from f_brings f_names_behind f_forth f_back f_good_names f_B_init f_B_need_form f_B_need_record f_B_grow f_B_make f_B_line f_B_own f_B_readings f_B_reading f_B_all_readings f_B_changed f_B_change f_l_cell_at f_l_pool f_l_step f_l_hangs_behind f_l_books f_l_all f_l_number f_l_first f_l_numbers f_l_done f_l_stays f_law)  : BodyK P w K mg base C cls 0 f_l_step N_l_step "_law_step" s_l_step b_l_step := fun cdv A outer s H E G o hr hp =>
  (dss_cons (ds_set 4 sc_l_step.nd rfl (Or.inl rfl) o.fr (de_ix od_ix (fun _ _ => rfl) (de_var 3) (de_bin od_mod (de_bin od_div (de_var 1) de_int) (de_callB cd_len rfl T.z_len rfl (da_cons (de_var 3) da_nil))))) (dss_cons (ds_set 5 sc_l_step.nd rfl (Or.inl rfl) o.fr (de_ix od_ix (fun _ _ => rfl) (de_var 3) (de_bin od_mod (de_bin od_add (de_bin od_add (de_bin od_div (de_var 1) de_int) de_int) (de_bin od_mod (de_bin od_div (de_var 1) de_int) de_int)) (de_callB cd_len rfl T.z_len rfl (da_cons (de_var 3) da_nil))))) (dss_cons (ds_setLc (x := "_law_name") 6 10 o rfl sc_l_step.nd rfl rfl (sw_true rfl rfl rfl (by decide +kernel)) (di_list (de_var 2)) (blkOk_by (own := [("_law_name", 10)]) (N := N_l_step) (sc := defScope s_l_step) (by decide +kernel)) (fun _ _ _ _ _ => pg_name (i := 10) sc_l_step.nd rfl (Or.inl rfl)) (fun _ _ _ _ _ => dts_one fun G o => (dt_cmp od_nin rfl (de_var 10) (de_var 3))) (fun _ _ _ _ _ G o => (de_var 10))) (dss_cons (ds_set 7 sc_l_step.nd rfl (Or.inl rfl) o.fr (de_lst (da_cons (de_ix od_ix (fun _ _ => rfl) (de_var 6) (de_bin od_mod (de_bin od_div (de_var 1) de_int) (de_callB cd_len rfl T.z_len rfl (da_cons (de_var 6) da_nil)))) (da_cons (de_ix od_ix (fun _ _ => rfl) (de_var 6) (de_bin od_mod (de_bin od_add (de_bin od_div (de_var 1) de_int) de_int) (de_callB cd_len rfl T.z_len rfl (da_cons (de_var 6) da_nil)))) da_nil)))) (dss_cons (ds_set 8 sc_l_step.nd rfl (Or.inl rfl) o.fr (de_ix od_ix (fun _ _ => rfl) (de_lst (da_cons (de_bin od_add de_int (de_bin od_mod (de_var 1) de_int)) (da_cons (de_bin od_add de_int (de_bin od_mod (de_var 1) de_int)) da_nil))) (de_bin od_mod (de_bin od_div (de_var 1) de_int) de_int))) (dss_cons (ds_set 9 sc_l_step.nd rfl (Or.inl rfl) o.fr (de_bin od_mod (de_var 0) de_int)) (dss_cons (ds_if (dt_w (dw_and (dt_cmp (od_eq hr.units) rfl (de_var 9) de_int) (dw_and1 (dt_cmp od_lt rfl (de_callB cd_len rfl T.z_len rfl (da_cons (de_var 3) da_nil)) de_int)))) (dss_one (ds_ret o.xs (de_tup (da_cons de_str (da_cons (de_ix od_ix (fun _ _ => rfl) (de_var 7) de_int) (da_cons (de_bin od_sub (de_bin od_mod (de_bin od_mul (de_var 1) de_int) de_int) de_int) da_nil)))))) dss_nil) (dss_cons (ds_if (dt_w (dw_and (dt_cmp (od_eq hr.units) rfl (de_var 9) de_int) (dw_and1 (dt_cmp od_gt rfl (de_callB cd_len rfl T.z_len rfl (da_cons (de_var 3) da_nil)) de_int)))) (dss_one (ds_ret o.xs (de_tup (da_cons de_str (da_cons (de_var 4) da_nil))))) dss_nil) (dss_cons (ds_if (dt_cmp (od_eq hr.units) rfl (de_var 9) de_int) (dss_one (ds_ret o.xs (de_tup (da_cons de_str (da_cons (de_var 4) (da_cons (de_ix od_ix (fun _ _ => rfl) (de_var 7) de_int) da_nil)))))) dss_nil) (dss_cons (ds_if (dt_cmp (od_eq hr.units) rfl (de_var 9) de_int) (dss_one (ds_ret o.xs (de_tup (da_cons de_str (da_cons (de_var 4) (da_cons (de_bin od_sub (de_bin od_mod (de_bin od_mul (de_var 1) de_int) de_int) de_int) da_nil)))))) dss_nil) (dss_cons (ds_if (dt_w (dw_and (dt_cmp (od_eq hr.units) rfl (de_var 9) de_int) (dw_and1 (dt_cmp od_lt rfl (de_callB cd_len rfl T.z_len rfl (da_cons (de_var 3) da_nil)) de_int)))) (dss_one (ds_ret o.xs (de_tup (da_cons de_str (da_cons (de_var 4) (da_cons (de_ix od_ix (fun _ _ => rfl) (de_var 7) de_int) (da_cons (de_ix od_ix (fun _ _ => rfl) (de_var 7) de_int) (da_cons (de_var 8) da_nil)))))))) dss_nil) (dss_cons (ds_if (dt_w (dw_and (dt_cmp (od_eq hr.units) rfl (de_var 9) de_int) (dw_and1 (dt_cmp (od_ne hr.units) rfl (de_var 4) (de_var 5))))) (dss_one (ds_ret o.xs (de_tup (da_cons de_str (da_cons (de_var 4) (da_cons (de_var 5) (da_cons (de_ix od_ix (fun _ _ => rfl) (de_var 7) de_int) (da_cons (de_var 8) da_nil)))))))) dss_nil) (dss_one (ds_ret o.xs (de_tup (da_cons de_str (da_cons (de_var 4) da_nil)))))))))))))))))
theorem sc_l_hangs_behind : FnScope N_l_hangs_behind ["_law_step_here", "_law_hangs", "_law_form"] (defScope s_l_hangs_behind) := ⟨rfl, rfl, rfl, by decide +kernel, rfl, by decide +kernel, by decide +kernel⟩
set_option maxHeartbeats 4000000 in
theorem d_l_hangs_behind (T : Tp K mg C cls t0 t1 t2 t3 t4 f_is_name f_is_number f_is_size f_is_step f_begins_from f_brings f_names_behind f_forth f_back f_good_names f_B_init f_B_need_form f_B_need_record f_B_grow f_B_make f_B_line f_B_own f_B_readings f_B_reading f_B_all_readings f_B_changed f_B_change f_l_cell_at f_l_pool f_l_step f_l_hangs_behind f_l_books f_l_all f_l_number f_l_first f_l_numbers f_l_done f_l_stays f_law)  : BodyK P w K mg base C cls 0 f_l_hangs_behind N_l_hangs_behind "_law_hangs_behind" s_l_hangs_behind b_l_hangs_behind := fun cdv A outer s H E G o hr hp =>
  (dss_cons (ds_own 3 sc_l_hangs_behind.nd rfl (Or.inl rfl) o.fr de_dnew) (dss_cons (ds_forD 4 o sc_l_hangs_behind.nd rfl (Or.inl rfl) hp rfl (de_var 1) (fun G o => (dss_one (ds_if (dt_w (dw_or (dt_cmp (od_eq hr.units) rfl (de_ix od_ix (fun _ _ => rfl) (de_var 0) de_int) de_str) (dw_or1 (dt_w (dw_and (dt_cmp (od_ne hr.units) rfl (de_var 4) (de_ix od_ix (fun _ _ => rfl) (de_var 0) de_int)) (dw_and1 (dt_w (dw_or (dt_cmp (od_ne hr.units) rfl (de_ix od_ix (fun _ _ => rfl) (de_var 0) de_int) de_str) (dw_or1 (dt_cmp (od_ne hr.units) rfl (de_var 4) (de_ix od_ix (fun _ _ => rfl) (de_var 0) de_int))))))))))) (dss_one (ds_putD (hu_of hr) (de_var 3) (de_var 4) (de_dget (hu_of hr) (de_var 1) (de_var 4) fun _ _ => rfl))) dss_nil)))) (dss_cons (ds_if (dt_cmp (od_eq hr.units) rfl (de_ix od_ix (fun _ _ => rfl) (de_var 0) de_int) de_str) (dss_one (ds_putD (hu_of hr) (de_var 3) (de_ix od_ix (fun _ _ => rfl) (de_var 0) de_int) (de_dct o (.cons (fun G o => (de_bin od_add de_str (de_callTy cd_str rfl T.z_str rfl (da_cons (de_var 2) da_nil)))) (fun G o => de_bl) .nil)))) dss_nil) (dss_cons (ds_if (dt_cmp (od_eq hr.units) rfl (de_ix od_ix (fun _ _ => rfl) (de_var 0) de_int) de_str) (dss_one (ds_putD (hu_of hr) (de_var 3) (de_ix od_ix (fun _ _ => rfl) (de_var 0) de_int) (de_dget (hu_of hr) (de_var 1) (de_ix od_ix (fun _ _ => rfl) (de_var 0) de_int) fun _ _ => rfl))) dss_nil) (dss_cons (ds_if (dt_w (dw_or (dt_cmp (od_eq hr.units) rfl (de_ix od_ix (fun _ _ => rfl) (de_var 0) de_int) de_str) (dw_or1 (dt_cmp (od_eq hr.units) rfl (de_ix od_ix (fun _ _ => rfl) (de_var 0) de_int) de_str)))) (dss_one (ds_putD (hu_of hr) (de_var 3) (de_ix od_ix (fun _ _ => rfl) (de_var 0) de_int) (de_dget (hu_of hr) (de_var 1) (de_ix od_ix (fun _ _ => rfl) (de_var 0) de_int) fun _ _ => rfl))) dss_nil) (dss_cons (ds_if (dt_cmp (od_eq hr.units) rfl (de_ix od_ix (fun _ _ => rfl) (de_var 0) de_int) de_str) (dss_cons (ds_putD (hu_of hr) (de_var 3) (de_ix od_ix (fun _ _ => rfl) (de_var 0) de_int) (de_dget (hu_of hr) (de_var 1) (de_ix od_ix (fun _ _ => rfl) (de_var 0) de_int) fun _ _ => rfl)) (dss_one (ds_putD (hu_of hr) (de_var 3) (de_ix od_ix (fun _ _ => rfl) (de_var 0) de_int) (de_dget (hu_of hr) (de_var 1) (de_ix od_ix (fun _ _ => rfl) (de_var 0) de_int) fun _ _ => rfl)))) dss_nil) (dss_cons (ds_if (dt_cmp (od_eq hr.units) rfl (de_ix od_ix (fun _ _ => rfl) (de_var 0) de_int) de_str) (dss_cons (ds_own 5 sc_l_hangs_behind.nd rfl (Or.inl rfl) o.fr (de_callTy (cd_dict rfl) rfl T.z_dict rfl (da_cons (de_dget (hu_of hr) (de_var 1) (de_ix od_ix (fun _ _ => rfl) (de_var 0) de_int) fun _ _ => rfl) da_nil))) (dss_cons (ds_updD (de_var 5) (de_dget (hu_of hr) (de_var 1) (de_ix od_ix (fun _ _ => rfl) (de_var 0) de_int) fun _ _ => rfl) ⟨rfl, rfl, rfl, rfl⟩) (dss_frz 5 o.fr (dss_one (ds_putD (hu_of hr) (de_var 3) (de_ix od_ix (fun _ _ => rfl) (de_var 0) de_int) (de_var 5)))))) dss_nil) (dss_one (ds_ret o.xs (de_var 3))))))))))
theorem sc_l_books : FnScope N_l_books ["_law_script", "_law_book", "_law_names", "_law_pool_here"] (defScope s_l_books) := ⟨rfl, rfl, rfl, by decide +kernel, rfl, by decide +kernel, by decide +kernel⟩
set_option maxHeartbeats 4000000 in
theorem d_l_books (T : Tp K mg C cls t0 t1 t2 t3 t4 f_is_name f_is_number f_is_size f_is_step f_begins_from f_brings f_names_behind f_forth f_back f_good_names f_B_init f_B_need_form f_B_need_record f_B_grow f_B_make f_B_line f_B_own f_B_readings f_B_reading f_B_all_readings f_B_changed f_B_change f_l_cell_at f_l_pool f_l_step f_l_hangs_behind f_l_books f_l_all f_l_number f_l_first f_l_numbers f_l_done f_l_stays f_law) (D_B_grow : Dfn P w K mg base C cls 4 f_B_grow ["self", "form", "step"] p_B_grow) (D_l_hangs_behind : Dfn P w K mg base C cls 1 f_l_hangs_behind ["_law_step_here", "_law_hangs", "_law_form"] p_l_hangs_behind) (D_l_step : Dfn P w K mg base C cls 1 f_l_step ["_law_cell", "_law_more", "_law_pool_here", "_law_names"] p_l_step) : BodyK P w K mg base C cls 4 f_l_books N_l_books "_law_books" s_l_books b_l_books := fun cdv A outer s H E G o hr hp =>
  (dss_cons (ds_own 4 sc_l_books.nd rfl (Or.inl rfl) o.fr (de_lst (da_cons (de_callTy (cd_dict rfl) rfl T.z_dict rfl (da_cons (de_lc (x := "_law_name") 8 o rfl sc_l_books.nd (di_list (de_var 2)) (blkOk_by (own := [("_law_name", 8)]) (N := N_l_books) (sc := defScope s_l_books) (by decide +kernel)) (fun _ _ _ _ _ => pg_name (i := 8) sc_l_books.nd rfl (Or.inl rfl)) (fun _ _ _ _ _ => dts_nil) (fun _ _ _ _ _ G o => (de_tup (da_cons (de_var 8) (da_cons (de_dct o (.cons (fun G o => (de_var 8)) (fun G o => de_bl) .nil)) da_nil))))) da_nil)) da_nil))) (dss_cons (ds_for 5 sc_l_books.nd rfl (Or.inl rfl) o.fr hp rfl (di_range3 rfl T.z_range de_int (de_callB (cd_min rfl) rfl T.z_min rfl (da_cons (de_bin od_sub (de_callB cd_len rfl T.z_len rfl (da_cons (de_var 0) da_nil)) de_int) (da_cons de_int da_nil))) de_int) (dss_cons (ds_set 6 sc_l_books.nd rfl (Or.inl rfl) o.fr (de_bin od_mod (de_bin od_add (de_bin od_div (de_ix od_ix (fun _ _ => rfl) (de_var 0) (de_var 5)) de_int) (de_bin od_mul (de_bin od_mod (de_ix od_ix (fun _ _ => rfl) (de_var 0) (de_var 5)) de_int) (de_var 5))) (de_callB cd_len rfl T.z_len rfl (da_cons (de_var 4) da_nil)))) (dss_cons (ds_set 7 sc_l_books.nd rfl (Or.inl rfl) o.fr (xe_call 1 o D_l_step hr (by decide) rfl T.g_l_step T.k_l_step rfl (da_cons (de_ix od_ix (fun _ _ => rfl) (de_var 0) (de_var 5)) (da_cons (de_bin od_add (de_ix od_ix (fun _ _ => rfl) (de_var 0) (de_bin od_add (de_var 5) de_int)) (de_bin od_mul de_int (de_var 5))) (da_cons (de_var 3) (da_cons (de_callTy (cd_list rfl) rfl T.z_list rfl (da_cons (de_ix od_ix (fun _ _ => rfl) (de_var 4) (de_var 6)) da_nil)) da_nil)))))) (dss_cons (ds_exp (xe_meth 4 o T.cl T.m_grow D_B_grow hr (by decide) (de_var 1) (da_cons (de_var 6) (da_cons (de_var 7) da_nil)))) (dss_one (ds_appL (de_var 4) (xe_call 1 o D_l_hangs_behind hr (by decide) rfl T.g_l_hangs_behind T.k_l_hangs_behind rfl (da_cons (de_var 7) (da_cons (de_ix od_ix (fun _ _ => rfl) (de_var 4) (de_var 6)) (da_cons (de_callB cd_len rfl T.z_len rfl (da_cons (de_var 4) da_nil)) da_nil)))))))))) (dss_one (ds_ret o.xs (de_var 4)))))
theorem sc_l_all : FnScope N_l_all ["_law_book", "_law_record", "_law_many"] (defScope s_l_all) := ⟨rfl, rfl, rfl, by decide +kernel, rfl, by decide +kernel, by decide +kernel⟩
set_option maxHeartbeats 4000000 in
theorem d_l_all (T : Tp K mg C cls t0 t1 t2 t3 t4 f_is_name f_is_number f_is_size f_is_step f_begins_from f_brings f_names_behind f_forth f_back f_good_names f_B_init f_B_need_form f_B_need_record f_B_grow f_B_make f_B_line f_B_own f_B_readings f_B_reading f_B_all_readings f_B_changed f_B_change f_l_cell_at f_l_pool f_l_step f_l_hangs_behind f_l_books f_l_all f_l_number f_l_first f_l_numbers f_l_done f_l_stays f_law) (D_B_reading : Dfn P w K mg base C cls 4 f_B_reading ["self", "record", "form"] p_B_reading) : BodyK P w K mg base C cls 4 f_l_all N_l_all "_law_all" s_l_all b_l_all := fun cdv A outer s H E G o hr hp =>
  (dss_one (ds_ret o.xs (de_lc (x := "_law_form") 3 o rfl sc_l_all.nd (di_range1 rfl T.z_range (de_var 2)) (blkOk_by (own := [("_law_form", 3)]) (N := N_l_all) (sc := defScope s_l_all) (by decide +kernel)) (fun _ _ _ _ _ => pg_name (i := 3) sc_l_all.nd rfl (Or.inl rfl)) (fun _ _ _ _ _ => dts_nil) (fun _ _ _ _ _ G o => (xe_meth 4 o T.cl T.m_reading D_B_reading hr (by decide) (de_var 0) (da_cons (de_var 1) (da_cons (de_var 3) da_nil)))))))
theorem sc_l_number : FnScope N_l_number ["_law_cell", "_law_k"] (defScope s_l_number) := ⟨rfl, rfl, rfl, by decide +kernel, rfl, by decide +kernel, by decide +kernel⟩
set_option maxHeartbeats 4000000 in
theorem d_l_number (T : Tp K mg C cls t0 t1 t2 t3 t4 f_is_name f_is_number f_is_size f_is_step f_begins_from f_brings f_names_behind f_forth f_back f_good_names f_B_init f_B_need_form f_B_need_record f_B_grow f_B_make f_B_line f_B_own f_B_readings f_B_reading f_B_all_readings f_B_changed f_B_change f_l_cell_at f_l_pool f_l_step f_l_hangs_behind f_l_books f_l_all f_l_number f_l_first f_l_numbers f_l_done f_l_stays f_law)  : BodyK P w K mg base C cls 0 f_l_number N_l_number "_law_number" s_l_number b_l_number := fun cdv A outer s H E G o hr hp =>
  (dss_cons (ds_if (dt_cmp (od_eq hr.units) rfl (de_bin od_mod (de_var 0) de_int) de_int) (dss_one (ds_ret o.xs (de_bin od_add (de_bin od_sub (de_bin od_mod (de_bin od_div (de_var 0) de_int) de_int) de_int) (de_bin od_mul de_int (de_var 1))))) dss_nil) (dss_one (ds_ret o.xs (de_bin od_sub (de_bin od_mod (de_bin od_mul (de_bin od_add (de_var 0) (de_var 1)) de_int) (de_bin od_add (de_bin od_mul de_int (de_bin od_pow de_int de_int)) de_int)) (de_bin od_pow de_int de_int)))))
theorem sc_l_first : FnScope N_l_first ["_law_names", "_law_cell"] (defScope s_l_first) := ⟨rfl, rfl, rfl, by decide +kernel, rfl, by decide +kernel, by decide +kernel⟩
set_option maxHeartbeats 4000000 in
theorem d_l_first (T : Tp K mg C cls t0 t1 t2 t3 t4 f_is_name f_is_number f_is_size f_is_step f_begins_from f_brings f_names_behind f_forth f_back f_good_names f_B_init f_B_need_form f_B_need_record f_B_grow f_B_make f_B_line f_B_own f_B_readings f_B_reading f_B_all_readings f_B_changed f_B_change f_l_cell_at f_l_pool f_l_step f_l_hangs_behind f_l_books f_l_all f_l_number f_l_first f_l_numbers f_l_done f_l_stays f_law) (D_l_number : Dfn P w K mg base C cls 1 f_l_number ["_law_cell", "_law_k"] p_l_number) : BodyK P w K mg base C cls 1 f_l_first N_l_first "_law_first" s_l_first b_l_first := fun cdv A outer s H E G o hr hp =>
  (dss_cons (ds_own 2 sc_l_first.nd rfl (Or.inl rfl) o.fr de_dnew) (dss_cons (ds_for 3 sc_l_first.nd rfl (Or.inl rfl) o.fr hp rfl (di_range1 rfl T.z_range (de_callB cd_len rfl T.z_len rfl (da_cons (de_var 0) da_nil))) (dss_one (ds_putD (hu_of hr) (de_var 2) (de_ix od_ix (fun _ _ => rfl) (de_var 0) (de_var 3)) (xe_call 1 o D_l_number hr (by decide) rfl T.g_l_number T.k_l_number rfl (da_cons (de_var 1) (da_cons (de_var 3) da_nil)))))) (dss_one (ds_ret o.xs (de_var 2)))))
theorem sc_l_numbers : FnScope N_l_numbers ["_law_book", "_law_names", "_law_form", "_law_cells"] (defScope s_l_numbers) := ⟨rfl, rfl, rfl, by decide +kernel, rfl, by decide +kernel, by decide +kernel⟩
set_option maxHeartbeats 4000000 in
theorem d_l_numbers (T : Tp K mg C cls t0 t1 t2 t3 t4 f_is_name f_is_number f_is_size f_is_step f_begins_from f_brings f_names_behind f_forth f_back f_good_names f_B_init f_B_need_form f_B_need_record f_B_grow f_B_make f_B_line f_B_own f_B_readings f_B_reading f_B_all_readings f_B_changed f_B_change f_l_cell_at f_l_pool f_l_step f_l_hangs_behind f_l_books f_l_all f_l_number f_l_first f_l_numbers f_l_done f_l_stays f_law) (D_B_change : Dfn P w K mg base C cls 6 f_B_change ["self", "record", "form", "numbers"] p_B_change) (D_B_reading : Dfn P w K mg base C cls 4 f_B_reading ["self", "record", "form"] p_B_reading) (D_l_first : Dfn P w K mg base C cls 2 f_l_first ["_law_names", "_law_cell"] p_l_first) (D_l_number : Dfn P w K mg base C cls 1 f_l_number ["_law_cell", "_law_k"] p_l_number) : BodyK P w K mg base C cls 6 f_l_numbers N_l_numbers "_law_numbers" s_l_numbers b_l_numbers := fun cdv A outer s H E G o hr hp =>
  (dss_cons (ds_exp (xe_meth 6 o T.cl T.m_change D_B_change hr (by decide) (de_var 0) (da_cons de_int (da_cons de_int (da_cons (xe_call 2 o D_l_first hr (by decide) rfl T.g_l_first T.k_l_first rfl (da_cons (de_var 1) (da_cons (de_ix od_ix (fun _ _ => rfl) (de_var 3) de_int) da_nil))) da_nil))))) (dss_cons (ds_set 4 sc_l_numbers.nd rfl (Or.inl rfl) o.fr (xe_meth 4 o T.cl T.m_reading D_B_reading hr (by decide) (de_var 0) (da_cons de_int (da_cons (de_var 2) da_nil)))) (dss_cons (ds_set 5 sc_l_numbers.nd rfl (Or.inl rfl) o.fr (de_callB (cd_sorted rfl) rfl T.z_sorted rfl (da_cons (de_var 4) da_nil))) (dss_cons (ds_own 6 sc_l_numbers.nd rfl (Or.inl rfl) o.fr de_dnew) (dss_cons (ds_for 7 sc_l_numbers.nd rfl (Or.inl rfl) o.fr hp rfl (di_range1 rfl T.z_range (de_bin od_add de_int (de_bin od_mod (de_ix od_ix (fun _ _ => rfl) (de_var 3) de_int) de_int))) (dss_cons (ds_set 8 sc_l_numbers.nd rfl (Or.inl rfl) o.fr (de_ix od_ix (fun _ _ => rfl) (de_var 5) (de_bin od_mod (de_bin od_add (de_bin od_div (de_ix od_ix (fun _ _ => rfl) (de_var 3) de_int) de_int) (de_var 7)) (de_callB cd_len rfl T.z_len rfl (da_cons (de_var 5) da_nil))))) (dss_cons (ds_putD (hu_of hr) (de_var 6) (de_var 8) (de_dget (hu_of hr) (de_var 4) (de_var 8) fun _ _ => rfl)) (dss_one (ds_if (dt_cmp (od_eq hr.units) rfl (de_bin od_mod (de_ix od_ix (fun _ _ => rfl) (de_var 3) de_int) de_int) de_int) (dss_one (ds_putD (hu_of hr) (de_var 6) (de_var 8) (xe_call 1 o D_l_number hr (by decide) rfl T.g_l_number T.k_l_number rfl (da_cons (de_ix od_ix (fun _ _ => rfl) (de_var 3) de_int) (da_cons (de_bin od_mul de_int (de_var 7)) da_nil))))) dss_nil))))) (dss_one (ds_ret o.xs (de_var 6))))))))
theorem sc_l_done : FnScope N_l_done ["_law_book", "_law_form", "_law_numbers_here"] (defScope s_l_done) := ⟨rfl, rfl, rfl, by decide +kernel, rfl, by decide +kernel, by decide +kernel⟩
set_option maxHeartbeats 4000000 in
theorem d_l_done (T : Tp K mg C cls t0 t1 t2 t3 t4 f_is_name f_is_number f_is_size f_is_step f_begins_from f_brings f_names_behind f_forth f_back f_good_names f_B_init f_B_need_form f_B_need_record f_B_grow f_B_make f_B_line f_B_own f_B_readings f_B_reading f_B_all_readings f_B_changed f_B_change f_l_cell_at f_l_pool f_l_step f_l_hangs_behind f_l_books f_l_all f_l_number f_l_first f_l_numbers f_l_done f_l_stays f_law) (D_B_change : Dfn P w K mg base C cls 6 f_B_change ["self", "record", "form", "numbers"] p_B_change) : BodyK P w K mg base C cls 6 f_l_done N_l_done "_law_done" s_l_done b_l_done := fun cdv A outer s H E G o hr hp =>
  (dss_cons (ds_try (ns := ns0) o rfl rfl (fun pn xe G hp o => (dss_one (ds_exp (xe_meth 6 o T.cl T.m_change D_B_change hr (by decide) (de_var 0) (da_cons de_int (da_cons (de_var 1) (da_cons (de_var 2) da_nil))))))) (.cons ⟨rfl, by decide, .inl T.y_BadNumber⟩ T.h_BadNumber (fun a oe pn c G hn hz hf o => (dss_one (ds_ret o.xs de_bl))) .nil)) (dss_one (ds_ret o.xs de_bl)))
theorem sc_l_stays : FnScope N_l_stays ["_law_hangs", "_law_touched", "_law_before", "_law_after"] (defScope s_l_stays) := ⟨rfl, rfl, rfl, by decide +kernel, rfl, by decide +kernel, by decide +kernel⟩
set_option maxHeartbeats 4000000 in
theorem d_l_stays (T : Tp K mg C cls t0 t1 t2 t3 t4 f_is_name f_is_number f_is_size f_is_step f_begins_from f_brings f_names_behind f_forth f_back f_good_names f_B_init f_B_need_form f_B_need_record f_B_grow f_B_make f_B_line f_B_own f_B_readings f_B_reading f_B_all_readings f_B_changed f_B_change f_l_cell_at f_l_pool f_l_step f_l_hangs_behind f_l_books f_l_all f_l_number f_l_first f_l_numbers f_l_done f_l_stays f_law)  : BodyK P w K mg base C cls 0 f_l_stays N_l_stays "_law_stays" s_l_stays b_l_stays := fun cdv A outer s H E G o hr hp =>
  (dss_cons (ds_for 4 sc_l_stays.nd rfl (Or.inl rfl) o.fr hp rfl (di_range1 rfl T.z_range (de_callB cd_len rfl T.z_len rfl (da_cons (de_var 0) da_nil))) (dss_one (ds_forD 5 o sc_l_stays.nd rfl (Or.inl rfl) hp rfl (de_ix od_ix (fun _ _ => rfl) (de_var 0) (de_var 4)) (fun G o => (dss_cons (ds_set 6 sc_l_stays.nd rfl (Or.inl rfl) o.fr (de_cmp (od_ne hr.units) rfl (de_lcD (x := "_law_thing") 7 o rfl sc_l_stays.nd (de_dget (hu_of hr) (de_ix od_ix (fun _ _ => rfl) (de_var 0) (de_var 4)) (de_var 5) fun _ _ => rfl) (blkOk_by (own := [("_law_thing", 7)]) (N := N_l_stays) (sc := defScope s_l_stays) (by decide +kernel)) (fun _ _ _ _ _ => pg_name (i := 7) sc_l_stays.nd rfl (Or.inl rfl)) (fun _ _ _ _ _ => dts_one fun G o => (dt_din (hu_of hr) (de_var 7) (de_var 1))) (fun _ _ _ _ _ G o => (de_var 7))) (de_lst da_nil))) (dss_one (ds_if (dt_w (dw_and (dt_not (dt_val (de_var 6))) (dw_and1 (dt_cmp (od_ne hr.units) rfl (de_dget (hu_of hr) (de_ix od_ix (fun _ _ => rfl) (de_var 3) (de_var 4)) (de_var 5) fun _ _ => rfl) (de_dget (hu_of hr) (de_ix od_ix (fun _ _ => rfl) (de_var 2) (de_var 4)) (de_var 5) fun _ _ => rfl))))) (dss_one (ds_ret o.xs de_bl)) dss_nil))))))) (dss_one (ds_ret o.xs de_bl)))
theorem sc_law : FnScope N_law ["_law_script"] (defScope s_law) := ⟨rfl, rfl, rfl, by decide +kernel, rfl, by decide +kernel, by decide +kernel⟩
set_option maxHeartbeats 4000000 in
theorem d_law (T : Tp K mg C cls t0 t1 t2 t3 t4 f_is_name f_is_number f_is_size f_is_step f_begins_from f_brings f_names_behind f_forth f_back f_good_names f_B_init f_B_need_form f_B_need_record f_B_grow f_B_make f_B_line f_B_own f_B_readings f_B_reading f_B_all_readings f_B_changed f_B_change f_l_cell_at f_l_pool f_l_step f_l_hangs_behind f_l_books f_l_all f_l_number f_l_first f_l_numbers f_l_done f_l_stays f_law) (D_B_init : Dfn P w K mg base C cls 3 f_B_init ["self", "names"] p_B_init) (D_B_change : Dfn P w K mg base C cls 6 f_B_change ["self", "record", "form", "numbers"] p_B_change) (D_B_make : Dfn P w K mg base C cls 1 f_B_make ["self"] p_B_make) (D_l_all : Dfn P w K mg base C cls 5 f_l_all ["_law_book", "_law_record", "_law_many"] p_l_all) (D_l_books : Dfn P w K mg base C cls 5 f_l_books ["_law_script", "_law_book", "_law_names", "_law_pool_here"] p_l_books) (D_l_cell_at : Dfn P w K mg base C cls 1 f_l_cell_at ["_law_script", "_law_k"] p_l_cell_at) (D_l_done : Dfn P w K mg base C cls 7 f_l_done ["_law_book", "_law_form", "_law_numbers_here"] p_l_done) (D_l_first : Dfn P w K mg base C cls 2 f_l_first ["_law_names", "_law_cell"] p_l_first) (D_l_numbers : Dfn P w K mg base C cls 7 f_l_numbers ["_law_book", "_law_names", "_law_form", "_law_cells"] p_l_numbers) (D_l_pool : Dfn P w K mg base C cls 1 f_l_pool ["_law_cell"] p_l_pool) (D_l_stays : Dfn P w K mg base C cls 1 f_l_stays ["_law_hangs", "_law_touched", "_law_before", "_law_after"] p_l_stays) : BodyK P w K mg base C cls 7 f_law N_law "law" s_law b_law := fun cdv A outer s H E G o hr hp =>
  (dss_cons (ds_set 1 sc_law.nd rfl (Or.inl rfl) o.fr (xe_call 1 o D_l_pool hr (by decide) rfl T.g_l_pool T.k_l_pool rfl (da_cons (xe_call 1 o D_l_cell_at hr (by decide) rfl T.g_l_cell_at T.k_l_cell_at rfl (da_cons (de_var 0) (da_cons de_int da_nil))) da_nil))) (dss_cons (ds_set 2 sc_law.nd rfl (Or.inl rfl) o.fr (de_slice sl_any (sl_go _) (de_var 1) do_none (do_some (de_bin od_add de_int (de_bin od_mod (xe_call 1 o D_l_cell_at hr (by decide) rfl T.g_l_cell_at T.k_l_cell_at rfl (da_cons (de_var 0) (da_cons de_int da_nil))) de_int))))) (dss_cons (ds_set 3 sc_law.nd rfl (Or.inl rfl) o.fr (xe_make 3 o T.mkB D_B_init hr (by decide) rfl T.g_Book (da_cons (de_callTy (cd_list rfl) rfl T.z_list rfl (da_cons (de_var 2) da_nil)) da_nil))) (dss_cons (ds_set 4 sc_law.nd rfl (Or.inl rfl) o.fr (xe_call 5 o D_l_books hr (by decide) rfl T.g_l_books T.k_l_books rfl (da_cons (de_var 0) (da_cons (de_var 3) (da_cons (de_var 2) (da_cons (de_var 1) da_nil)))))) (dss_cons (ds_if (dt_w (dw_or (dt_cmp (od_ne hr.units) rfl (xe_meth0 1 o T.cl T.m_make D_B_make hr (by decide) (de_var 3)) de_int) (dw_or1 (dt_cmp (od_ne hr.units) rfl (xe_meth0 1 o T.cl T.m_make D_B_make hr (by decide) (de_var 3)) de_int)))) (dss_one (ds_ret o.xs de_bl)) dss_nil) (dss_cons (ds_exp (xe_meth 6 o T.cl T.m_change D_B_change hr (by decide) (de_var 3) (da_cons de_int (da_cons de_int (da_cons (xe_call 2 o D_l_first hr (by decide) rfl T.g_l_first T.k_l_first rfl (da_cons (de_var 2) (da_cons (xe_call 1 o D_l_cell_at hr (by decide) rfl T.g_l_cell_at T.k_l_cell_at rfl (da_cons (de_var 0) (da_cons de_int da_nil))) da_nil))) da_nil))))) (dss_cons (ds_for 5 sc_law.nd rfl (Or.inl rfl) o.fr hp rfl (di_range3 rfl T.z_range de_int (de_callB (cd_min rfl) rfl T.z_min rfl (da_cons (de_bin od_sub (de_callB cd_len rfl T.z_len rfl (da_cons (de_var 0) da_nil)) de_int) (da_cons de_int da_nil))) de_int) (dss_cons (ds_set 6 sc_law.nd rfl (Or.inl rfl) o.fr (de_bin od_mod (de_bin od_add (de_bin od_div (de_ix od_ix (fun _ _ => rfl) (de_var 0) (de_var 5)) de_int) (de_ix od_ix (fun _ _ => rfl) (de_var 0) (de_bin od_add (de_var 5) de_int))) (de_callB cd_len rfl T.z_len rfl (da_cons (de_var 4) da_nil)))) (dss_cons (ds_set 7 sc_law.nd rfl (Or.inl rfl) o.fr (xe_call 7 o D_l_numbers hr (by decide) rfl T.g_l_numbers T.k_l_numbers rfl (da_cons (de_var 3) (da_cons (de_var 2) (da_cons (de_var 6) (da_cons (de_slice sl_any (sl_go _) (de_var 0) (do_some (de_var 5)) (do_some (de_bin od_add (de_var 5) de_int))) da_nil)))))) (dss_cons (ds_set 8 sc_law.nd rfl (Or.inl rfl) o.fr (xe_call 5 o D_l_all hr (by decide) rfl T.g_l_all T.k_l_all rfl (da_cons (de_var 3) (da_cons de_int (da_cons (de_callB cd_len rfl T.z_len rfl (da_cons (de_var 4) da_nil)) da_nil))))) (dss_cons (ds_own 9 sc_law.nd rfl (Or.inl rfl) o.fr de_dnew) (dss_cons (ds_if (dt_val (xe_call 7 o D_l_done hr (by decide) rfl T.g_l_done T.k_l_done rfl (da_cons (de_var 3) (da_cons (de_var 6) (da_cons (de_var 7) da_nil))))) (dss_one (ds_forD 11 o sc_law.nd rfl (Or.inl rfl) hp rfl (de_var 7) (fun G o => (dss_one (ds_updD (de_var 9) (de_dget (hu_of hr) (de_ix od_ix (fun _ _ => rfl) (de_var 4) (de_var 6)) (de_var 11) fun _ _ => rfl) ⟨rfl, rfl, rfl, rfl⟩))))) dss_nil) (dss_frz 9 o.fr (dss_cons (ds_set 10 sc_law.nd rfl (Or.inl rfl) o.fr (xe_call 5 o D_l_all hr (by decide) rfl T.g_l_all T.k_l_all rfl (da_cons (de_var 3) (da_cons de_int (da_cons (de_callB cd_len rfl T.z_len rfl (da_cons (de_var 4) da_nil)) da_nil))))) (dss_cons (ds_if (dt_cmp (od_ne hr.units) rfl (de_lc (x := "_law_row") 12 o rfl sc_law.nd (di_list (de_var 10)) (blkOk_by (own := [("_law_row", 12)]) (N := N_law) (sc := defScope s_law) (by decide +kernel)) (fun _ _ _ _ _ => pg_name (i := 12) sc_law.nd rfl (Or.inl rfl)) (fun _ _ _ _ _ => dts_nil) (fun _ _ _ _ _ G o => (de_callB (cd_sorted rfl) rfl T.z_sorted rfl (da_cons (de_var 12) da_nil)))) (de_lc (x := "_law_row") 12 o rfl sc_law.nd (di_list (de_var 4)) (blkOk_by (own := [("_law_row", 12)]) (N := N_law) (sc := defScope s_law) (by decide +kernel)) (fun _ _ _ _ _ => pg_name (i := 12) sc_law.nd rfl (Or.inl rfl)) (fun _ _ _ _ _ => dts_nil) (fun _ _ _ _ _ G o => (de_callB (cd_sorted rfl) rfl T.z_sorted rfl (da_cons (de_var 12) da_nil))))) (dss_one (ds_ret o.xs de_bl)) dss_nil) (dss_one (ds_if (dt_not (dt_val (xe_call 1 o D_l_stays hr (by decide) rfl T.g_l_stays T.k_l_stays rfl (da_cons (de_var 4) (da_cons (de_var 9) (da_cons (de_var 8) (da_cons (de_var 10) da_nil))))))) (dss_one (ds_ret o.xs de_bl)) dss_nil))))))))))) (dss_one (ds_ret o.xs de_bl)))))))))
set_option maxHeartbeats 4000000 in
theorem all_mk {l : PySem.W.OpenLaw} {w : World} {K : PySem.W.Frag} {h : Heap} {mg : Str → Option Value} {fa : Addr} {t0 t1 t2 t3 t4 : Tok} {f_is_name f_is_number f_is_size f_is_step f_begins_from f_brings f_names_behind f_forth f_back f_good_names f_B_init f_B_need_form f_B_need_record f_B_grow f_B_make f_B_line f_B_own f_B_readings f_B_reading f_B_all_readings f_B_changed f_B_change f_l_cell_at f_l_pool f_l_step f_l_hangs_behind f_l_books f_l_all f_l_number f_l_first f_l_numbers f_l_done f_l_stays f_law : Addr} {C : Addr} {ax_NoField ax_Taken ax_BadForm ax_BadName ax_BadNumber ax_BadStep ax_NoForm ax_NoRecord ax_TooMany : Addr} (X : K.In h) (G : h.Ns mainGlobals mg) (hfa : mg "law" = some (.ref fa))
    {od0 an0 od1 an1 od2 an2 od3 an3 od4 an4 od5 an5 od6 an6 od7 an7 od8 an8 od9 an9 od10 an10 od11 an11 od12 an12 od13 an13 od14 an14 od15 an15 od16 an16 od17 an17 od18 an18 od19 an19 od20 an20 od21 an21 od22 an22 od23 an23 od24 an24 od25 an25 od26 an26 od27 an27 od28 an28 od29 an29 od30 an30 od31 an31 od32 an32 od33 an33 : Option Addr}
    {sl0 sl1 sl2 sl3 sl4 sl5 sl6 sl7 sl8 sl9 sl10 sl11 sl12 sl13 sl14 sl15 sl16 sl17 sl18 sl19 sl20 sl21 sl22 sl23 sl24 sl25 sl26 sl27 sl28 sl29 sl30 sl31 sl32 sl33 : Array (Option Value)} {oc0 kV0 dc0 pm0 cd0 ct0 oc1 kV1 dc1 pm1 cd1 ct1 oc2 kV2 dc2 pm2 cd2 ct2 oc3 kV3 dc3 pm3 cd3 ct3 oc4 kV4 dc4 pm4 cd4 ct4 oc5 kV5 dc5 pm5 cd5 ct5 oc6 kV6 dc6 pm6 cd6 ct6 oc7 kV7 dc7 pm7 cd7 ct7 oc8 kV8 dc8 pm8 cd8 ct8 oc9 kV9 dc9 pm9 cd9 ct9 oc10 kV10 dc10 pm10 cd10 ct10 oc11 kV11 dc11 pm11 cd11 ct11 oc12 kV12 dc12 pm12 cd12 ct12 oc13 kV13 dc13 pm13 cd13 ct13 oc14 kV14 dc14 pm14 cd14 ct14 oc15 kV15 dc15 pm15 cd15 ct15 oc16 kV16 dc16 pm16 cd16 ct16 oc17 kV17 dc17 pm17 cd17 ct17 oc18 kV18 dc18 pm18 cd18 ct18 oc19 kV19 dc19 pm19 cd19 ct19 oc20 kV20 dc20 pm20 cd20 ct20 oc21 kV21 dc21 pm21 cd21 ct21 oc22 kV22 dc22 pm22 cd22 ct22 oc23 kV23 dc23 pm23 cd23 ct23 oc24 kV24 dc24 pm24 cd24 ct24 oc25 kV25 dc25 pm25 cd25 ct25 oc26 kV26 dc26 pm26 cd26 ct26 oc27 kV27 dc27 pm27 cd27 ct27 oc28 kV28 dc28 pm28 cd28 ct28 oc29 kV29 dc29 pm29 cd29 ct29 oc30 kV30 dc30 pm30 cd30 ct30 oc31 kV31 dc31 pm31 cd31 ct31 oc32 kV32 dc32 pm32 cd32 ct32 oc33 kV33 dc33 pm33 cd33 ct33 : Value}
    (aC : PySem.W.nsIn K mainGlobals "Book" = some (some (.ref C)))
    (pg : PySem.W.plainGet K C Str.empty = true)
    (hd : PySem.W.hasDictIn K C = true)
    (po : PySem.W.plainOver K C = true)
    (sa : PySem.W.findIn K (.ref C) "__setattr__" = some (some (.builtin "object.__setattr__")))
    (mk : PySem.W.makesIn K C = true)
    (kc : PySem.W.keepIn K (.ref C) = true)
    (nf_elders : PySem.W.findIn K (.ref C) "elders" = some none)
    (nf_kept : PySem.W.findIn K (.ref C) "kept" = some none)
    (nf_lists : PySem.W.findIn K (.ref C) "lists" = some none)
    (nf_owns : PySem.W.findIn K (.ref C) "owns" = some none)
    (nf_ways : PySem.W.findIn K (.ref C) "ways" = some none)
    (e_NoField : PySem.W.nsIn K mainGlobals "NoField" = some (some (.ref ax_NoField)))
    (eb_NoField : PySem.W.subIn K (.ref ax_NoField) (.type "BaseException") = some true)
    (et_NoField : PySem.W.typeIn K (.ref ax_NoField) = some (.type "type"))
    (eq_NoField : PySem.W.excIn K ax_NoField [.type "ValueError", .type "Exception", .type "BaseException", .type "object"] "ValueError.__new__" = true)
    (ek_NoField : PySem.W.keepIn K (.ref ax_NoField) = true)
    (e_Taken : PySem.W.nsIn K mainGlobals "Taken" = some (some (.ref ax_Taken)))
    (eb_Taken : PySem.W.subIn K (.ref ax_Taken) (.type "BaseException") = some true)
    (et_Taken : PySem.W.typeIn K (.ref ax_Taken) = some (.type "type"))
    (eq_Taken : PySem.W.excIn K ax_Taken [.type "ValueError", .type "Exception", .type "BaseException", .type "object"] "ValueError.__new__" = true)
    (ek_Taken : PySem.W.keepIn K (.ref ax_Taken) = true)
    (e_BadForm : PySem.W.nsIn K mainGlobals "BadForm" = some (some (.ref ax_BadForm)))
    (eb_BadForm : PySem.W.subIn K (.ref ax_BadForm) (.type "BaseException") = some true)
    (et_BadForm : PySem.W.typeIn K (.ref ax_BadForm) = some (.type "type"))
    (eq_BadForm : PySem.W.excIn K ax_BadForm [.type "ValueError", .type "Exception", .type "BaseException", .type "object"] "ValueError.__new__" = true)
    (ek_BadForm : PySem.W.keepIn K (.ref ax_BadForm) = true)
    (e_BadName : PySem.W.nsIn K mainGlobals "BadName" = some (some (.ref ax_BadName)))
    (eb_BadName : PySem.W.subIn K (.ref ax_BadName) (.type "BaseException") = some true)
    (et_BadName : PySem.W.typeIn K (.ref ax_BadName) = some (.type "type"))
    (eq_BadName : PySem.W.excIn K ax_BadName [.type "ValueError", .type "Exception", .type "BaseException", .type "object"] "ValueError.__new__" = true)
    (ek_BadName : PySem.W.keepIn K (.ref ax_BadName) = true)
    (e_BadNumber : PySem.W.nsIn K mainGlobals "BadNumber" = some (some (.ref ax_BadNumber)))
    (eb_BadNumber : PySem.W.subIn K (.ref ax_BadNumber) (.type "BaseException") = some true)
    (et_BadNumber : PySem.W.typeIn K (.ref ax_BadNumber) = some (.type "type"))
    (eq_BadNumber : PySem.W.excIn K ax_BadNumber [.type "ValueError", .type "Exception", .type "BaseException", .type "object"] "ValueError.__new__" = true)
    (ek_BadNumber : PySem.W.keepIn K (.ref ax_BadNumber) = true)
    (eh_BadNumber : PySem.W.hasDictIn K ax_BadNumber = true)
    (e_BadStep : PySem.W.nsIn K mainGlobals "BadStep" = some (some (.ref ax_BadStep)))
    (eb_BadStep : PySem.W.subIn K (.ref ax_BadStep) (.type "BaseException") = some true)
    (et_BadStep : PySem.W.typeIn K (.ref ax_BadStep) = some (.type "type"))
    (eq_BadStep : PySem.W.excIn K ax_BadStep [.type "ValueError", .type "Exception", .type "BaseException", .type "object"] "ValueError.__new__" = true)
    (ek_BadStep : PySem.W.keepIn K (.ref ax_BadStep) = true)
    (e_NoForm : PySem.W.nsIn K mainGlobals "NoForm" = some (some (.ref ax_NoForm)))
    (eb_NoForm : PySem.W.subIn K (.ref ax_NoForm) (.type "BaseException") = some true)
    (et_NoForm : PySem.W.typeIn K (.ref ax_NoForm) = some (.type "type"))
    (eq_NoForm : PySem.W.excIn K ax_NoForm [.type "ValueError", .type "Exception", .type "BaseException", .type "object"] "ValueError.__new__" = true)
    (ek_NoForm : PySem.W.keepIn K (.ref ax_NoForm) = true)
    (e_NoRecord : PySem.W.nsIn K mainGlobals "NoRecord" = some (some (.ref ax_NoRecord)))
    (eb_NoRecord : PySem.W.subIn K (.ref ax_NoRecord) (.type "BaseException") = some true)
    (et_NoRecord : PySem.W.typeIn K (.ref ax_NoRecord) = some (.type "type"))
    (eq_NoRecord : PySem.W.excIn K ax_NoRecord [.type "ValueError", .type "Exception", .type "BaseException", .type "object"] "ValueError.__new__" = true)
    (ek_NoRecord : PySem.W.keepIn K (.ref ax_NoRecord) = true)
    (e_TooMany : PySem.W.nsIn K mainGlobals "TooMany" = some (some (.ref ax_TooMany)))
    (eb_TooMany : PySem.W.subIn K (.ref ax_TooMany) (.type "BaseException") = some true)
    (et_TooMany : PySem.W.typeIn K (.ref ax_TooMany) = some (.type "type"))
    (eq_TooMany : PySem.W.excIn K ax_TooMany [.type "ValueError", .type "Exception", .type "BaseException", .type "object"] "ValueError.__new__" = true)
    (ek_TooMany : PySem.W.keepIn K (.ref ax_TooMany) = true)
    (es_BadNumber_BadNumber : PySem.W.subIn K (.ref ax_BadNumber) (.ref ax_BadNumber) = some true)
    (a0 : PySem.W.nsIn K mainGlobals "is_name" = some (some (.ref f_is_name)))
    (l0 : K.lookup f_is_name = some ⟨oc0, od0, .func (PySem.W.fnOf "is_name" "is_name" (defArgs s_is_name) (defBody s_is_name) (defScope s_is_name) .none kV0 dc0 pm0 an0 cd0 ct0), sl0⟩)
    (c0 : PySem.W.codeIn K cd0 "is_name" = true)
    (k0 : PySem.W.keepIn K (.ref f_is_name) = true)
    (a1 : PySem.W.nsIn K mainGlobals "is_number" = some (some (.ref f_is_number)))
    (l1 : K.lookup f_is_number = some ⟨oc1, od1, .func (PySem.W.fnOf "is_number" "is_number" (defArgs s_is_number) (defBody s_is_number) (defScope s_is_number) .none kV1 dc1 pm1 an1 cd1 ct1), sl1⟩)
    (c1 : PySem.W.codeIn K cd1 "is_number" = true)
    (k1 : PySem.W.keepIn K (.ref f_is_number) = true)
    (a2 : PySem.W.nsIn K mainGlobals "is_size" = some (some (.ref f_is_size)))
    (l2 : K.lookup f_is_size = some ⟨oc2, od2, .func (PySem.W.fnOf "is_size" "is_size" (defArgs s_is_size) (defBody s_is_size) (defScope s_is_size) .none kV2 dc2 pm2 an2 cd2 ct2), sl2⟩)
    (c2 : PySem.W.codeIn K cd2 "is_size" = true)
    (k2 : PySem.W.keepIn K (.ref f_is_size) = true)
    (a3 : PySem.W.nsIn K mainGlobals "is_step" = some (some (.ref f_is_step)))
    (l3 : K.lookup f_is_step = some ⟨oc3, od3, .func (PySem.W.fnOf "is_step" "is_step" (defArgs s_is_step) (defBody s_is_step) (defScope s_is_step) .none kV3 dc3 pm3 an3 cd3 ct3), sl3⟩)
    (c3 : PySem.W.codeIn K cd3 "is_step" = true)
    (k3 : PySem.W.keepIn K (.ref f_is_step) = true)
    (a4 : PySem.W.nsIn K mainGlobals "begins_from" = some (some (.ref f_begins_from)))
    (l4 : K.lookup f_begins_from = some ⟨oc4, od4, .func (PySem.W.fnOf "begins_from" "begins_from" (defArgs s_begins_from) (defBody s_begins_from) (defScope s_begins_from) .none kV4 dc4 pm4 an4 cd4 ct4), sl4⟩)
    (c4 : PySem.W.codeIn K cd4 "begins_from" = true)
    (k4 : PySem.W.keepIn K (.ref f_begins_from) = true)
    (a5 : PySem.W.nsIn K mainGlobals "brings" = some (some (.ref f_brings)))
    (l5 : K.lookup f_brings = some ⟨oc5, od5, .func (PySem.W.fnOf "brings" "brings" (defArgs s_brings) (defBody s_brings) (defScope s_brings) .none kV5 dc5 pm5 an5 cd5 ct5), sl5⟩)
    (c5 : PySem.W.codeIn K cd5 "brings" = true)
    (k5 : PySem.W.keepIn K (.ref f_brings) = true)
    (a6 : PySem.W.nsIn K mainGlobals "names_behind" = some (some (.ref f_names_behind)))
    (l6 : K.lookup f_names_behind = some ⟨oc6, od6, .func (PySem.W.fnOf "names_behind" "names_behind" (defArgs s_names_behind) (defBody s_names_behind) (defScope s_names_behind) .none kV6 dc6 pm6 an6 cd6 ct6), sl6⟩)
    (c6 : PySem.W.codeIn K cd6 "names_behind" = true)
    (k6 : PySem.W.keepIn K (.ref f_names_behind) = true)
    (a7 : PySem.W.nsIn K mainGlobals "forth" = some (some (.ref f_forth)))
    (l7 : K.lookup f_forth = some ⟨oc7, od7, .func (PySem.W.fnOf "forth" "forth" (defArgs s_forth) (defBody s_forth) (defScope s_forth) .none kV7 dc7 pm7 an7 cd7 ct7), sl7⟩)
    (c7 : PySem.W.codeIn K cd7 "forth" = true)
    (k7 : PySem.W.keepIn K (.ref f_forth) = true)
    (a8 : PySem.W.nsIn K mainGlobals "back" = some (some (.ref f_back)))
    (l8 : K.lookup f_back = some ⟨oc8, od8, .func (PySem.W.fnOf "back" "back" (defArgs s_back) (defBody s_back) (defScope s_back) .none kV8 dc8 pm8 an8 cd8 ct8), sl8⟩)
    (c8 : PySem.W.codeIn K cd8 "back" = true)
    (k8 : PySem.W.keepIn K (.ref f_back) = true)
    (a9 : PySem.W.nsIn K mainGlobals "good_names" = some (some (.ref f_good_names)))
    (l9 : K.lookup f_good_names = some ⟨oc9, od9, .func (PySem.W.fnOf "good_names" "good_names" (defArgs s_good_names) (defBody s_good_names) (defScope s_good_names) .none kV9 dc9 pm9 an9 cd9 ct9), sl9⟩)
    (c9 : PySem.W.codeIn K cd9 "good_names" = true)
    (k9 : PySem.W.keepIn K (.ref f_good_names) = true)
    (a10 : PySem.W.findIn K (.ref C) "__init__" = some (some (.ref f_B_init)))
    (i10 : PySem.W.isFn K (.ref f_B_init) = true)
    (l10 : K.lookup f_B_init = some ⟨oc10, od10, .func (PySem.W.fnOf "__init__" "Book.__init__" (defArgs s_B_init) (defBody s_B_init) (defScope s_B_init) .none kV10 dc10 pm10 an10 cd10 ct10), sl10⟩)
    (c10 : PySem.W.codeIn K cd10 "Book.__init__" = true)
    (k10 : PySem.W.keepIn K (.ref f_B_init) = true)
    (a11 : PySem.W.findIn K (.ref C) "need_form" = some (some (.ref f_B_need_form)))
    (i11 : PySem.W.isFn K (.ref f_B_need_form) = true)
    (l11 : K.lookup f_B_need_form = some ⟨oc11, od11, .func (PySem.W.fnOf "need_form" "Book.need_form" (defArgs s_B_need_form) (defBody s_B_need_form) (defScope s_B_need_form) .none kV11 dc11 pm11 an11 cd11 ct11), sl11⟩)
    (c11 : PySem.W.codeIn K cd11 "Book.need_form" = true)
    (k11 : PySem.W.keepIn K (.ref f_B_need_form) = true)
    (a12 : PySem.W.findIn K (.ref C) "need_record" = some (some (.ref f_B_need_record)))
    (i12 : PySem.W.isFn K (.ref f_B_need_record) = true)
    (l12 : K.lookup f_B_need_record = some ⟨oc12, od12, .func (PySem.W.fnOf "need_record" "Book.need_record" (defArgs s_B_need_record) (defBody s_B_need_record) (defScope s_B_need_record) .none kV12 dc12 pm12 an12 cd12 ct12), sl12⟩)
    (c12 : PySem.W.codeIn K cd12 "Book.need_record" = true)
    (k12 : PySem.W.keepIn K (.ref f_B_need_record) = true)
    (a13 : PySem.W.findIn K (.ref C) "grow" = some (some (.ref f_B_grow)))
    (i13 : PySem.W.isFn K (.ref f_B_grow) = true)
    (l13 : K.lookup f_B_grow = some ⟨oc13, od13, .func (PySem.W.fnOf "grow" "Book.grow" (defArgs s_B_grow) (defBody s_B_grow) (defScope s_B_grow) .none kV13 dc13 pm13 an13 cd13 ct13), sl13⟩)
    (c13 : PySem.W.codeIn K cd13 "Book.grow" = true)
    (k13 : PySem.W.keepIn K (.ref f_B_grow) = true)
    (a14 : PySem.W.findIn K (.ref C) "make" = some (some (.ref f_B_make)))
    (i14 : PySem.W.isFn K (.ref f_B_make) = true)
    (l14 : K.lookup f_B_make = some ⟨oc14, od14, .func (PySem.W.fnOf "make" "Book.make" (defArgs s_B_make) (defBody s_B_make) (defScope s_B_make) .none kV14 dc14 pm14 an14 cd14 ct14), sl14⟩)
    (c14 : PySem.W.codeIn K cd14 "Book.make" = true)
    (k14 : PySem.W.keepIn K (.ref f_B_make) = true)
    (a15 : PySem.W.findIn K (.ref C) "line" = some (some (.ref f_B_line)))
    (i15 : PySem.W.isFn K (.ref f_B_line) = true)
    (l15 : K.lookup f_B_line = some ⟨oc15, od15, .func (PySem.W.fnOf "line" "Book.line" (defArgs s_B_line) (defBody s_B_line) (defScope s_B_line) .none kV15 dc15 pm15 an15 cd15 ct15), sl15⟩)
    (c15 : PySem.W.codeIn K cd15 "Book.line" = true)
    (k15 : PySem.W.keepIn K (.ref f_B_line) = true)
    (a16 : PySem.W.findIn K (.ref C) "own" = some (some (.ref f_B_own)))
    (i16 : PySem.W.isFn K (.ref f_B_own) = true)
    (l16 : K.lookup f_B_own = some ⟨oc16, od16, .func (PySem.W.fnOf "own" "Book.own" (defArgs s_B_own) (defBody s_B_own) (defScope s_B_own) .none kV16 dc16 pm16 an16 cd16 ct16), sl16⟩)
    (c16 : PySem.W.codeIn K cd16 "Book.own" = true)
    (k16 : PySem.W.keepIn K (.ref f_B_own) = true)
    (a17 : PySem.W.findIn K (.ref C) "readings" = some (some (.ref f_B_readings)))
    (i17 : PySem.W.isFn K (.ref f_B_readings) = true)
    (l17 : K.lookup f_B_readings = some ⟨oc17, od17, .func (PySem.W.fnOf "readings" "Book.readings" (defArgs s_B_readings) (defBody s_B_readings) (defScope s_B_readings) .none kV17 dc17 pm17 an17 cd17 ct17), sl17⟩)
    (c17 : PySem.W.codeIn K cd17 "Book.readings" = true)
    (k17 : PySem.W.keepIn K (.ref f_B_readings) = true)
    (a18 : PySem.W.findIn K (.ref C) "reading" = some (some (.ref f_B_reading)))
    (i18 : PySem.W.isFn K (.ref f_B_reading) = true)
    (l18 : K.lookup f_B_reading = some ⟨oc18, od18, .func (PySem.W.fnOf "reading" "Book.reading" (defArgs s_B_reading) (defBody s_B_reading) (defScope s_B_reading) .none kV18 dc18 pm18 an18 cd18 ct18), sl18⟩)
    (c18 : PySem.W.codeIn K cd18 "Book.reading" = true)
    (k18 : PySem.W.keepIn K (.ref f_B_reading) = true)
    (a19 : PySem.W.findIn K (.ref C) "all_readings" = some (some (.ref f_B_all_readings)))
    (i19 : PySem.W.isFn K (.ref f_B_all_readings) = true)
    (l19 : K.lookup f_B_all_readings = some ⟨oc19, od19, .func (PySem.W.fnOf "all_readings" "Book.all_readings" (defArgs s_B_all_readings) (defBody s_B_all_readings) (defScope s_B_all_readings) .none kV19 dc19 pm19 an19 cd19 ct19), sl19⟩)
    (c19 : PySem.W.codeIn K cd19 "Book.all_readings" = true)
    (k19 : PySem.W.keepIn K (.ref f_B_all_readings) = true)
    (a20 : PySem.W.findIn K (.ref C) "changed" = some (some (.ref f_B_changed)))
    (i20 : PySem.W.isFn K (.ref f_B_changed) = true)
    (l20 : K.lookup f_B_changed = some ⟨oc20, od20, .func (PySem.W.fnOf "changed" "Book.changed" (defArgs s_B_changed) (defBody s_B_changed) (defScope s_B_changed) .none kV20 dc20 pm20 an20 cd20 ct20), sl20⟩)
    (c20 : PySem.W.codeIn K cd20 "Book.changed" = true)
    (k20 : PySem.W.keepIn K (.ref f_B_changed) = true)
    (a21 : PySem.W.findIn K (.ref C) "change" = some (some (.ref f_B_change)))
    (i21 : PySem.W.isFn K (.ref f_B_change) = true)
    (l21 : K.lookup f_B_change = some ⟨oc21, od21, .func (PySem.W.fnOf "change" "Book.change" (defArgs s_B_change) (defBody s_B_change) (defScope s_B_change) .none kV21 dc21 pm21 an21 cd21 ct21), sl21⟩)
    (c21 : PySem.W.codeIn K cd21 "Book.change" = true)
    (k21 : PySem.W.keepIn K (.ref f_B_change) = true)
    (a22 : PySem.W.nsIn K mainGlobals "_law_cell_at" = some (some (.ref f_l_cell_at)))
    (l22 : K.lookup f_l_cell_at = some ⟨oc22, od22, .func (PySem.W.fnOf "_law_cell_at" "_law_cell_at" (defArgs s_l_cell_at) (defBody s_l_cell_at) (defScope s_l_cell_at) .none kV22 dc22 pm22 an22 cd22 ct22), sl22⟩)
    (c22 : PySem.W.codeIn K cd22 "_law_cell_at" = true)
    (k22 : PySem.W.keepIn K (.ref f_l_cell_at) = true)
    (a23 : PySem.W.nsIn K mainGlobals "_law_pool" = some (some (.ref f_l_pool)))
    (l23 : K.lookup f_l_pool = some ⟨oc23, od23, .func (PySem.W.fnOf "_law_pool" "_law_pool" (defArgs s_l_pool) (defBody s_l_pool) (defScope s_l_pool) .none kV23 dc23 pm23 an23 cd23 ct23), sl23⟩)
    (c23 : PySem.W.codeIn K cd23 "_law_pool" = true)
    (k23 : PySem.W.keepIn K (.ref f_l_pool) = true)
    (a24 : PySem.W.nsIn K mainGlobals "_law_step" = some (some (.ref f_l_step)))
    (l24 : K.lookup f_l_step = some ⟨oc24, od24, .func (PySem.W.fnOf "_law_step" "_law_step" (defArgs s_l_step) (defBody s_l_step) (defScope s_l_step) .none kV24 dc24 pm24 an24 cd24 ct24), sl24⟩)
    (c24 : PySem.W.codeIn K cd24 "_law_step" = true)
    (k24 : PySem.W.keepIn K (.ref f_l_step) = true)
    (a25 : PySem.W.nsIn K mainGlobals "_law_hangs_behind" = some (some (.ref f_l_hangs_behind)))
    (l25 : K.lookup f_l_hangs_behind = some ⟨oc25, od25, .func (PySem.W.fnOf "_law_hangs_behind" "_law_hangs_behind" (defArgs s_l_hangs_behind) (defBody s_l_hangs_behind) (defScope s_l_hangs_behind) .none kV25 dc25 pm25 an25 cd25 ct25), sl25⟩)
    (c25 : PySem.W.codeIn K cd25 "_law_hangs_behind" = true)
    (k25 : PySem.W.keepIn K (.ref f_l_hangs_behind) = true)
    (a26 : PySem.W.nsIn K mainGlobals "_law_books" = some (some (.ref f_l_books)))
    (l26 : K.lookup f_l_books = some ⟨oc26, od26, .func (PySem.W.fnOf "_law_books" "_law_books" (defArgs s_l_books) (defBody s_l_books) (defScope s_l_books) .none kV26 dc26 pm26 an26 cd26 ct26), sl26⟩)
    (c26 : PySem.W.codeIn K cd26 "_law_books" = true)
    (k26 : PySem.W.keepIn K (.ref f_l_books) = true)
    (a27 : PySem.W.nsIn K mainGlobals "_law_all" = some (some (.ref f_l_all)))
    (l27 : K.lookup f_l_all = some ⟨oc27, od27, .func (PySem.W.fnOf "_law_all" "_law_all" (defArgs s_l_all) (defBody s_l_all) (defScope s_l_all) .none kV27 dc27 pm27 an27 cd27 ct27), sl27⟩)
    (c27 : PySem.W.codeIn K cd27 "_law_all" = true)
    (k27 : PySem.W.keepIn K (.ref f_l_all) = true)
    (a28 : PySem.W.nsIn K mainGlobals "_law_number" = some (some (.ref f_l_number)))
    (l28 : K.lookup f_l_number = some ⟨oc28, od28, .func (PySem.W.fnOf "_law_number" "_law_number" (defArgs s_l_number) (defBody s_l_number) (defScope s_l_number) .none kV28 dc28 pm28 an28 cd28 ct28), sl28⟩)
    (c28 : PySem.W.codeIn K cd28 "_law_number" = true)
    (k28 : PySem.W.keepIn K (.ref f_l_number) = true)
    (a29 : PySem.W.nsIn K mainGlobals "_law_first" = some (some (.ref f_l_first)))
    (l29 : K.lookup f_l_first = some ⟨oc29, od29, .func (PySem.W.fnOf "_law_first" "_law_first" (defArgs s_l_first) (defBody s_l_first) (defScope s_l_first) .none kV29 dc29 pm29 an29 cd29 ct29), sl29⟩)
    (c29 : PySem.W.codeIn K cd29 "_law_first" = true)
    (k29 : PySem.W.keepIn K (.ref f_l_first) = true)
    (a30 : PySem.W.nsIn K mainGlobals "_law_numbers" = some (some (.ref f_l_numbers)))
    (l30 : K.lookup f_l_numbers = some ⟨oc30, od30, .func (PySem.W.fnOf "_law_numbers" "_law_numbers" (defArgs s_l_numbers) (defBody s_l_numbers) (defScope s_l_numbers) .none kV30 dc30 pm30 an30 cd30 ct30), sl30⟩)
    (c30 : PySem.W.codeIn K cd30 "_law_numbers" = true)
    (k30 : PySem.W.keepIn K (.ref f_l_numbers) = true)
    (a31 : PySem.W.nsIn K mainGlobals "_law_done" = some (some (.ref f_l_done)))
    (l31 : K.lookup f_l_done = some ⟨oc31, od31, .func (PySem.W.fnOf "_law_done" "_law_done" (defArgs s_l_done) (defBody s_l_done) (defScope s_l_done) .none kV31 dc31 pm31 an31 cd31 ct31), sl31⟩)
    (c31 : PySem.W.codeIn K cd31 "_law_done" = true)
    (k31 : PySem.W.keepIn K (.ref f_l_done) = true)
    (a32 : PySem.W.nsIn K mainGlobals "_law_stays" = some (some (.ref f_l_stays)))
    (l32 : K.lookup f_l_stays = some ⟨oc32, od32, .func (PySem.W.fnOf "_law_stays" "_law_stays" (defArgs s_l_stays) (defBody s_l_stays) (defScope s_l_stays) .none kV32 dc32 pm32 an32 cd32 ct32), sl32⟩)
    (c32 : PySem.W.codeIn K cd32 "_law_stays" = true)
    (k32 : PySem.W.keepIn K (.ref f_l_stays) = true)
    (a33 : PySem.W.nsIn K mainGlobals "law" = some (some (.ref f_law)))
    (l33 : K.lookup f_law = some ⟨oc33, od33, .func (PySem.W.fnOf "law" "law" (defArgs s_law) (defBody s_law) (defScope s_law) .none kV33 dc33 pm33 an33 cd33 ct33), sl33⟩)
    (c33 : PySem.W.codeIn K cd33 "law" = true)
    (k33 : PySem.W.keepIn K (.ref f_law) = true)
    (n0 : PySem.W.nsIn K mainGlobals "LETTERS" = some (some (.str "abcdefghijklmnopqrstuvwxyz" t0)))
    (n1 : PySem.W.nsIn K mainGlobals "MOST_LETTERS" = some (some (.int 8 t1)))
    (n2 : PySem.W.nsIn K mainGlobals "MOST_NAMES" = some (some (.int 12 t2)))
    (n3 : PySem.W.nsIn K mainGlobals "MOST_SIZE" = some (some (.int 1000000 t3)))
    (n4 : PySem.W.nsIn K mainGlobals "MOST_FORMS" = some (some (.int 30 t4)))
    (z0 : PySem.W.nsIn K mainGlobals "bool" = some none)
    (z1 : PySem.W.nsIn K mainGlobals "dict" = some none)
    (z2 : PySem.W.nsIn K mainGlobals "int" = some none)
    (z3 : PySem.W.nsIn K mainGlobals "isinstance" = some none)
    (z4 : PySem.W.nsIn K mainGlobals "len" = some none)
    (z5 : PySem.W.nsIn K mainGlobals "list" = some none)
    (z6 : PySem.W.nsIn K mainGlobals "min" = some none)
    (z7 : PySem.W.nsIn K mainGlobals "range" = some none)
    (z8 : PySem.W.nsIn K mainGlobals "sorted" = some none)
    (z9 : PySem.W.nsIn K mainGlobals "str" = some none)
    (z10 : PySem.W.nsIn K mainGlobals "tuple" = some none)
    : ∃ (C : Addr) (cls : Str → Addr) (fd : FuncData), (∀ (s : Shared) (v : Value), BindsTo s fd ⟨[v], []⟩ [("_law_script", v)]) ∧ ∀ base : Heap, K.In base → base.Ns mainGlobals mg → FnOk l.prog w K mg base (L2.CX l.prog w) 8 fa fd ["_law_script"] (spD K C cls 1 p_law) := by
  have e := hfa.symm.trans (PySem.W.mg_of X G a33)
  cases e
  generalize hcls : (clsL [("NoField", ax_NoField), ("Taken", ax_Taken), ("BadForm", ax_BadForm), ("BadName", ax_BadName), ("BadNumber", ax_BadNumber), ("BadStep", ax_BadStep), ("NoForm", ax_NoForm), ("NoRecord", ax_NoRecord), ("TooMany", ax_TooMany)]) = cls
  have hc_NoField : cls "NoField" = ax_NoField := by subst hcls; rfl
  have hc_Taken : cls "Taken" = ax_Taken := by subst hcls; rfl
  have hc_BadForm : cls "BadForm" = ax_BadForm := by subst hcls; rfl
  have hc_BadName : cls "BadName" = ax_BadName := by subst hcls; rfl
  have hc_BadNumber : cls "BadNumber" = ax_BadNumber := by subst hcls; rfl
  have hc_BadStep : cls "BadStep" = ax_BadStep := by subst hcls; rfl
  have hc_NoForm : cls "NoForm" = ax_NoForm := by subst hcls; rfl
  have hc_NoRecord : cls "NoRecord" = ax_NoRecord := by subst hcls; rfl
  have hc_TooMany : cls "TooMany" = ax_TooMany := by subst hcls; rfl
  have T : Tp K mg C cls t0 t1 t2 t3 t4 f_is_name f_is_number f_is_size f_is_step f_begins_from f_brings f_names_behind f_forth f_back f_good_names f_B_init f_B_need_form f_B_need_record f_B_grow f_B_make f_B_line f_B_own f_B_readings f_B_reading f_B_all_readings f_B_changed f_B_change f_l_cell_at f_l_pool f_l_step f_l_hangs_behind f_l_books f_l_all f_l_number f_l_first f_l_numbers f_l_done f_l_stays fa := ⟨PySem.W.mg_of X G n0, PySem.W.mg_of X G n1, PySem.W.mg_of X G n2, PySem.W.mg_of X G n3, PySem.W.mg_of X G n4, PySem.W.mg_none_of X G z0, PySem.W.mg_none_of X G z1, PySem.W.mg_none_of X G z2, PySem.W.mg_none_of X G z3, PySem.W.mg_none_of X G z4, PySem.W.mg_none_of X G z5, PySem.W.mg_none_of X G z6, PySem.W.mg_none_of X G z7, PySem.W.mg_none_of X G z8, PySem.W.mg_none_of X G z9, PySem.W.mg_none_of X G z10, PySem.W.mg_of X G a0, k0, PySem.W.mg_of X G a1, k1, PySem.W.mg_of X G a2, k2, PySem.W.mg_of X G a3, k3, PySem.W.mg_of X G a4, k4, PySem.W.mg_of X G a5, k5, PySem.W.mg_of X G a6, k6, PySem.W.mg_of X G a7, k7, PySem.W.mg_of X G a8, k8, PySem.W.mg_of X G a9, k9, ⟨mk, a10, i10, kc⟩, ⟨a11, i11, k11⟩, ⟨a12, i12, k12⟩, ⟨a13, i13, k13⟩, ⟨a14, i14, k14⟩, ⟨a15, i15, k15⟩, ⟨a16, i16, k16⟩, ⟨a17, i17, k17⟩, ⟨a18, i18, k18⟩, ⟨a19, i19, k19⟩, ⟨a20, i20, k20⟩, ⟨a21, i21, k21⟩, PySem.W.mg_of X G a22, k22, PySem.W.mg_of X G a23, k23, PySem.W.mg_of X G a24, k24, PySem.W.mg_of X G a25, k25, PySem.W.mg_of X G a26, k26, PySem.W.mg_of X G a27, k27, PySem.W.mg_of X G a28, k28, PySem.W.mg_of X G a29, k29, PySem.W.mg_of X G a30, k30, PySem.W.mg_of X G a31, k31, PySem.W.mg_of X G a32, k32, PySem.W.mg_of X G a33, k33, ⟨pg, hd, po, sa⟩, nf_elders, nf_kept, nf_lists, nf_owns, nf_ways, PySem.W.mg_of X G aC, xcf_mk hc_NoField (PySem.W.mg_of X G e_NoField) eq_NoField ek_NoField eb_NoField et_NoField, xcf_mk hc_Taken (PySem.W.mg_of X G e_Taken) eq_Taken ek_Taken eb_Taken et_Taken, xcf_mk hc_BadForm (PySem.W.mg_of X G e_BadForm) eq_BadForm ek_BadForm eb_BadForm et_BadForm, xcf_mk hc_BadName (PySem.W.mg_of X G e_BadName) eq_BadName ek_BadName eb_BadName et_BadName, xcf_mk hc_BadNumber (PySem.W.mg_of X G e_BadNumber) eq_BadNumber ek_BadNumber eb_BadNumber et_BadNumber, mgc_mk hc_BadNumber (PySem.W.mg_of X G e_BadNumber), (ns_cons (exm_mk hc_BadNumber hc_BadNumber eb_BadNumber eh_BadNumber et_BadNumber es_BadNumber_BadNumber (by decide)) ns_nil), xcf_mk hc_BadStep (PySem.W.mg_of X G e_BadStep) eq_BadStep ek_BadStep eb_BadStep et_BadStep, xcf_mk hc_NoForm (PySem.W.mg_of X G e_NoForm) eq_NoForm ek_NoForm eb_NoForm et_NoForm, xcf_mk hc_NoRecord (PySem.W.mg_of X G e_NoRecord) eq_NoRecord ek_NoRecord eb_NoRecord et_NoRecord, xcf_mk hc_TooMany (PySem.W.mg_of X G e_TooMany) eq_TooMany ek_TooMany eb_TooMany et_TooMany⟩
  have F0 := fun_mk (st := s_is_name) l0 c0 k0
  have B0 := F0.binds (ps := ["thing"]) fun _ _ _ _ _ _ us hl => match us, hl with | [_], _ => rfl
  have F1 := fun_mk (st := s_is_number) l1 c1 k1
  have B1 := F1.binds (ps := ["thing"]) fun _ _ _ _ _ _ us hl => match us, hl with | [_], _ => rfl
  have F2 := fun_mk (st := s_is_size) l2 c2 k2
  have B2 := F2.binds (ps := ["thing"]) fun _ _ _ _ _ _ us hl => match us, hl with | [_], _ => rfl
  have F3 := fun_mk (st := s_is_step) l3 c3 k3
  have B3 := F3.binds (ps := ["thing"]) fun _ _ _ _ _ _ us hl => match us, hl with | [_], _ => rfl
  have F4 := fun_mk (st := s_begins_from) l4 c4 k4
  have B4 := F4.binds (ps := ["step"]) fun _ _ _ _ _ _ us hl => match us, hl with | [_], _ => rfl
  have F5 := fun_mk (st := s_brings) l5 c5 k5
  have B5 := F5.binds (ps := ["step"]) fun _ _ _ _ _ _ us hl => match us, hl with | [_], _ => rfl
  have F6 := fun_mk (st := s_names_behind) l6 c6 k6
  have B6 := F6.binds (ps := ["step", "names"]) fun _ _ _ _ _ _ us hl => match us, hl with | [_, _], _ => rfl
  have F7 := fun_mk (st := s_forth) l7 c7 k7
  have B7 := F7.binds (ps := ["step", "reading", "own"]) fun _ _ _ _ _ _ us hl => match us, hl with | [_, _, _], _ => rfl
  have F8 := fun_mk (st := s_back) l8 c8 k8
  have B8 := F8.binds (ps := ["step", "reading", "elder"]) fun _ _ _ _ _ _ us hl => match us, hl with | [_, _, _], _ => rfl
  have F9 := fun_mk (st := s_good_names) l9 c9 k9
  have B9 := F9.binds (ps := ["names"]) fun _ _ _ _ _ _ us hl => match us, hl with | [_], _ => rfl
  have F10 := fun_mk (st := s_B_init) l10 c10 k10
  have B10 := F10.binds (ps := ["self", "names"]) fun _ _ _ _ _ _ us hl => match us, hl with | [_, _], _ => rfl
  have F11 := fun_mk (st := s_B_need_form) l11 c11 k11
  have B11 := F11.binds (ps := ["self", "form"]) fun _ _ _ _ _ _ us hl => match us, hl with | [_, _], _ => rfl
  have F12 := fun_mk (st := s_B_need_record) l12 c12 k12
  have B12 := F12.binds (ps := ["self", "record"]) fun _ _ _ _ _ _ us hl => match us, hl with | [_, _], _ => rfl
  have F13 := fun_mk (st := s_B_grow) l13 c13 k13
  have B13 := F13.binds (ps := ["self", "form", "step"]) fun _ _ _ _ _ _ us hl => match us, hl with | [_, _, _], _ => rfl
  have F14 := fun_mk (st := s_B_make) l14 c14 k14
  have B14 := F14.binds (ps := ["self"]) fun _ _ _ _ _ _ us hl => match us, hl with | [_], _ => rfl
  have F15 := fun_mk (st := s_B_line) l15 c15 k15
  have B15 := F15.binds (ps := ["self", "form"]) fun _ _ _ _ _ _ us hl => match us, hl with | [_, _], _ => rfl
  have F16 := fun_mk (st := s_B_own) l16 c16 k16
  have B16 := F16.binds (ps := ["self", "record", "form"]) fun _ _ _ _ _ _ us hl => match us, hl with | [_, _, _], _ => rfl
  have F17 := fun_mk (st := s_B_readings) l17 c17 k17
  have B17 := F17.binds (ps := ["self", "record", "form"]) fun _ _ _ _ _ _ us hl => match us, hl with | [_, _, _], _ => rfl
  have F18 := fun_mk (st := s_B_reading) l18 c18 k18
  have B18 := F18.binds (ps := ["self", "record", "form"]) fun _ _ _ _ _ _ us hl => match us, hl with | [_, _, _], _ => rfl
  have F19 := fun_mk (st := s_B_all_readings) l19 c19 k19
  have B19 := F19.binds (ps := ["self", "record"]) fun _ _ _ _ _ _ us hl => match us, hl with | [_, _], _ => rfl
  have F20 := fun_mk (st := s_B_changed) l20 c20 k20
  have B20 := F20.binds (ps := ["self", "record", "form", "numbers"]) fun _ _ _ _ _ _ us hl => match us, hl with | [_, _, _, _], _ => rfl
  have F21 := fun_mk (st := s_B_change) l21 c21 k21
  have B21 := F21.binds (ps := ["self", "record", "form", "numbers"]) fun _ _ _ _ _ _ us hl => match us, hl with | [_, _, _, _], _ => rfl
  have F22 := fun_mk (st := s_l_cell_at) l22 c22 k22
  have B22 := F22.binds (ps := ["_law_script", "_law_k"]) fun _ _ _ _ _ _ us hl => match us, hl with | [_, _], _ => rfl
  have F23 := fun_mk (st := s_l_pool) l23 c23 k23
  have B23 := F23.binds (ps := ["_law_cell"]) fun _ _ _ _ _ _ us hl => match us, hl with | [_], _ => rfl
  have F24 := fun_mk (st := s_l_step) l24 c24 k24
  have B24 := F24.binds (ps := ["_law_cell", "_law_more", "_law_pool_here", "_law_names"]) fun _ _ _ _ _ _ us hl => match us, hl with | [_, _, _, _], _ => rfl
  have F25 := fun_mk (st := s_l_hangs_behind) l25 c25 k25
  have B25 := F25.binds (ps := ["_law_step_here", "_law_hangs", "_law_form"]) fun _ _ _ _ _ _ us hl => match us, hl with | [_, _, _], _ => rfl
  have F26 := fun_mk (st := s_l_books) l26 c26 k26
  have B26 := F26.binds (ps := ["_law_script", "_law_book", "_law_names", "_law_pool_here"]) fun _ _ _ _ _ _ us hl => match us, hl with | [_, _, _, _], _ => rfl
  have F27 := fun_mk (st := s_l_all) l27 c27 k27
  have B27 := F27.binds (ps := ["_law_book", "_law_record", "_law_many"]) fun _ _ _ _ _ _ us hl => match us, hl with | [_, _, _], _ => rfl
  have F28 := fun_mk (st := s_l_number) l28 c28 k28
  have B28 := F28.binds (ps := ["_law_cell", "_law_k"]) fun _ _ _ _ _ _ us hl => match us, hl with | [_, _], _ => rfl
  have F29 := fun_mk (st := s_l_first) l29 c29 k29
  have B29 := F29.binds (ps := ["_law_names", "_law_cell"]) fun _ _ _ _ _ _ us hl => match us, hl with | [_, _], _ => rfl
  have F30 := fun_mk (st := s_l_numbers) l30 c30 k30
  have B30 := F30.binds (ps := ["_law_book", "_law_names", "_law_form", "_law_cells"]) fun _ _ _ _ _ _ us hl => match us, hl with | [_, _, _, _], _ => rfl
  have F31 := fun_mk (st := s_l_done) l31 c31 k31
  have B31 := F31.binds (ps := ["_law_book", "_law_form", "_law_numbers_here"]) fun _ _ _ _ _ _ us hl => match us, hl with | [_, _, _], _ => rfl
  have F32 := fun_mk (st := s_l_stays) l32 c32 k32
  have B32 := F32.binds (ps := ["_law_hangs", "_law_touched", "_law_before", "_law_after"]) fun _ _ _ _ _ _ us hl => match us, hl with | [_, _, _, _], _ => rfl
  have F33 := fun_mk (st := s_law) l33 c33 k33
  have B33 := F33.binds (ps := ["_law_script"]) fun _ _ _ _ _ _ us hl => match us, hl with | [_], _ => rfl
  refine ⟨C, cls, PySem.W.fnOf "law" "law" (defArgs s_law) (defBody s_law) (defScope s_law) .none kV33 dc33 pm33 an33 cd33 ct33, fun s v => .of_eq rfl, fun base _ _ => ?_⟩
  have D0 : Dfn l.prog w K mg base C cls 1 f_is_name ["thing"] p_is_name := dfnA F0 sc_is_name B0 (d_is_name T )
  have D1 : Dfn l.prog w K mg base C cls 1 f_is_number ["thing"] p_is_number := dfnA F1 sc_is_number B1 (d_is_number T )
  have D2 : Dfn l.prog w K mg base C cls 2 f_is_size ["thing"] p_is_size := dfnA F2 sc_is_size B2 (d_is_size T D1)
  have D3 : Dfn l.prog w K mg base C cls 3 f_is_step ["thing"] p_is_step := dfnA F3 sc_is_step B3 (d_is_step T D0 D1 D2)
  have D4 : Dfn l.prog w K mg base C cls 1 f_begins_from ["step"] p_begins_from := dfnA F4 sc_begins_from B4 (d_begins_from T )
  have D5 : Dfn l.prog w K mg base C cls 1 f_brings ["step"] p_brings := dfnA F5 sc_brings B5 (d_brings T )
  have D6 : Dfn l.prog w K mg base C cls 2 f_names_behind ["step", "names"] p_names_behind := dfnA F6 sc_names_behind B6 (d_names_behind T D4 D5)
  have D7 : Dfn l.prog w K mg base C cls 2 f_forth ["step", "reading", "own"] p_forth := dfnA F7 sc_forth B7 (d_forth T D4)
  have D8 : Dfn l.prog w K mg base C cls 2 f_back ["step", "reading", "elder"] p_back := dfnA F8 sc_back B8 (d_back T D5)
  have D9 : Dfn l.prog w K mg base C cls 2 f_good_names ["names"] p_good_names := dfnA F9 sc_good_names B9 (d_good_names T D0)
  have D10 : Dfn l.prog w K mg base C cls 3 f_B_init ["self", "names"] p_B_init := dfnB F10 sc_B_init B10 (d_B_init T D9)
  have D11 : Dfn l.prog w K mg base C cls 2 f_B_need_form ["self", "form"] p_B_need_form := dfnA F11 sc_B_need_form B11 (d_B_need_form T D1)
  have D12 : Dfn l.prog w K mg base C cls 2 f_B_need_record ["self", "record"] p_B_need_record := dfnA F12 sc_B_need_record B12 (d_B_need_record T D1)
  have D13 : Dfn l.prog w K mg base C cls 4 f_B_grow ["self", "form", "step"] p_B_grow := dfnA F13 sc_B_grow B13 (d_B_grow T D11 D3 D6)
  have D14 : Dfn l.prog w K mg base C cls 1 f_B_make ["self"] p_B_make := dfnA F14 sc_B_make B14 (d_B_make T )
  have D15 : Dfn l.prog w K mg base C cls 1 f_B_line ["self", "form"] p_B_line := dfnA F15 sc_B_line B15 (d_B_line T )
  have D16 : Dfn l.prog w K mg base C cls 1 f_B_own ["self", "record", "form"] p_B_own := dfnA F16 sc_B_own B16 (d_B_own T )
  have D17 : Dfn l.prog w K mg base C cls 3 f_B_readings ["self", "record", "form"] p_B_readings := dfnB F17 sc_B_readings B17 (d_B_readings T D15 D16 D7)
  have D18 : Dfn l.prog w K mg base C cls 4 f_B_reading ["self", "record", "form"] p_B_reading := dfnA F18 sc_B_reading B18 (d_B_reading T D11 D12 D17)
  have D19 : Dfn l.prog w K mg base C cls 3 f_B_all_readings ["self", "record"] p_B_all_readings := dfnA F19 sc_B_all_readings B19 (d_B_all_readings T D16 D7)
  have D20 : Dfn l.prog w K mg base C cls 5 f_B_changed ["self", "record", "form", "numbers"] p_B_changed := dfnA F20 sc_B_changed B20 (d_B_changed T D18 D1)
  have D21 : Dfn l.prog w K mg base C cls 6 f_B_change ["self", "record", "form", "numbers"] p_B_change := dfnA F21 sc_B_change B21 (d_B_change T D19 D20 D15 D17 D8)
  have D22 : Dfn l.prog w K mg base C cls 1 f_l_cell_at ["_law_script", "_law_k"] p_l_cell_at := dfnA F22 sc_l_cell_at B22 (d_l_cell_at T )
  have D23 : Dfn l.prog w K mg base C cls 1 f_l_pool ["_law_cell"] p_l_pool := dfnA F23 sc_l_pool B23 (d_l_pool T )
  have D24 : Dfn l.prog w K mg base C cls 1 f_l_step ["_law_cell", "_law_more", "_law_pool_here", "_law_names"] p_l_step := dfnA F24 sc_l_step B24 (d_l_step T )
  have D25 : Dfn l.prog w K mg base C cls 1 f_l_hangs_behind ["_law_step_here", "_law_hangs", "_law_form"] p_l_hangs_behind := dfnA F25 sc_l_hangs_behind B25 (d_l_hangs_behind T )
  have D26 : Dfn l.prog w K mg base C cls 5 f_l_books ["_law_script", "_law_book", "_law_names", "_law_pool_here"] p_l_books := dfnA F26 sc_l_books B26 (d_l_books T D13 D25 D24)
  have D27 : Dfn l.prog w K mg base C cls 5 f_l_all ["_law_book", "_law_record", "_law_many"] p_l_all := dfnA F27 sc_l_all B27 (d_l_all T D18)
  have D28 : Dfn l.prog w K mg base C cls 1 f_l_number ["_law_cell", "_law_k"] p_l_number := dfnA F28 sc_l_number B28 (d_l_number T )
  have D29 : Dfn l.prog w K mg base C cls 2 f_l_first ["_law_names", "_law_cell"] p_l_first := dfnA F29 sc_l_first B29 (d_l_first T D28)
  have D30 : Dfn l.prog w K mg base C cls 7 f_l_numbers ["_law_book", "_law_names", "_law_form", "_law_cells"] p_l_numbers := dfnA F30 sc_l_numbers B30 (d_l_numbers T D21 D18 D29 D28)
  have D31 : Dfn l.prog w K mg base C cls 7 f_l_done ["_law_book", "_law_form", "_law_numbers_here"] p_l_done := dfnA F31 sc_l_done B31 (d_l_done T D21)
  have D32 : Dfn l.prog w K mg base C cls 1 f_l_stays ["_law_hangs", "_law_touched", "_law_before", "_law_after"] p_l_stays := dfnA F32 sc_l_stays B32 (d_l_stays T )
  exact fnA F33 sc_law (d_law T D10 D21 D14 D27 D26 D22 D31 D29 D30 D23 D32)
end
end K13

open PySem PySem.W PyProof.Rows
set_option maxRecDepth 100000 in
set_option maxHeartbeats 0 in
theorem PySem.Challenge.cw_formlens_k13_whole_unknown_stays_holds : PySem.Challenge.rw_formlens_k13_whole_unknown_stays.Holds := by
  w_on; o_law; k_head; (case hw => w_witness2)
  k_fill
  refine Fm.walk_law (l := PySem.Challenge.rw_formlens_k13_whole_unknown_stays) (psi := K13.p_law) (x := "_law_script") (k := 8) ⟨rfl, by decide, by decide⟩ rfl rfl (fun w h Y => PySem.W.kIn_of Y) K13.law_ok ?F
  case F =>
    intro w mg fa h KX G hmg
    refine' K13.all_mk KX G hmg ?aC ?pg ?hd ?po ?sa ?mk ?kc ?nf_elders ?nf_kept ?nf_lists ?nf_owns ?nf_ways ?e_NoField ?eb_NoField ?et_NoField ?eq_NoField ?ek_NoField ?e_Taken ?eb_Taken ?et_Taken ?eq_Taken ?ek_Taken ?e_BadForm ?eb_BadForm ?et_BadForm ?eq_BadForm ?ek_BadForm ?e_BadName ?eb_BadName ?et_BadName ?eq_BadName ?ek_BadName ?e_BadNumber ?eb_BadNumber ?et_BadNumber ?eq_BadNumber ?ek_BadNumber ?eh_BadNumber ?e_BadStep ?eb_BadStep ?et_BadStep ?eq_BadStep ?ek_BadStep ?e_NoForm ?eb_NoForm ?et_NoForm ?eq_NoForm ?ek_NoForm ?e_NoRecord ?eb_NoRecord ?et_NoRecord ?eq_NoRecord ?ek_NoRecord ?e_TooMany ?eb_TooMany ?et_TooMany ?eq_TooMany ?ek_TooMany ?es_BadNumber_BadNumber ?a0 ?l0 ?c0 ?k0 ?a1 ?l1 ?c1 ?k1 ?a2 ?l2 ?c2 ?k2 ?a3 ?l3 ?c3 ?k3 ?a4 ?l4 ?c4 ?k4 ?a5 ?l5 ?c5 ?k5 ?a6 ?l6 ?c6 ?k6 ?a7 ?l7 ?c7 ?k7 ?a8 ?l8 ?c8 ?k8 ?a9 ?l9 ?c9 ?k9 ?a10 ?i10 ?l10 ?c10 ?k10 ?a11 ?i11 ?l11 ?c11 ?k11 ?a12 ?i12 ?l12 ?c12 ?k12 ?a13 ?i13 ?l13 ?c13 ?k13 ?a14 ?i14 ?l14 ?c14 ?k14 ?a15 ?i15 ?l15 ?c15 ?k15 ?a16 ?i16 ?l16 ?c16 ?k16 ?a17 ?i17 ?l17 ?c17 ?k17 ?a18 ?i18 ?l18 ?c18 ?k18 ?a19 ?i19 ?l19 ?c19 ?k19 ?a20 ?i20 ?l20 ?c20 ?k20 ?a21 ?i21 ?l21 ?c21 ?k21 ?a22 ?l22 ?c22 ?k22 ?a23 ?l23 ?c23 ?k23 ?a24 ?l24 ?c24 ?k24 ?a25 ?l25 ?c25 ?k25 ?a26 ?l26 ?c26 ?k26 ?a27 ?l27 ?c27 ?k27 ?a28 ?l28 ?c28 ?k28 ?a29 ?l29 ?c29 ?k29 ?a30 ?l30 ?c30 ?k30 ?a31 ?l31 ?c31 ?k31 ?a32 ?l32 ?c32 ?k32 ?a33 ?l33 ?c33 ?k33 ?n0 ?n1 ?n2 ?n3 ?n4 ?z0 ?z1 ?z2 ?z3 ?z4 ?z5 ?z6 ?z7 ?z8 ?z9 ?z10
    (case aC => k_is); (case pg => k_is); (case hd => k_is); (case po => k_is); (case sa => k_is); (case mk => k_is); (case kc => k_is); (case nf_elders => k_is); (case nf_kept => k_is); (case nf_lists => k_is); (case nf_owns => k_is); (case nf_ways => k_is); (case e_NoField => k_is); (case eb_NoField => k_is); (case et_NoField => k_is); (case eq_NoField => k_exc); (case ek_NoField => k_is); (case e_Taken => k_is); (case eb_Taken => k_is); (case et_Taken => k_is); (case eq_Taken => k_exc); (case ek_Taken => k_is); (case e_BadForm => k_is); (case eb_BadForm => k_is); (case et_BadForm => k_is); (case eq_BadForm => k_exc); (case ek_BadForm => k_is); (case e_BadName => k_is); (case eb_BadName => k_is); (case et_BadName => k_is); (case eq_BadName => k_exc); (case ek_BadName => k_is); (case e_BadNumber => k_is); (case eb_BadNumber => k_is); (case et_BadNumber => k_is); (case eq_BadNumber => k_exc); (case ek_BadNumber => k_is); (case eh_BadNumber => k_is); (case e_BadStep => k_is); (case eb_BadStep => k_is); (case et_BadStep => k_is); (case eq_BadStep => k_exc); (case ek_BadStep => k_is); (case e_NoForm => k_is); (case eb_NoForm => k_is); (case et_NoForm => k_is); (case eq_NoForm => k_exc); (case ek_NoForm => k_is); (case e_NoRecord => k_is); (case eb_NoRecord => k_is); (case et_NoRecord => k_is); (case eq_NoRecord => k_exc); (case ek_NoRecord => k_is); (case e_TooMany => k_is); (case eb_TooMany => k_is); (case et_TooMany => k_is); (case eq_TooMany => k_exc); (case ek_TooMany => k_is); (case es_BadNumber_BadNumber => k_is); (case a0 => k_is); (case l0 => k_is); (case c0 => k_is); (case k0 => k_is); (case a1 => k_is); (case l1 => k_is); (case c1 => k_is); (case k1 => k_is); (case a2 => k_is); (case l2 => k_is); (case c2 => k_is); (case k2 => k_is); (case a3 => k_is); (case l3 => k_is); (case c3 => k_is); (case k3 => k_is); (case a4 => k_is); (case l4 => k_is); (case c4 => k_is); (case k4 => k_is); (case a5 => k_is); (case l5 => k_is); (case c5 => k_is); (case k5 => k_is); (case a6 => k_is); (case l6 => k_is); (case c6 => k_is); (case k6 => k_is); (case a7 => k_is); (case l7 => k_is); (case c7 => k_is); (case k7 => k_is); (case a8 => k_is); (case l8 => k_is); (case c8 => k_is); (case k8 => k_is); (case a9 => k_is); (case l9 => k_is); (case c9 => k_is); (case k9 => k_is); (case a10 => k_is); (case i10 => k_is); (case l10 => k_is); (case c10 => k_is); (case k10 => k_is); (case a11 => k_is); (case i11 => k_is); (case l11 => k_is); (case c11 => k_is); (case k11 => k_is); (case a12 => k_is); (case i12 => k_is); (case l12 => k_is); (case c12 => k_is); (case k12 => k_is); (case a13 => k_is); (case i13 => k_is); (case l13 => k_is); (case c13 => k_is); (case k13 => k_is); (case a14 => k_is); (case i14 => k_is); (case l14 => k_is); (case c14 => k_is); (case k14 => k_is); (case a15 => k_is); (case i15 => k_is); (case l15 => k_is); (case c15 => k_is); (case k15 => k_is); (case a16 => k_is); (case i16 => k_is); (case l16 => k_is); (case c16 => k_is); (case k16 => k_is); (case a17 => k_is); (case i17 => k_is); (case l17 => k_is); (case c17 => k_is); (case k17 => k_is); (case a18 => k_is); (case i18 => k_is); (case l18 => k_is); (case c18 => k_is); (case k18 => k_is); (case a19 => k_is); (case i19 => k_is); (case l19 => k_is); (case c19 => k_is); (case k19 => k_is); (case a20 => k_is); (case i20 => k_is); (case l20 => k_is); (case c20 => k_is); (case k20 => k_is); (case a21 => k_is); (case i21 => k_is); (case l21 => k_is); (case c21 => k_is); (case k21 => k_is); (case a22 => k_is); (case l22 => k_is); (case c22 => k_is); (case k22 => k_is); (case a23 => k_is); (case l23 => k_is); (case c23 => k_is); (case k23 => k_is); (case a24 => k_is); (case l24 => k_is); (case c24 => k_is); (case k24 => k_is); (case a25 => k_is); (case l25 => k_is); (case c25 => k_is); (case k25 => k_is); (case a26 => k_is); (case l26 => k_is); (case c26 => k_is); (case k26 => k_is); (case a27 => k_is); (case l27 => k_is); (case c27 => k_is); (case k27 => k_is); (case a28 => k_is); (case l28 => k_is); (case c28 => k_is); (case k28 => k_is); (case a29 => k_is); (case l29 => k_is); (case c29 => k_is); (case k29 => k_is); (case a30 => k_is); (case l30 => k_is); (case c30 => k_is); (case k30 => k_is); (case a31 => k_is); (case l31 => k_is); (case c31 => k_is); (case k31 => k_is); (case a32 => k_is); (case l32 => k_is); (case c32 => k_is); (case k32 => k_is); (case a33 => k_is); (case l33 => k_is); (case c33 => k_is); (case k33 => k_is); (case n0 => k_is); (case n1 => k_is); (case n2 => k_is); (case n3 => k_is); (case n4 => k_is); (case z0 => k_is); (case z1 => k_is); (case z2 => k_is); (case z3 => k_is); (case z4 => k_is); (case z5 => k_is); (case z6 => k_is); (case z7 => k_is); (case z8 => k_is); (case z9 => k_is); (case z10 => k_is)
