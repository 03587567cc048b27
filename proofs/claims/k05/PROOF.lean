import PyProof.Rows.All
import Wide.All
import OpenK.AllK
import Wide.FinOn
import HandS.ForMost
import HandS.ForExc
import HandS.Wide
import HandS.More
import HandS.Conv
import HandS.IsInst
import HandS.ExcIs
import HandS.TryMany
import HandS.DictEq
import HandS.DeepEq
import HandS.Style
import HandS.Small
import HandS.StrMore
import HandS.HotCalls
import HandS.Finally
import PySem.Challenge.RW_formlens_k05_back_twice
set_option Elab.async false
set_option maxRecDepth 100000
set_option linter.all false
/-! FA: the data, the interpreter's combinators. -/
namespace Fm
open PySem L2

/-- data that nobody changes any more -/
inductive F where
  | non | bl (b : Bool) | int (i : Int) | str (x : Str)
  | lst (xs : List F) | tup (xs : List F) | dct (kvs : List (Key × F))
  /-- the script -/
  | scr (ns : List Int)
  deriving Inhabited
/-- a value: data, the k-th cell, the object that slot i owns, a caught error of a class -/
inductive W where
  | f (x : F) | c (k : Nat) | o (i : Nat) | x (c : Str)
/-- what stands in a cell -/
inductive Ct where
  | lst (xs : List F) | dct (kvs : List (Key × F)) | ins (fs : List (Str × Nat))
inductive Sl where
  | no | v (w : W) | own (c : Ct)
structure Sto where
  O : List Ct
  lk : List W
inductive Y where
  | w (x : W) | fr (c : Ct)
inductive R (α : Type) where
  | ok (a : α) (s : Sto) | exc (c : Str) (s : Sto) | bad
abbrev M := List Sl → Sto → R Y
inductive RS where
  | nx (sl : List Sl) (s : Sto) | rt (y : Y) (s : Sto) | bk (sl : List Sl) (s : Sto) | ct (sl : List Sl) (s : Sto) | exc (c : Str) (sl : List Sl) (s : Sto) | bad
abbrev MS := List Sl → Sto → RS

def R.bind {α β : Type} (r : R α) (k : α → Sto → R β) : R β := match r with
  | .ok a s => k a s
  | .exc c s => .exc c s
  | .bad => .bad
@[simp] theorem R.bind_ok {α β : Type} (a : α) (s : Sto) (k : α → Sto → R β) : (R.ok a s).bind k = k a s := rfl
@[simp] theorem R.bind_exc {α β : Type} (c : Str) (s : Sto) (k : α → Sto → R β) : (R.exc c s : R α).bind k = .exc c s := rfl
@[simp] theorem R.bind_bad {α β : Type} (k : α → Sto → R β) : (R.bad : R α).bind k = .bad := rfl

@[simp] def Ct.toF : Ct → F
  | .lst xs => .lst xs
  | .dct kvs => .dct kvs
  | .ins _ => .non
/-- frozen -/
@[simp] def frz : Y → W
  | .w x => x
  | .fr c => .f c.toF
/-- what is to be read of a value now -/
@[simp] def pk (sl : List Sl) (s : Sto) : W → Option F
  | .f x => some x
  | .c k => match s.O[k]? with
    | some (.lst xs) => some (.lst xs)
    | some (.dct kvs) => some (.dct kvs)
    | _ => none
  | .o i => match sl[i]? with
    | some (.own (.lst xs)) => some (.lst xs)
    | some (.own (.dct kvs)) => some (.dct kvs)
    | _ => none
  | .x _ => none

/-- an operation's answer: a value that is there (or a flat one), a new object, a new tuple -/
inductive Op where
  | val (x : F) | new (c : Ct) | ntup (xs : List F) | bad
@[simp] def Op.res (s : Sto) : Op → R Y
  | .val x => .ok (.w (.f x)) s
  | .new (.lst xs) => .ok (.fr (.lst xs)) s
  | .new (.dct kvs) => .ok (.fr (.dct kvs)) s
  | .new (.ins _) => .bad
  | .ntup xs => .ok (.w (.f (.tup xs))) s
  | .bad => .bad

/-! ### expressions -/
@[simp] def mVar (i : Nat) : M := fun sl s => match sl[i]? with
  | some (.v w) => .ok (.w w) s
  | some (.own _) => .ok (.w (.o i)) s
  | _ => .bad
@[simp] def mC (x : F) : M := fun _ s => .ok (.w (.f x)) s
/-- a value, then more -/
@[simp] def mW (m : M) (k : W → M) : M := fun sl s => (m sl s).bind fun y s1 => k (frz y) sl s1
@[simp] def op1 (f : F → Op) (w : W) : M := fun sl s => match pk sl s w with
  | some x => (f x).res s
  | none => .bad
@[simp] def op2 (f : F → F → Op) (w u : W) : M := fun sl s => match pk sl s w, pk sl s u with
  | some x, some y => (f x y).res s
  | _, _ => .bad
@[simp] def mU (f : F → Op) (a : M) : M := fun sl s => mW a (op1 f) sl s
@[simp] def mB (f : F → F → Op) (a b : M) : M := fun sl s => mW a (fun w => mW b (op2 f w)) sl s
/-- the arguments' values -/
abbrev MA := List Sl → Sto → R (List W)
@[simp] def aNil : MA := fun _ s => .ok [] s
@[simp] def aCons (m : M) (r : MA) : MA := fun sl s => (m sl s).bind fun y s1 => (r sl s1).bind fun ws s2 => .ok (frz y :: ws) s2
@[simp] def pks (sl : List Sl) (s : Sto) : List W → Option (List F)
  | [] => some []
  | w :: ws => match pk sl s w, pks sl s ws with
    | some x, some xs => some (x :: xs)
    | _, _ => none
/-- all of them data -/
@[simp] def fsOf : List W → Option (List F)
  | [] => some []
  | .f x :: ws => match fsOf ws with
    | some xs => some (x :: xs)
    | none => none
  | _ :: _ => none
@[simp] def opN (f : List F → Op) (ws : List W) : M := fun sl s => match pks sl s ws with
  | some xs => (f xs).res s
  | none => .bad
@[simp] def mN (f : List F → Op) (a : MA) : M := fun sl s => (a sl s).bind fun ws s1 => opN f ws sl s1
@[simp] def mLst (a : MA) : M := fun sl s => (a sl s).bind fun ws s1 => match fsOf ws with
  | some xs => if xs.length ≤ sizeLine then .ok (.fr (.lst xs)) s1 else .bad
  | none => .bad
@[simp] def mTup (a : MA) : M := fun sl s => (a sl s).bind fun ws s1 => match fsOf ws with
  | some xs => if xs.length ≤ sizeLine then .ok (.w (.f (.tup xs))) s1 else .bad
  | none => .bad
@[simp] def mAnd (a b : M) : M := fun sl s => (a sl s).bind fun y s1 => match y with
  | .w (.f (.bl true)) => b sl s1
  | .w (.f (.bl false)) => .ok (.w (.f (.bl false))) s1
  | _ => .bad
@[simp] def mOr (a b : M) : M := fun sl s => (a sl s).bind fun y s1 => match y with
  | .w (.f (.bl false)) => b sl s1
  | .w (.f (.bl true)) => .ok (.w (.f (.bl true))) s1
  | _ => .bad
@[simp] def mNot (a : M) : M := fun sl s => (a sl s).bind fun y s1 => match y with
  | .w (.f (.bl b)) => .ok (.w (.f (.bl (!b)))) s1
  | _ => .bad
@[simp] def mIf (t a b : M) : M := fun sl s => (t sl s).bind fun y s1 => match y with
  | .w (.f (.bl true)) => a sl s1
  | .w (.f (.bl false)) => b sl s1
  | _ => .bad
/-- a < b < c -/
@[simp] def mCh (f g : F → F → Op) (a b c : M) : M := fun sl s => mW a (fun w => mW b fun u => fun sl s => (op2 f w u sl s).bind fun y s1 => match y with
  | .w (.f (.bl true)) => mW c (op2 g u) sl s1
  | .w (.f (.bl false)) => .ok (.w (.f (.bl false))) s1
  | _ => .bad) sl s
@[simp] def isN : W → Bool
  | .f .non => true
  | _ => false
@[simp] def mIsN (a : M) : M := fun sl s => mW a (fun w _ s => .ok (.w (.f (.bl (isN w)))) s) sl s
@[simp] def mNotN (a : M) : M := fun sl s => mW a (fun w _ s => .ok (.w (.f (.bl (!isN w)))) s) sl s

/-! ### calls of defs -/
abbrev Psi := List W → Sto → R Y
@[simp] def argOk : W → Bool
  | .f _ => true
  | .c _ => true
  | _ => false
@[simp] def mCall (psi : Psi) (a : MA) : M := fun sl s => (a sl s).bind fun ws s1 => if ws.all argOk then psi ws s1 else .bad

/-! ### statements -/
@[simp] def sSkip : MS := fun sl s => .nx sl s
def RS.andThen (r : RS) (k : MS) : RS := match r with
  | .nx sl s => k sl s
  | r => r
@[simp] theorem RS.andThen_nx (sl : List Sl) (s : Sto) (k : MS) : (RS.nx sl s).andThen k = k sl s := rfl
@[simp] theorem RS.andThen_rt (y : Y) (s : Sto) (k : MS) : (RS.rt y s).andThen k = .rt y s := rfl
@[simp] theorem RS.andThen_bk (sl : List Sl) (s : Sto) (k : MS) : (RS.bk sl s).andThen k = .bk sl s := rfl
@[simp] theorem RS.andThen_ct (sl : List Sl) (s : Sto) (k : MS) : (RS.ct sl s).andThen k = .ct sl s := rfl
@[simp] theorem RS.andThen_exc (c : Str) (sl : List Sl) (s : Sto) (k : MS) : (RS.exc c sl s).andThen k = .exc c sl s := rfl
@[simp] theorem RS.andThen_bad (k : MS) : RS.bad.andThen k = .bad := rfl
@[simp] def sSeq (m1 m2 : MS) : MS := fun sl s => (m1 sl s).andThen m2
/-- an expression, then what is done with its answer -/
def R.st {α : Type} (r : R α) (sl : List Sl) (k : α → Sto → RS) : RS := match r with
  | .ok a s => k a s
  | .exc c s => .exc c sl s
  | .bad => .bad
@[simp] theorem R.st_ok {α : Type} (a : α) (s : Sto) (sl : List Sl) (k : α → Sto → RS) : (R.ok a s).st sl k = k a s := rfl
@[simp] theorem R.st_exc {α : Type} (c : Str) (s : Sto) (sl : List Sl) (k : α → Sto → RS) : (R.exc c s : R α).st sl k = .exc c sl s := rfl
@[simp] theorem R.st_bad {α : Type} (sl : List Sl) (k : α → Sto → RS) : (R.bad : R α).st sl k = .bad := rfl
@[simp] def sIf (t : M) (a b : MS) : MS := fun sl s => (t sl s).st sl fun y s1 => match y with
  | .w (.f (.bl true)) => a sl s1
  | .w (.f (.bl false)) => b sl s1
  | _ => .bad
@[simp] def slotOk : W → Bool
  | .o _ => false
  | _ => true
/-- x = e, a value -/
@[simp] def sSet (i : Nat) (m : M) : MS := fun sl s => (m sl s).st sl fun y s1 => if slotOk (frz y) then .nx (sl.set i (.v (frz y))) s1 else .bad
/-- x = e, a new object that x owns -/
@[simp] def sOwn (i : Nat) (m : M) : MS := fun sl s => (m sl s).st sl fun y s1 => match y with
  | .fr c => .nx (sl.set i (.own c)) s1
  | _ => .bad
/-- x = e, a new object in a cell -/
@[simp] def sCel (i : Nat) (m : M) : MS := fun sl s => (m sl s).st sl fun y s1 => match y with
  | .fr c => .nx (sl.set i (.v (.c s1.O.length))) { s1 with O := s1.O ++ [c] }
  | _ => .bad
/-- what x owns is data from now on -/
@[simp] def sFrz (i : Nat) : MS := fun sl s => match sl[i]? with
  | some (.own c) => .nx (sl.set i (.v (.f c.toF))) s
  | _ => .bad
@[simp] def sExp (m : M) : MS := fun sl s => (m sl s).st sl fun _ s1 => .nx sl s1
@[simp] def retY (sl : List Sl) : Y → Option Y
  | .w (.o i) => match sl[i]? with
    | some (.own c) => some (.fr c)
    | _ => none
  | y => some y
@[simp] def sRet (m : M) : MS := fun sl s => (m sl s).st sl fun y s1 => match retY sl y with
  | some y' => .rt y' s1
  | none => .bad
@[simp] def sRaise (c : Str) : MS := fun sl s => .exc c sl s
/-- x.append(e), x an own list -/
@[simp] def sApp (i : Nat) (m : M) : MS := fun sl s => (m sl s).st sl fun y s1 => match frz y, sl[i]? with
  | .f x, some (.own (.lst xs)) => if xs.length < sizeLine then .nx (sl.set i (.own (.lst (xs ++ [x])))) s1 else .bad
  | _, _ => .bad
/-- one turn of a for after the other -/
def loopF (i : Nat) (body : MS) : List F → List Sl → Sto → RS
  | [], sl, s => .nx sl s
  | x :: xs, sl, s => match body (sl.set i (.v (.f x))) s with
    | .nx sl1 s1 => loopF i body xs sl1 s1
    | .ct sl1 s1 => loopF i body xs sl1 s1
    | .bk sl1 s1 => .nx sl1 s1
    | r => r
end Fm
namespace Fm
open PySem L2
/-! ### slices -/
abbrev MO := Option M
@[simp] def mPart : MO → (Option Int → M) → M
  | none, k => k none
  | some m, k => mW m fun w => fun sl s => match w with
    | .f (.int i) => k (some i) sl s
    | _ => .bad
@[simp] def mSl (f : F → Option Int → Option Int → Op) (a : M) (lo hi : MO) : M := fun sl s => mW a (fun w => mPart lo fun i => mPart hi fun j => op1 (fun x => f x i j) w) sl s
end Fm
namespace Fm
open PySem L2
/-! ### what is walked -/
abbrev MI := List Sl → Sto → R (List F)
@[simp] def iL (m : M) : MI := fun sl s => (m sl s).bind fun y s1 => match frz y with
  | .f (.lst xs) => .ok xs s1
  | _ => .bad
@[simp] def iT (m : M) : MI := fun sl s => (m sl s).bind fun y s1 => match frz y with
  | .f (.tup xs) => .ok xs s1
  | _ => .bad
def signs (x : Str) : List F := x.cps.toList.map fun c => F.str ⟨#[c]⟩
@[simp] def iS (m : M) : MI := fun sl s => (m sl s).bind fun y s1 => match frz y with
  | .f (.str x) => .ok (signs x) s1
  | _ => .bad
/-- a, a + c, .. (n of them) -/
def rgF (a c : Int) (n : Nat) : List F := (List.range n).map fun (k : Nat) => F.int (a + (k : Int) * c)
def inB (i : Int) : Bool := decide (i.natAbs < 4611686018427387904)
@[simp] def iR1 (m : M) : MI := fun sl s => (m sl s).bind fun y s1 => match frz y with
  | .f (.int j) => if inB j then .ok (rgF 0 1 j.toNat) s1 else .bad
  | _ => .bad
@[simp] def iR2 (a b : M) : MI := fun sl s => (a sl s).bind fun y s1 => (b sl s1).bind fun z s2 => match frz y, frz z with
  | .f (.int i), .f (.int j) => if inB i && inB j then .ok (rgF i 1 (j - i).toNat) s2 else .bad
  | _, _ => .bad
/-- with a step -/
@[simp] def iR3 (a b c : M) : MI := fun sl s => (a sl s).bind fun y s1 => (b sl s1).bind fun z s2 => (c sl s2).bind fun u s3 => match frz y, frz z, frz u with
  | .f (.int i), .f (.int j), .f (.int c) => if c ≠ 0 ∧ c.natAbs < 1073741824 ∧ Builtin.Range.small i j c = true ∧ 0 ≤ Builtin.Range.rangeSize i j c then .ok (rgF i c (Builtin.Range.rangeSize i j c).toNat) s3 else .bad
  | _, _, _ => .bad
@[simp] def sFor (i : Nat) (it : MI) (body : MS) : MS := fun sl s => (it sl s).st sl fun xs s1 => loopF i body xs sl s1
@[simp] def sWhile (t : M) (body : MS) : Nat → MS
  | 0 => fun _ _ => .bad
  | n + 1 => fun sl s => (t sl s).st sl fun y s1 => match y with
    | .w (.f (.bl true)) => match body sl s1 with
      | .nx sl1 s2 => sWhile t body n sl1 s2
      | .ct sl1 s2 => sWhile t body n sl1 s2
      | .bk sl1 s2 => .nx sl1 s2
      | r => r
    | .w (.f (.bl false)) => .nx sl s1
    | _ => .bad
end Fm
namespace Fm
open PySem L2
/-! ### a def -/
def Sto.back (s s' : Sto) : Sto := ⟨s'.O.take s.O.length, s.lk⟩
@[simp] def slots (N : Nat) (ws : List W) : List Sl := ws.map Sl.v ++ List.replicate (N - ws.length) Sl.no
/-- no object left points to what is forgotten -/
def insOk (s : Sto) : Prop := ∀ (k : Nat) (fs : List (Str × Nat)), s.O[k]? = some (.ins fs) → ∀ p ∈ fs, p.2 < s.O.length
def bOk (s s' : Sto) : Bool := (s'.O.take s.O.length).all fun c => match c with
  | .ins fs => fs.all fun p => decide (p.2 < s.O.length)
  | _ => true
/-- a def's run: what it made in cells is forgotten behind it -/
def runA (N : Nat) (body : MS) : Psi := fun ws s => match body (slots N ws) s with
  | .rt (.w (.f x)) s' => if bOk s s' then .ok (.w (.f x)) (s.back s') else .bad
  | .rt (.w (.c k)) s' => if k < s.O.length && bOk s s' then .ok (.w (.c k)) (s.back s') else .bad
  | .rt (.fr c) s' => if bOk s s' then .ok (.fr c) (s.back s') else .bad
  | .nx _ s' => if bOk s s' then .ok (.w (.f .non)) (s.back s') else .bad
  | .exc c _ s' => if bOk s s' then .exc c (s.back s') else .bad
  | _ => .bad
/-- .. a def that hands out what it made in cells -/
def runB (N : Nat) (body : MS) : Psi := fun ws s => match body (slots N ws) s with
  | .rt (.w (.f x)) s' => .ok (.w (.f x)) s'
  | .rt (.w (.c k)) s' => .ok (.w (.c k)) s'
  | .rt (.fr c) s' => .ok (.fr c) s'
  | .nx _ s' => .ok (.w (.f .non)) s'
  | .exc c _ s' => .exc c s'
  | _ => .bad
/-- phi gives what psi says, where psi says anything -/
def Ref (psi phi : Psi) : Prop := ∀ ws s, insOk s → ws.all argOk = true → psi ws s ≠ .bad → phi ws s = psi ws s
theorem Ref.rfl {psi : Psi} : Ref psi psi := fun _ _ _ _ _ => by rfl
theorem bOk_self {s : Sto} (h : insOk s) : bOk s s = true := by
  unfold bOk
  rw [List.all_eq_true]
  intro c hc
  rw [List.take_length] at hc
  obtain ⟨k, hk⟩ := List.getElem?_of_mem hc
  cases c with
  | ins fs => exact List.all_eq_true.mpr fun p hp => decide_eq_true (h k fs hk p hp)
  | _ => rfl
theorem back_self (s : Sto) : s.back s = s := by
  cases s; simp [Sto.back]
/-- o.m(..): o in a cell -/
@[simp] def mMeth (psi : Psi) (m : Str) (o : M) (a : MA) : M := fun sl s => (o sl s).bind fun y s1 => match frz y with
  | .c k => match s1.O[k]? with
    | some (.ins fs) => if fs.lookup m = none then (a sl s1).bind fun ws s2 => if ws.all argOk then psi (.c k :: ws) s2 else .bad else .bad
    | _ => .bad
  | _ => .bad
/-- C(..) -/
@[simp] def mMake (psi : Psi) (a : MA) : M := fun sl s => (a sl s).bind fun ws s1 => if ws.all argOk then
    match psi (.c s1.O.length :: ws) { s1 with O := s1.O ++ [.ins []] } with
    | .ok (.w (.f .non)) s2 => .ok (.w (.c s1.O.length)) s2
    | .exc c s2 => if bOk s1 s2 then .exc c (s1.back s2) else .bad
    | _ => .bad
  else .bad
/-- o.f -/
@[simp] def mFld (f : Str) (o : M) : M := fun sl s => (o sl s).bind fun y s1 => match frz y with
  | .c k => match s1.O[k]? with
    | some (.ins fs) => match fs.lookup f with
      | some j => .ok (.w (.c j)) s1
      | none => .bad
    | _ => .bad
  | _ => .bad
end Fm

/-! FB: what data and states mean over the abstract heap. -/
namespace Fm
open PySem L2

/-! ### data in a stable heap -/
mutual
def Rep (K : PySem.W.Frag) (S : Hp) : F → V → Prop
  | .non, v => v = .non
  | .bl b, v => v = .bl b
  | .int i, v => v = .int i
  | .str x, v => v = .str x
  | .scr ns, v => ∃ a, v = .ref a ∧ SqL K S a (ns.map V.int)
  | .lst xs, v => ∃ a vs, v = .ref a ∧ S a = some (.lst vs) ∧ Reps K S xs vs
  | .tup xs, v => ∃ a vs, v = .ref a ∧ S a = some (.tup vs) ∧ Reps K S xs vs
  | .dct kvs, v => ∃ a vs, v = .ref a ∧ S a = some (.dK vs) ∧ RepK K S kvs vs
def Reps (K : PySem.W.Frag) (S : Hp) : List F → List V → Prop
  | [], vs => vs = []
  | x :: xs, vs => ∃ v r, vs = v :: r ∧ Rep K S x v ∧ Reps K S xs r
def RepK (K : PySem.W.Frag) (S : Hp) : List (Key × F) → List (Key × V) → Prop
  | [], vs => vs = []
  | (k, x) :: xs, vs => ∃ v r, vs = (k, v) :: r ∧ Rep K S x v ∧ RepK K S xs r
end
def Sub (S S' : Hp) : Prop := ∀ a u, S a = some u → S' a = some u
theorem Sub.rfl {S : Hp} : Sub S S := fun _ _ h => h
theorem Sub.trans {S S1 S2 : Hp} (h : Sub S S1) (k : Sub S1 S2) : Sub S S2 := fun a u e => k a u (h a u e)
theorem Sub.sq {K : PySem.W.Frag} {S S' : Hp} {a : Addr} {vs : List V} (h : Sub S S') (q : SqL K S a vs) : SqL K S' a vs := by
  rcases q with (q | ⟨o, q⟩) | q
  · exact .inl (.inl (h _ _ q))
  · exact .inl (.inr ⟨o, h _ _ q⟩)
  · exact .inr q
theorem Sub.upd {S : Hp} {p : Addr} {o : HO} (h : S p = none) : Sub S (upd S p o) := fun a u e => by
  rw [upd_ne (ne_of_none e h)]; exact e
mutual
theorem Rep.sub {K : PySem.W.Frag} {S S' : Hp} (h : Sub S S') : ∀ (x : F) (v : V), Rep K S x v → Rep K S' x v
  | .non, _, r => by simpa only [Rep] using r
  | .bl _, _, r => by simpa only [Rep] using r
  | .int _, _, r => by simpa only [Rep] using r
  | .str _, _, r => by simpa only [Rep] using r
  | .lst xs, _, r => by
    simp only [Rep] at r ⊢
    obtain ⟨a, vs, e, q, t⟩ := r
    exact ⟨a, vs, e, h _ _ q, Reps.sub h xs vs t⟩
  | .scr ns, _, r => by
    simp only [Rep] at r ⊢
    obtain ⟨a, e, q⟩ := r
    exact ⟨a, e, h.sq q⟩
  | .tup xs, _, r => by
    simp only [Rep] at r ⊢
    obtain ⟨a, vs, e, q, t⟩ := r
    exact ⟨a, vs, e, h _ _ q, Reps.sub h xs vs t⟩
  | .dct kvs, _, r => by
    simp only [Rep] at r ⊢
    obtain ⟨a, vs, e, q, t⟩ := r
    exact ⟨a, vs, e, h _ _ q, RepK.sub h kvs vs t⟩
theorem Reps.sub {K : PySem.W.Frag} {S S' : Hp} (h : Sub S S') : ∀ (xs : List F) (vs : List V), Reps K S xs vs → Reps K S' xs vs
  | [], _, r => by simpa only [Reps] using r
  | x :: xs, _, r => by
    simp only [Reps] at r ⊢
    obtain ⟨v, t, e, q, w⟩ := r
    exact ⟨v, t, e, Rep.sub h x v q, Reps.sub h xs t w⟩
theorem RepK.sub {K : PySem.W.Frag} {S S' : Hp} (h : Sub S S') : ∀ (xs : List (Key × F)) (vs : List (Key × V)), RepK K S xs vs → RepK K S' xs vs
  | [], _, r => by simpa only [RepK] using r
  | (k, x) :: xs, _, r => by
    simp only [RepK] at r ⊢
    obtain ⟨v, t, e, q, w⟩ := r
    exact ⟨v, t, e, Rep.sub h x v q, RepK.sub h xs t w⟩
end
theorem Reps.nil {K : PySem.W.Frag} {S : Hp} : Reps K S [] [] := by simp only [Reps]
theorem Reps.cons {K : PySem.W.Frag} {S : Hp} {x : F} {xs : List F} {v : V} {vs : List V} (h : Rep K S x v) (k : Reps K S xs vs) : Reps K S (x :: xs) (v :: vs) := by
  simp only [Reps]; exact ⟨v, vs, rfl, h, k⟩
theorem Reps.length {K : PySem.W.Frag} {S : Hp} : ∀ {xs : List F} {vs : List V}, Reps K S xs vs → xs.length = vs.length
  | [], _, h => by simp only [Reps] at h; subst h; rfl
  | x :: xs, _, h => by
    simp only [Reps] at h
    obtain ⟨v, r, rfl, _, q⟩ := h
    simp [Reps.length q]
theorem Reps.get {K : PySem.W.Frag} {S : Hp} : ∀ {xs : List F} {vs : List V} {i : Nat} {x : F}, Reps K S xs vs → xs[i]? = some x → ∃ v, vs[i]? = some v ∧ Rep K S x v
  | [], _, _, _, _, e => by simp at e
  | x :: xs, _, 0, y, h, e => by
    simp only [Reps] at h
    obtain ⟨v, r, rfl, q, _⟩ := h
    simp at e; subst e
    exact ⟨v, rfl, q⟩
  | x :: xs, _, i + 1, y, h, e => by
    simp only [Reps] at h
    obtain ⟨v, r, rfl, _, q⟩ := h
    obtain ⟨u, h1, h2⟩ := Reps.get (i := i) q (by simpa using e)
    exact ⟨u, by simpa using h1, h2⟩
theorem Reps.get' {K : PySem.W.Frag} {S : Hp} : ∀ {xs : List F} {vs : List V} {i : Nat} {v : V}, Reps K S xs vs → vs[i]? = some v → ∃ x, xs[i]? = some x ∧ Rep K S x v
  | [], _, _, _, h, e => by simp only [Reps] at h; subst h; simp at e
  | x :: xs, _, 0, y, h, e => by
    simp only [Reps] at h
    obtain ⟨v, r, rfl, q, _⟩ := h
    simp at e; subst e
    exact ⟨x, rfl, q⟩
  | x :: xs, _, i + 1, y, h, e => by
    simp only [Reps] at h
    obtain ⟨v, r, rfl, _, q⟩ := h
    obtain ⟨u, h1, h2⟩ := Reps.get' (i := i) q (by simpa using e)
    exact ⟨u, by simpa using h1, h2⟩
theorem Reps.append {K : PySem.W.Frag} {S : Hp} : ∀ {xs ys : List F} {vs ws : List V}, Reps K S xs vs → Reps K S ys ws → Reps K S (xs ++ ys) (vs ++ ws)
  | [], _, _, _, h, k => by simp only [Reps] at h; subst h; exact k
  | x :: xs, _, _, _, h, k => by
    simp only [Reps] at h
    obtain ⟨v, r, rfl, q, t⟩ := h
    exact .cons q (Reps.append t k)
theorem Reps.one {K : PySem.W.Frag} {S : Hp} {x : F} {v : V} (h : Rep K S x v) : Reps K S [x] [v] := .cons h .nil
theorem Reps.drop {K : PySem.W.Frag} {S : Hp} : ∀ (n : Nat) {xs : List F} {vs : List V}, Reps K S xs vs → Reps K S (xs.drop n) (vs.drop n)
  | 0, _, _, h => h
  | n + 1, [], _, h => by simp only [Reps] at h; subst h; exact .nil
  | n + 1, x :: xs, _, h => by
    simp only [Reps] at h
    obtain ⟨v, r, rfl, _, t⟩ := h
    exact Reps.drop n t
theorem Reps.take {K : PySem.W.Frag} {S : Hp} : ∀ (n : Nat) {xs : List F} {vs : List V}, Reps K S xs vs → Reps K S (xs.take n) (vs.take n)
  | 0, _, _, _ => .nil
  | n + 1, [], _, h => by simp only [Reps] at h; subst h; exact .nil
  | n + 1, x :: xs, _, h => by
    simp only [Reps] at h
    obtain ⟨v, r, rfl, q, t⟩ := h
    exact .cons q (Reps.take n t)
theorem Reps.set {K : PySem.W.Frag} {S : Hp} {x : F} {v : V} (h : Rep K S x v) : ∀ (n : Nat) {xs : List F} {vs : List V}, Reps K S xs vs → Reps K S (xs.set n x) (vs.set n v)
  | _, [], _, k => by simp only [Reps] at k; subst k; exact .nil
  | 0, y :: ys, _, k => by
    simp only [Reps] at k
    obtain ⟨v, r, rfl, q, t⟩ := k
    exact .cons h t
  | n + 1, y :: ys, _, k => by
    simp only [Reps] at k
    obtain ⟨v, r, rfl, q, t⟩ := k
    exact .cons q (Reps.set h n t)
theorem RepK.nil {K : PySem.W.Frag} {S : Hp} : RepK K S [] [] := by simp only [RepK]
theorem RepK.cons {K : PySem.W.Frag} {S : Hp} {k : Key} {x : F} {xs : List (Key × F)} {v : V} {vs : List (Key × V)} (h : Rep K S x v) (t : RepK K S xs vs) : RepK K S ((k, x) :: xs) ((k, v) :: vs) := by
  simp only [RepK]; exact ⟨v, vs, rfl, h, t⟩
theorem RepK.keys {K : PySem.W.Frag} {S : Hp} : ∀ {xs : List (Key × F)} {vs : List (Key × V)}, RepK K S xs vs → xs.map (·.1) = vs.map (·.1)
  | [], _, h => by simp only [RepK] at h; subst h; rfl
  | (k, x) :: xs, _, h => by
    simp only [RepK] at h
    obtain ⟨v, r, rfl, _, q⟩ := h
    simp [RepK.keys q]
theorem RepK.length {K : PySem.W.Frag} {S : Hp} {xs : List (Key × F)} {vs : List (Key × V)} (h : RepK K S xs vs) : xs.length = vs.length := by
  have := congrArg List.length h.keys
  simpa using this

/-! ### dicts as lists of pairs -/
section
variable {α : Type}
def vK (kvs : List (Key × α)) (k : Key) : Option α := (kvs.find? fun kv => decide (kv.1 = k)).map (·.2)
def pK (kvs : List (Key × α)) (k : Key) (v : α) : List (Key × α) :=
  if (kvs.any fun kv => decide (kv.1 = k)) = true then kvs.map (fun kv => if kv.1 = k then (kv.1, v) else kv) else kvs ++ [(k, v)]
def dK (kvs : List (Key × α)) (k : Key) : List (Key × α) := kvs.filter fun kv => decide (kv.1 ≠ k)
def mK (acc : List (Key × α)) : List (Key × α) → List (Key × α)
  | [] => acc
  | (k, v) :: r => mK (pK acc k v) r
end
theorem RepK.val {K : PySem.W.Frag} {S : Hp} (k : Key) : ∀ {xs : List (Key × F)} {vs : List (Key × V)}, RepK K S xs vs → (∃ x v, vK xs k = some x ∧ valV vs k = some v ∧ Rep K S x v) ∨ (vK xs k = none ∧ valV vs k = none)
  | [], _, h => by simp only [RepK] at h; subst h; exact .inr ⟨rfl, rfl⟩
  | (l, x) :: xs, _, h => by
    simp only [RepK] at h
    obtain ⟨v, r, rfl, q, t⟩ := h
    by_cases e : l = k
    · exact .inl ⟨x, v, by simp [vK, e], by simp [valV, e], q⟩
    · rcases RepK.val k t with ⟨y, w, h1, h2, h3⟩ | ⟨h1, h2⟩
      · exact .inl ⟨y, w, by simpa [vK, e] using h1, by simpa [valV, e] using h2, h3⟩
      · exact .inr ⟨by simpa [vK, e] using h1, by simpa [valV, e] using h2⟩
theorem RepK.any {K : PySem.W.Frag} {S : Hp} (k : Key) : ∀ {xs : List (Key × F)} {vs : List (Key × V)}, RepK K S xs vs → (xs.any fun kv => decide (kv.1 = k)) = (vs.any fun kv => decide (kv.1 = k))
  | [], _, h => by simp only [RepK] at h; subst h; rfl
  | (l, x) :: xs, _, h => by
    simp only [RepK] at h
    obtain ⟨v, r, rfl, q, t⟩ := h
    simp [RepK.any k t]
theorem RepK.app {K : PySem.W.Frag} {S : Hp} : ∀ {xs ys : List (Key × F)} {vs ws : List (Key × V)}, RepK K S xs vs → RepK K S ys ws → RepK K S (xs ++ ys) (vs ++ ws)
  | [], _, _, _, h, k => by simp only [RepK] at h; subst h; exact k
  | (l, x) :: xs, _, _, _, h, k => by
    simp only [RepK] at h
    obtain ⟨v, r, rfl, q, t⟩ := h
    exact .cons q (RepK.app t k)
theorem RepK.repl {K : PySem.W.Frag} {S : Hp} {y : F} {w : V} (k : Key) (hy : Rep K S y w) : ∀ {xs : List (Key × F)} {vs : List (Key × V)}, RepK K S xs vs →
    RepK K S (xs.map fun kv => if kv.1 = k then (kv.1, y) else kv) (vs.map fun kv => if kv.1 = k then (kv.1, w) else kv)
  | [], _, h => by simp only [RepK] at h; subst h; exact .nil
  | (l, x) :: xs, _, h => by
    simp only [RepK] at h
    obtain ⟨v, r, rfl, q, t⟩ := h
    simp only [List.map_cons]
    by_cases e : l = k
    · simp only [e, if_true]; exact .cons hy (RepK.repl k hy t)
    · simp only [e, if_false]; exact .cons q (RepK.repl k hy t)
theorem RepK.put {K : PySem.W.Frag} {S : Hp} {y : F} {w : V} (k : Key) (hy : Rep K S y w) {xs : List (Key × F)} {vs : List (Key × V)} (h : RepK K S xs vs) : RepK K S (pK xs k y) (putK vs k w) := by
  unfold pK putK
  rw [h.any k]
  split
  · exact h.repl k hy
  · exact h.app (.cons hy .nil)
theorem RepK.drp {K : PySem.W.Frag} {S : Hp} (k : Key) : ∀ {xs : List (Key × F)} {vs : List (Key × V)}, RepK K S xs vs → RepK K S (dK xs k) (dropK vs k)
  | [], _, h => by simp only [RepK] at h; subst h; exact .nil
  | (l, x) :: xs, _, h => by
    simp only [RepK] at h
    obtain ⟨v, r, rfl, q, t⟩ := h
    have ih := RepK.drp k t
    unfold dK dropK at ih ⊢
    by_cases e : l = k
    · simpa [e] using ih
    · simpa [e] using RepK.cons (k := l) q ih
theorem RepK.merge {K : PySem.W.Frag} {S : Hp} : ∀ {ys : List (Key × F)} {ws : List (Key × V)} {xs : List (Key × F)} {vs : List (Key × V)}, RepK K S xs vs → RepK K S ys ws → RepK K S (mK xs ys) (mergeK vs ws)
  | [], _, _, _, h, k => by simp only [RepK] at k; subst k; simpa [mK, mergeK] using h
  | (l, y) :: ys, _, _, _, h, k => by
    simp only [RepK] at k
    obtain ⟨v, r, rfl, q, t⟩ := k
    have := RepK.merge (h.put l q) t
    simpa [mK, mergeK] using this

/-- what shows of data at once -/
def top : F → Option V
  | .non => some .non
  | .bl b => some (.bl b)
  | .int i => some (.int i)
  | .str x => some (.str x)
  | _ => none
def topV : V → Option V
  | .ref _ => none
  | v => some v
def topK (kvs : List (Key × F)) : List (Key × Option V) := kvs.map fun p => (p.1, top p.2)
theorem Rep.top {K : PySem.W.Frag} {S : Hp} {x : F} {v : V} (h : Rep K S x v) : top x = topV v := by
  cases x <;> simp only [Rep] at h <;> first | (subst h; rfl) | (obtain ⟨a, vs, rfl, _⟩ := h; rfl) | (obtain ⟨a, rfl, _⟩ := h; rfl)
theorem RepK.top {K : PySem.W.Frag} {S : Hp} : ∀ {xs : List (Key × F)} {vs : List (Key × V)}, RepK K S xs vs → topK xs = vs.map fun p => (p.1, topV p.2)
  | [], _, h => by simp only [RepK] at h; subst h; rfl
  | (l, x) :: xs, _, h => by
    simp only [RepK] at h
    obtain ⟨v, r, rfl, q, t⟩ := h
    have := RepK.top t
    simp only [topK, List.map_cons] at this ⊢
    rw [this, q.top]

/-! ### what is to be read now: the top by the heap, the rest stable -/
def Sees (H : Hp) (a : Addr) : HO → Prop
  | .lst xs => H a = some (.lst xs)
  | .frz o u => H a = some (.frz o u)
  | .tup xs => H a = some (.tup xs)
  | .dK kvs => Rd H a (.dK kvs)
  | _ => False
def RepP (K : PySem.W.Frag) (S H : Hp) : F → V → Prop
  | .non, v => v = .non
  | .bl b, v => v = .bl b
  | .int i, v => v = .int i
  | .str x, v => v = .str x
  | .scr ns, v => ∃ a, v = .ref a ∧ SqL K H a (ns.map V.int)
  | .lst xs, v => ∃ a vs, v = .ref a ∧ H a = some (.lst vs) ∧ Reps K S xs vs
  | .tup xs, v => ∃ a vs, v = .ref a ∧ H a = some (.tup vs) ∧ Reps K S xs vs
  | .dct kvs, v => ∃ a vs, v = .ref a ∧ Rd H a (.dK vs) ∧ RepK K S kvs vs
def Lk (S H : Hp) : Prop := ∀ a u, S a = some u → Sees H a u
theorem Lk.sq {K : PySem.W.Frag} {S H : Hp} {a : Addr} {vs : List V} (l : Lk S H) (q : SqL K S a vs) : SqL K H a vs := by
  rcases q with (q | ⟨o, q⟩) | q
  · exact .inl (.inl (l _ _ q))
  · exact .inl (.inr ⟨o, l _ _ q⟩)
  · exact .inr q
theorem Lk.some {S H : Hp} {a : Addr} {u : HO} (l : Lk S H) (q : S a = some u) : H a ≠ none := by
  have z := l _ _ q
  cases u <;> first | exact z.elim | (rcases z with z | ⟨o, z⟩ <;> (rw [z]; simp)) | (have z : H a = Option.some _ := z; rw [z]; simp)
theorem Lk.none {S H : Hp} {a : Addr} (l : Lk S H) (q : H a = none) : S a = none := by
  cases e : S a with
  | none => rfl
  | some u => exact absurd q (l.some e)
theorem Rep.p {K : PySem.W.Frag} {S H : Hp} (l : Lk S H) : ∀ {x : F} {v : V}, Rep K S x v → RepP K S H x v
  | .non, _, h => by simp only [Rep] at h; exact h
  | .bl _, _, h => by simp only [Rep] at h; exact h
  | .int _, _, h => by simp only [Rep] at h; exact h
  | .str _, _, h => by simp only [Rep] at h; exact h
  | .lst xs, _, h => by simp only [Rep] at h; obtain ⟨a, vs, e, q, t⟩ := h; exact ⟨a, vs, e, l _ _ q, t⟩
  | .scr ns, _, h => by simp only [Rep] at h; obtain ⟨a, e, q⟩ := h; exact ⟨a, e, l.sq q⟩
  | .tup xs, _, h => by simp only [Rep] at h; obtain ⟨a, vs, e, q, t⟩ := h; exact ⟨a, vs, e, l _ _ q, t⟩
  | .dct xs, _, h => by simp only [Rep] at h; obtain ⟨a, vs, e, q, t⟩ := h; exact ⟨a, vs, e, l _ _ q, t⟩

/-! ### states -/
structure Gh where
  S : Hp
  ro : Nat → Addr
  rc : Nat → Addr
  La : List (Addr × Obj × HO)
/-- what is fixed through a def's run: the classes, what is wished of errors, the entry -/
structure Gc where
  C : Addr
  cls : Str → Addr
  W : WX
  H0 : Hp
  S0 : Hp
  rc0 : Nat → Addr
  n0 : Nat
  xs : Option (Nat × Addr)
def Gc.F (G : Gc) (a : Addr) (u : HO) : Prop := G.H0 a = some u ∧ G.S0 a = none ∧ ∀ k, k < G.n0 → G.rc0 k ≠ a

def RepW (K : PySem.W.Frag) (g : Gh) (n : Nat) : W → V → Prop
  | .f x, v => Rep K g.S x v
  | .c k, v => k < n ∧ v = .ref (g.rc k)
  | .o i, v => v = .ref (g.ro i)
  | .x _, _ => False
def CelAt (K : PySem.W.Frag) (C : Addr) (g : Gh) (n : Nat) (H : Hp) (a : Addr) : Ct → Prop
  | .lst xs => ∃ vs, Reps K g.S xs vs ∧ H a = some (.lst vs)
  | .dct kvs => ∃ vs, RepK K g.S kvs vs ∧ (H a = some (.dK vs) ∨ ∃ od, (a, od, HO.dK vs) ∈ g.La)
  | .ins fs => (∀ p ∈ fs, p.2 < n) ∧ ∃ dx, H a = some (.ins C dx (fs.map fun p => (p.1, V.ref (g.rc p.2))))
def LkW (K : PySem.W.Frag) (g : Gh) (n : Nat) (w : W) (x : Addr × Obj × HO) : Prop := match w with
  | .f (.dct kvs) => g.S x.1 = some x.2.2 ∧ ∃ vs, x.2.2 = .dK vs ∧ RepK K g.S kvs vs
  | .c k => k < n ∧ g.rc k = x.1
  | _ => False
theorem paired_mem {α β : Type} {P : α → β → Prop} : ∀ {l : List α} {r : List β}, Paired P l r → ∀ y ∈ r, ∃ x ∈ l, P x y
  | _, _, .nil, _, h => by cases h
  | _, _, .cons p t, y, h => by
    rcases List.mem_cons.mp h with rfl | h
    · exact ⟨_, List.mem_cons_self, p⟩
    · obtain ⟨x, hx, q⟩ := paired_mem t y h
      exact ⟨x, List.mem_cons_of_mem _ hx, q⟩
theorem paired_imp {α β : Type} {P Q : α → β → Prop} : ∀ {l : List α} {r : List β}, Paired P l r → (∀ x y, P x y → Q x y) → Paired Q l r
  | _, _, .nil, _ => .nil
  | _, _, .cons p t, h => .cons (h _ _ p) (paired_imp t h)
structure RlH (K : PySem.W.Frag) (C : Addr) (g : Gh) (s : Sto) (H : Hp) : Prop where
  see : Lk g.S H
  exa : ∀ a kvs, g.S a = some (.dK kvs) → (∀ x ∈ g.La, x.1 ≠ a) → H a = some (.dK kvs)
  cel : ∀ (k : Nat) (c : Ct), s.O[k]? = some c → g.S (g.rc k) = none ∧ CelAt K C g s.O.length H (g.rc k) c
  cin : ∀ j k, j < s.O.length → k < s.O.length → g.rc j = g.rc k → j = k
  lck : ∀ x ∈ g.La, H x.1 = some (.frz x.2.1 x.2.2)
  lkw : Paired (LkW K g s.O.length) s.lk g.La
  lnd : (g.La.map (·.1)).Nodup
structure Rl (K : PySem.W.Frag) (G : Gc) (g : Gh) (sl : List Sl) (s : Sto) (σ : St) (H : Hp) : Prop extends RlH K G.C g s H where
  len : sl.length = σ.length
  sok : ∀ (i : Nat) (w : W), sl[i]? = some (Sl.v w) → slotOk w = true
  exs : ∀ (i : Nat) (a : Addr), G.xs = some (i, a) → σ[i]? = some (some (.ref a))
  val : ∀ (i : Nat) (w : W), sl[i]? = some (Sl.v w) → ∃ v, σ[i]? = some (some v) ∧ RepW K g s.O.length w v
  own : ∀ (i : Nat) (c : Ct), sl[i]? = some (Sl.own c) → g.S (g.ro i) = none ∧ (∀ k, k < s.O.length → g.rc k ≠ g.ro i) ∧ σ[i]? = some (some (.ref (g.ro i))) ∧ CelAt K G.C g s.O.length H (g.ro i) c
  oni : ∀ (i : Nat) (fs : List (Str × Nat)), sl[i]? ≠ some (Sl.own (.ins fs))
  oin : ∀ (i j : Nat) (c d : Ct), sl[i]? = some (Sl.own c) → sl[j]? = some (Sl.own d) → g.ro i = g.ro j → i = j
  frm : ∀ a u, G.F a u → H a = some u ∧ g.S a = none ∧ (∀ k, k < s.O.length → g.rc k ≠ a) ∧ ∀ (i : Nat) (c : Ct), sl[i]? = some (Sl.own c) → g.ro i ≠ a
  newS : ∀ a u, g.S a = some u → G.S0 a = some u ∨ G.H0 a = none
  newC : ∀ k, G.n0 ≤ k → k < s.O.length → G.H0 (g.rc k) = none
  oldC : ∀ k, k < G.n0 → g.rc k = G.rc0 k
  n0le : G.n0 ≤ s.O.length
  newO : ∀ (i : Nat) (c : Ct), sl[i]? = some (Sl.own c) → G.H0 (g.ro i) = none
  dom : ∀ a, G.H0 a ≠ none → H a ≠ none
  subS : Sub G.S0 g.S

/-- g' grew out of g, where n cells were -/
structure Le (g g' : Gh) (n : Nat) : Prop where
  sub : Sub g.S g'.S
  rc : ∀ k, k < n → g'.rc k = g.rc k
  la : g'.La = g.La
theorem Le.rfl {g : Gh} {n : Nat} : Le g g n := ⟨Sub.rfl, fun _ _ => by rfl, by rfl⟩
theorem Le.trans {g g1 g2 : Gh} {n m : Nat} (a : Le g g1 n) (b : Le g1 g2 m) (h : n ≤ m) : Le g g2 n :=
  ⟨a.sub.trans b.sub, fun k hk => (b.rc k (Nat.lt_of_lt_of_le hk h)).trans (a.rc k hk), b.la.trans a.la⟩
/-- .. own slots' places too -/
structure LeO (g g' : Gh) (n : Nat) : Prop extends Le g g' n where
  ro : ∀ i, g'.ro i = g.ro i
theorem LeO.rfl {g : Gh} {n : Nat} : LeO g g n := ⟨Le.rfl, fun _ => by rfl⟩
theorem LeO.trans {g g1 g2 : Gh} {n m : Nat} (a : LeO g g1 n) (b : LeO g1 g2 m) (h : n ≤ m) : LeO g g2 n :=
  ⟨a.toLe.trans b.toLe h, fun i => (b.ro i).trans (a.ro i)⟩
theorem RepW.le {K : PySem.W.Frag} {g g' : Gh} {n m : Nat} (l : LeO g g' n) (h : n ≤ m) : ∀ {w : W} {v : V}, RepW K g n w v → RepW K g' m w v
  | .f x, v, r => Rep.sub l.sub x v r
  | .c k, v, r => by
    obtain ⟨h1, h2⟩ := r
    exact ⟨Nat.lt_of_lt_of_le h1 h, by rw [l.rc k h1]; exact h2⟩
  | .o i, v, r => by
    have e : v = .ref (g.ro i) := r
    show v = .ref (g'.ro i)
    rw [l.ro i]; exact e
  | .x _, _, r => r

/-- an expression's answer -/
def FrAt (K : PySem.W.Frag) (G : Gc) (g : Gh) (sl : List Sl) (s : Sto) (H : Hp) (p : Addr) (c : Ct) : Prop :=
  g.S p = none ∧ (∀ k, k < s.O.length → g.rc k ≠ p) ∧ (∀ (i : Nat) (d : Ct), sl[i]? = some (Sl.own d) → g.ro i ≠ p) ∧ G.H0 p = none ∧ (∀ x ∈ g.La, x.1 ≠ p) ∧ CelAt K G.C g s.O.length H p c ∧ ∀ fs, c ≠ .ins fs
def RepY (K : PySem.W.Frag) (G : Gc) (g : Gh) (sl : List Sl) (s : Sto) (H : Hp) : Y → V → Prop
  | .w x, v => RepW K g s.O.length x v
  | .fr c, v => ∃ p, v = .ref p ∧ FrAt K G g sl s H p c
end Fm

/-! FC: the relation's moves; expressions. -/
namespace Fm
open PySem L2

section
variable {K : PySem.W.Frag} {G : Gc} {g g' : Gh} {sl : List Sl} {s s' : Sto} {σ : St} {H H' : Hp} {n m : Nat} {C a p : Addr} {c : Ct}
theorem CelAt.le (l : Le g g' n) (h : n ≤ m) (x : CelAt K C g n H a c) : CelAt K C g' m H a c := by
  cases c with
  | lst xs => obtain ⟨vs, r, e⟩ := x; exact ⟨vs, Reps.sub l.sub _ _ r, e⟩
  | dct kvs => obtain ⟨vs, r, e⟩ := x; exact ⟨vs, RepK.sub l.sub _ _ r, by rw [l.la]; exact e⟩
  | ins fs =>
    obtain ⟨h1, dx, e⟩ := x
    refine ⟨fun q hq => Nat.lt_of_lt_of_le (h1 q hq) h, dx, ?_⟩
    rw [e]
    have : fs.map (fun p => (p.1, V.ref (g.rc p.2))) = fs.map (fun p => (p.1, V.ref (g'.rc p.2))) := List.map_congr_left fun q hq => by rw [l.rc _ (h1 q hq)]
    rw [this]
theorem CelAt.heap (k : ∀ u, H a = some u → H' a = some u) (x : CelAt K C g n H a c) : CelAt K C g n H' a c := by
  cases c with
  | lst xs => obtain ⟨vs, r, e⟩ := x; exact ⟨vs, r, k _ e⟩
  | dct kvs => obtain ⟨vs, r, e⟩ := x; exact ⟨vs, r, e.imp (k _) id⟩
  | ins fs => obtain ⟨h1, dx, e⟩ := x; exact ⟨h1, dx, k _ e⟩
theorem CelAt.some (l : ∀ x ∈ g.La, H x.1 = some (.frz x.2.1 x.2.2)) (x : CelAt K C g n H a c) : H a ≠ none := by
  cases c with
  | lst xs => obtain ⟨vs, r, e⟩ := x; rw [e]; simp
  | dct kvs =>
    obtain ⟨vs, r, e | ⟨od, e⟩⟩ := x
    · rw [e]; simp
    · have q := l _ e
      rw [q]; simp
  | ins fs => obtain ⟨h1, dx, e⟩ := x; rw [e]; simp

theorem Rl.S_none (R : Rl K G g sl s σ H) (hp : H p = none) : g.S p = none := R.see.none hp
theorem Rl.H0_none (R : Rl K G g sl s σ H) (hp : H p = none) : G.H0 p = none := by
  cases e : G.H0 p with
  | none => rfl
  | some u => exact absurd hp (R.dom p (by rw [e]; simp))
theorem Rl.rc_ne (R : Rl K G g sl s σ H) (hp : H p = none) : ∀ k, k < s.O.length → g.rc k ≠ p := fun k hk e => by
  obtain ⟨c, hc⟩ : ∃ c, s.O[k]? = some c := ⟨_, List.getElem?_eq_getElem hk⟩
  exact (R.cel k c hc).2.some R.lck (by rw [e]; exact hp)
theorem Rl.ro_ne (R : Rl K G g sl s σ H) (hp : H p = none) : ∀ (i : Nat) (d : Ct), sl[i]? = some (Sl.own d) → g.ro i ≠ p := fun i d hd e =>
  (R.own i d hd).2.2.2.some R.lck (by rw [e]; exact hp)
theorem Rl.la_ne (R : Rl K G g sl s σ H) (hp : H p = none) : ∀ x ∈ g.La, x.1 ≠ p := fun x hx e => by
  have := R.lck x hx
  rw [e, hp] at this; cases this
/-- the new object is told to nobody -/
theorem RlH.new {o : HO} (R : RlH K C g s H) (hp : H p = none) : RlH K C g s (upd H p o) := by
  have keep : ∀ a u, H a = some u → upd H p o a = some u := fun a u e => by rw [upd_ne (ne_of_none e hp)]; exact e
  refine ⟨fun a u e => ?_, fun a kvs e hl => keep _ _ (R.exa a kvs e hl), fun k c e => ⟨(R.cel k c e).1, (R.cel k c e).2.heap (keep _)⟩, R.cin, fun x hx => keep _ _ (R.lck x hx), R.lkw, R.lnd⟩
  have z := R.see a u e
  cases u <;> first | exact z.elim | (rcases z with z | ⟨o', z⟩; exact .inl (keep _ _ z); exact .inr ⟨o', keep _ _ z⟩) | exact keep _ _ z
theorem Rl.new {o : HO} (R : Rl K G g sl s σ H) (hp : H p = none) : Rl K G g sl s σ (upd H p o) := by
  have keep : ∀ a u, H a = some u → upd H p o a = some u := fun a u e => by rw [upd_ne (ne_of_none e hp)]; exact e
  refine { toRlH := R.toRlH.new hp, len := R.len, sok := R.sok, exs := R.exs, val := R.val, own := fun i c e => ?_, oni := R.oni, oin := R.oin, frm := fun a u f => ?_, newS := R.newS, newC := R.newC, oldC := R.oldC, n0le := R.n0le, newO := R.newO, dom := fun a h => ?_, subS := R.subS }
  · obtain ⟨h1, h2, h3, h4⟩ := R.own i c e
    exact ⟨h1, h2, h3, h4.heap (keep _)⟩
  · obtain ⟨h1, h2⟩ := R.frm a u f
    exact ⟨keep _ _ h1, h2⟩
  · cases e : H a with
    | none => exact absurd e (R.dom a h)
    | some u => rw [keep _ _ e]; simp
theorem Rl.frAt {o : HO} (R : Rl K G g sl s σ H) (hp : H p = none) (hc : CelAt K G.C g s.O.length (upd H p o) p c) (hi : ∀ fs, c ≠ .ins fs) : FrAt K G g sl s (upd H p o) p c :=
  ⟨R.S_none hp, R.rc_ne hp, R.ro_ne hp, R.H0_none hp, R.la_ne hp, hc, hi⟩

/-- an object is data from now on -/
theorem Rl.stable {u : HO} (R : Rl K G g sl s σ H) (h1 : g.S p = none) (h2 : ∀ k, k < s.O.length → g.rc k ≠ p) (h3 : ∀ (i : Nat) (d : Ct), sl[i]? = some (Sl.own d) → g.ro i ≠ p) (h4 : G.H0 p = none) (hu : H p = some u)
    (hs : Sees H p u) : Rl K G { g with S := upd g.S p u } sl s σ H := by
  have sub : Sub g.S (upd g.S p u) := Sub.upd h1
  have le : LeO g { g with S := upd g.S p u } s.O.length := ⟨⟨sub, fun _ _ => rfl, rfl⟩, fun _ => rfl⟩
  refine { see := fun a w e => ?_, exa := fun a kvs e hl => ?_, cel := fun k c e => ?_, cin := R.cin, lck := R.lck, lkw := paired_imp R.lkw fun w x q => ?_, lnd := R.lnd, len := R.len, sok := R.sok, exs := R.exs, val := fun i w e => ?_, own := fun i c e => ?_, oni := R.oni, oin := R.oin, frm := fun a w f => ?_, newS := fun a w e => ?_, newC := R.newC, oldC := R.oldC, n0le := R.n0le, newO := R.newO, dom := R.dom, subS := R.subS.trans sub }
  · by_cases q : a = p
    · subst q
      have e : upd g.S a u a = some w := e
      rw [upd_same] at e; cases e; exact hs
    · have e : upd g.S p u a = some w := e
      rw [upd_ne q] at e; exact R.see a w e
  · by_cases q : a = p
    · subst q
      have e : upd g.S a u a = some (.dK kvs) := e
      rw [upd_same] at e; cases e; exact hu
    · have e : upd g.S p u a = some (.dK kvs) := e
      rw [upd_ne q] at e; exact R.exa a kvs e hl
  · obtain ⟨q1, q2⟩ := R.cel k c e
    refine ⟨?_, q2.le le.toLe (Nat.le_refl _)⟩
    show upd g.S p u (g.rc k) = none
    rw [upd_ne (h2 k (List.getElem?_eq_some_iff.mp e).1)]; exact q1
  · cases w with
    | f y =>
      cases y with
      | dct kvs => obtain ⟨q1, vs, q2, q3⟩ := q; exact ⟨sub _ _ q1, vs, q2, RepK.sub sub _ _ q3⟩
      | _ => exact q
    | _ => exact q
  · obtain ⟨v, q1, q2⟩ := R.val i w e
    exact ⟨v, q1, q2.le le (Nat.le_refl _)⟩
  · obtain ⟨q1, q2, q3, q4⟩ := R.own i c e
    refine ⟨?_, q2, q3, q4.le le.toLe (Nat.le_refl _)⟩
    show upd g.S p u (g.ro i) = none
    rw [upd_ne (h3 i c e)]; exact q1
  · obtain ⟨q1, q2, q3, q4⟩ := R.frm a w f
    refine ⟨q1, ?_, q3, q4⟩
    show upd g.S p u a = none
    rw [upd_ne (fun z => by subst z; have z := f.1; rw [h4] at z; cases z)]; exact q2
  · by_cases q : a = p
    · subst q; exact .inr h4
    · have e : upd g.S p u a = some w := e
      rw [upd_ne q] at e; exact R.newS a w e
/-- an answer frozen -/
theorem Rl.freeze {y : Y} {v : V} (R : Rl K G g sl s σ H) (h : RepY K G g sl s H y v) : ∃ g', LeO g g' s.O.length ∧ Rl K G g' sl s σ H ∧ RepW K g' s.O.length (frz y) v := by
  cases y with
  | w x => exact ⟨g, .rfl, R, h⟩
  | fr c =>
    obtain ⟨p, rfl, h1, h2, h3, h4, h5, h6, h7⟩ := h
    cases c with
    | lst xs =>
      obtain ⟨vs, r, e⟩ := h6
      have sub : Sub g.S (upd g.S p (.lst vs)) := Sub.upd h1
      refine ⟨{ g with S := upd g.S p (.lst vs) }, ⟨⟨sub, fun _ _ => rfl, rfl⟩, fun _ => rfl⟩, R.stable h1 h2 h3 h4 e e, ?_⟩
      show Rep K (upd g.S p (.lst vs)) (.lst xs) (.ref p)
      simp only [Rep]
      exact ⟨p, vs, rfl, upd_same, Reps.sub sub _ _ r⟩
    | dct kvs =>
      obtain ⟨vs, r, e | ⟨od, e⟩⟩ := h6
      · have sub : Sub g.S (upd g.S p (.dK vs)) := Sub.upd h1
        refine ⟨{ g with S := upd g.S p (.dK vs) }, ⟨⟨sub, fun _ _ => rfl, rfl⟩, fun _ => rfl⟩, R.stable h1 h2 h3 h4 e (.inl e), ?_⟩
        show Rep K (upd g.S p (.dK vs)) (.dct kvs) (.ref p)
        simp only [Rep]
        exact ⟨p, vs, rfl, upd_same, RepK.sub sub _ _ r⟩
      · exact absurd rfl (h5 _ e)
    | ins fs => exact absurd rfl (h7 fs)

/-- what may be read of a value -/
theorem Rl.peek {w : W} {v : V} {x : F} (R : Rl K G g sl s σ H) (h : RepW K g s.O.length w v) (e : pk sl s w = some x) : RepP K g.S H x v := by
  cases w with
  | f y =>
    have e' : y = x := by simpa using e
    subst e'
    exact Rep.p R.see h
  | c k =>
    obtain ⟨hk, rfl⟩ := h
    simp only [pk] at e
    split at e
    · rename_i xs hx
      cases e
      obtain ⟨vs, r, q⟩ := (R.cel k _ hx).2
      exact ⟨_, vs, rfl, q, r⟩
    · rename_i xs hx
      cases e
      obtain ⟨vs, r, q | ⟨od, q⟩⟩ := (R.cel k _ hx).2
      · exact ⟨_, vs, rfl, .inl q, r⟩
      · exact ⟨_, vs, rfl, .inr ⟨od, R.lck _ q⟩, r⟩
    · cases e
  | o i =>
    have h : v = .ref (g.ro i) := h
    subst h
    simp only [pk] at e
    split at e
    · rename_i xs hx
      cases e
      obtain ⟨_, _, _, vs, r, q⟩ := R.own i _ hx
      exact ⟨_, vs, rfl, q, r⟩
    · rename_i xs hx
      cases e
      obtain ⟨_, _, _, vs, r, q | ⟨od, q⟩⟩ := R.own i _ hx
      · exact ⟨_, vs, rfl, .inl q, r⟩
      · exact ⟨_, vs, rfl, .inr ⟨od, R.lck _ q⟩, r⟩
    · cases e
  | x _ => cases e
end

/-! ### the readings -/
/-- what the interpreter's answer lets follow -/
def OkE (K : PySem.W.Frag) (G : Gc) (g : Gh) (sl : List Sl) (s : Sto) (σ : St) (Q : VK) : R Y → Prop
  | .ok y s' => ∀ v g' H', LeO g g' s.O.length → s.O.length ≤ s'.O.length → Rl K G g' sl s' σ H' → RepY K G g' sl s' H' y v → Q v H'
  | .exc c s' => ∀ g' H', LeO g g' s.O.length → s.O.length ≤ s'.O.length → Rl K G g' sl s' σ H' → G.W (.ref (G.cls c)) none σ H'
  | .bad => False
def tD (K : PySem.W.Frag) (G : Gc) (m : M) : TE := fun σ H Q => ∃ g sl s, Rl K G g sl s σ H ∧ OkE K G g sl s σ Q (m sl s)
def OkA (K : PySem.W.Frag) (G : Gc) (g : Gh) (sl : List Sl) (s : Sto) (σ : St) (Q : List V → Hp → Prop) : R (List W) → Prop
  | .ok ws s' => ∀ vs g' H', LeO g g' s.O.length → s.O.length ≤ s'.O.length → Rl K G g' sl s' σ H' → Paired (RepW K g' s'.O.length) ws vs → Q vs H'
  | .exc c s' => ∀ g' H', LeO g g' s.O.length → s.O.length ≤ s'.O.length → Rl K G g' sl s' σ H' → G.W (.ref (G.cls c)) none σ H'
  | .bad => False
def tDA (K : PySem.W.Frag) (G : Gc) (m : MA) : TA := fun σ H Q => ∃ g sl s, Rl K G g sl s σ H ∧ OkA K G g sl s σ Q (m sl s)
def OkT (K : PySem.W.Frag) (G : Gc) (g : Gh) (sl : List Sl) (s : Sto) (σ : St) (Q : Bool → Hp → Prop) : R Y → Prop
  | .ok (.w (.f (.bl b))) s' => ∀ g' H', LeO g g' s.O.length → s.O.length ≤ s'.O.length → Rl K G g' sl s' σ H' → Q b H'
  | .exc c s' => ∀ g' H', LeO g g' s.O.length → s.O.length ≤ s'.O.length → Rl K G g' sl s' σ H' → G.W (.ref (G.cls c)) none σ H'
  | _ => False
def tDT (K : PySem.W.Frag) (G : Gc) (m : M) : TT := fun σ H Q => ∃ g sl s, Rl K G g sl s σ H ∧ OkT K G g sl s σ Q (m sl s)
abbrev DE (X : Cx) (G : Gc) (e : Expr) (m : M) : Prop := PE X e (tD X.K G m)
abbrev DA (X : Cx) (G : Gc) (es : List Expr) (m : MA) : Prop := PA X es (tDA X.K G m)
abbrev DT (X : Cx) (G : Gc) (e : Expr) (m : M) : Prop := PT X e (tDT X.K G m)
theorem _root_.L2.PE.wk {X : Cx} {e : Expr} {t t' : TE} (h : PE X e t) (k : ∀ σ H Q, t' σ H Q → t σ H Q) : PE X e t' := ⟨fun pins s σ H Q I q => h.run pins s σ H Q I (k σ H Q q)⟩
theorem _root_.L2.PA.wk {X : Cx} {e : List Expr} {t t' : TA} (h : PA X e t) (k : ∀ σ H Q, t' σ H Q → t σ H Q) : PA X e t' := ⟨fun pos pins s σ H Q I q => h.run pos pins s σ H Q I (k σ H Q q)⟩
theorem _root_.L2.PT.wk {X : Cx} {e : Expr} {t t' : TT} (h : PT X e t) (k : ∀ σ H Q, t' σ H Q → t σ H Q) : PT X e t' := ⟨fun pins s σ H Q I q => h.run pins s σ H Q I (k σ H Q q)⟩
theorem _root_.L2.PW.wk {X : Cx} {e : Expr} {t t' : TT} (h : PW X e t) (k : ∀ σ H Q, t' σ H Q → t σ H Q) : PW X e t' := ⟨fun wh pins s σ H Q I q => h.run wh pins s σ H Q I (k σ H Q q)⟩

section
variable {K : PySem.W.Frag} {G : Gc} {g g1 : Gh} {sl : List Sl} {s s1 : Sto} {σ : St} {H : Hp} {Q : VK}
/-- the answer was reached from an earlier state -/
theorem OkE.back {r : R Y} (h : OkE K G g sl s σ Q r) (l : LeO g g1 s.O.length) (hn : s.O.length ≤ s1.O.length) : OkE K G g1 sl s1 σ Q r := by
  cases r with
  | ok y s' => exact fun v g' H' a b c d => h v g' H' (l.trans a hn) (Nat.le_trans hn b) c d
  | exc c s' => exact fun g' H' a b c => h g' H' (l.trans a hn) (Nat.le_trans hn b) c
  | bad => exact h
theorem OkA.back {Q : List V → Hp → Prop} {r : R (List W)} (h : OkA K G g sl s σ Q r) (l : LeO g g1 s.O.length) (hn : s.O.length ≤ s1.O.length) : OkA K G g1 sl s1 σ Q r := by
  cases r with
  | ok y s' => exact fun v g' H' a b c d => h v g' H' (l.trans a hn) (Nat.le_trans hn b) c d
  | exc c s' => exact fun g' H' a b c => h g' H' (l.trans a hn) (Nat.le_trans hn b) c
  | bad => exact h
theorem OkT.back {Q : Bool → Hp → Prop} {r : R Y} (h : OkT K G g sl s σ Q r) (l : LeO g g1 s.O.length) (hn : s.O.length ≤ s1.O.length) : OkT K G g1 sl s1 σ Q r := by
  cases r with
  | ok y s' =>
    unfold OkT at h ⊢
    split at h
    · rename_i e; cases e; exact fun g' H' a b c => h g' H' (l.trans a hn) (Nat.le_trans hn b) c
    · rename_i e; cases e
    · exact h.elim
  | exc c s' => exact fun g' H' a b c => h g' H' (l.trans a hn) (Nat.le_trans hn b) c
  | bad => exact h
/-- THE STEP of an expression: its first part, then the rest -/
theorem tD.first {m : M} {k : W → M} (R : Rl K G g sl s σ H) (h : OkE K G g sl s σ Q (mW m k sl s)) {P : V → Hp → Prop}
    (hk : ∀ v w g' s' H', LeO g g' s.O.length → s.O.length ≤ s'.O.length → Rl K G g' sl s' σ H' → RepW K g' s'.O.length w v → OkE K G g' sl s' σ Q (k w sl s') → P v H') : tD K G m σ H P := by
  refine ⟨g, sl, s, R, ?_⟩
  simp only [mW] at h
  cases e : m sl s with
  | bad => rw [e] at h; exact h
  | exc c s' => rw [e] at h; exact h
  | ok y s' =>
    rw [e] at h
    intro v g' H' l hn R' r
    obtain ⟨g2, l2, R2, r2⟩ := R'.freeze r
    exact hk v (frz y) g2 s' H' (l.trans l2 hn) hn R2 r2 (OkE.back h (l.trans l2 hn) hn)
end

/-! ### operations by values -/
def Post (K : PySem.W.Frag) (S H : Hp) (Q : VK) : Op → Prop
  | .val x => ∀ v, Rep K S x v → Q v H
  | .new (.lst xs) => ∀ p vs, H p = none → Reps K S xs vs → Q (.ref p) (upd H p (.lst vs))
  | .new (.dct kvs) => ∀ p vs, H p = none → RepK K S kvs vs → Q (.ref p) (upd H p (.dK vs))
  | .new (.ins _) => False
  | .ntup xs => ∀ p vs, H p = none → Reps K S xs vs → Q (.ref p) (upd H p (.tup vs))
  | .bad => False
theorem post_of {K : PySem.W.Frag} {G : Gc} {g : Gh} {sl : List Sl} {s : Sto} {σ : St} {H : Hp} {Q : VK} {op : Op} (R : Rl K G g sl s σ H) (h : OkE K G g sl s σ Q (op.res s)) : Post K g.S H Q op := by
  cases op with
  | val x => exact fun v r => h v g H .rfl (Nat.le_refl _) R r
  | bad => exact h
  | ntup xs =>
    intro p vs hp r
    have hs := R.S_none hp
    have sub : Sub g.S (upd g.S p (.tup vs)) := Sub.upd hs
    have e : upd H p (.tup vs) p = some (.tup vs) := upd_same
    refine h (.ref p) { g with S := upd g.S p (.tup vs) } _ ⟨⟨sub, fun _ _ => rfl, rfl⟩, fun _ => rfl⟩ (Nat.le_refl _) ((R.new hp).stable hs (R.rc_ne hp) (R.ro_ne hp) (R.H0_none hp) e e) ?_
    show Rep K (upd g.S p (.tup vs)) (.tup xs) (.ref p)
    simp only [Rep]
    exact ⟨p, vs, rfl, upd_same, Reps.sub sub _ _ r⟩
  | new c =>
    cases c with
    | lst xs =>
      intro p vs hp r
      exact h (.ref p) g _ .rfl (Nat.le_refl _) (R.new hp) ⟨p, rfl, R.frAt hp ⟨vs, r, upd_same⟩ fun _ z => nomatch z⟩
    | dct kvs =>
      intro p vs hp r
      exact h (.ref p) g _ .rfl (Nat.le_refl _) (R.new hp) ⟨p, rfl, R.frAt hp ⟨vs, r, .inl upd_same⟩ fun _ z => nomatch z⟩
    | ins fs =>
      exact h
/-- the readings of operations, by data -/
def rD1 (K : PySem.W.Frag) (f : F → Op) : V → Hp → VK → Prop := fun x H Q => ∃ S a, Lk S H ∧ RepP K S H a x ∧ Post K S H Q (f a)
def rD2 (K : PySem.W.Frag) (f : F → F → Op) : R2 := fun x y H Q => ∃ S a b, Lk S H ∧ RepP K S H a x ∧ RepP K S H b y ∧ Post K S H Q (f a b)
inductive RepPs (K : PySem.W.Frag) (S H : Hp) : List F → List V → Prop
  | nil : RepPs K S H [] []
  | cons {x : F} {xs : List F} {v : V} {vs : List V} (h : RepP K S H x v) (t : RepPs K S H xs vs) : RepPs K S H (x :: xs) (v :: vs)
def rDn (K : PySem.W.Frag) (f : List F → Op) : List V → Hp → VK → Prop := fun vs H Q => ∃ S xs, Lk S H ∧ RepPs K S H xs vs ∧ Post K S H Q (f xs)
def rDm (K : PySem.W.Frag) (f : List F → Op) : V → List V → Hp → VK → Prop := fun v vs H Q => rDn K f (v :: vs) H Q
end Fm

/-! FD: expressions by construct. -/
namespace Fm
open PySem L2

section
variable {K : PySem.W.Frag} {G : Gc} {g : Gh} {sl : List Sl} {s : Sto} {σ : St} {H : Hp} {Q : VK}
theorem op1_post {f : F → Op} {w : W} {v : V} (R : Rl K G g sl s σ H) (r : RepW K g s.O.length w v) (h : OkE K G g sl s σ Q (op1 f w sl s)) : rD1 K f v H Q := by
  simp only [op1] at h
  cases e : pk sl s w with
  | none => rw [e] at h; exact h.elim
  | some x => rw [e] at h; exact ⟨g.S, x, R.see, R.peek r e, post_of R h⟩
theorem op2_post {f : F → F → Op} {w w2 : W} {v v2 : V} (R : Rl K G g sl s σ H) (r : RepW K g s.O.length w v) (r2 : RepW K g s.O.length w2 v2) (h : OkE K G g sl s σ Q (op2 f w w2 sl s)) : rD2 K f v v2 H Q := by
  simp only [op2] at h
  cases e : pk sl s w with
  | none => rw [e] at h; exact h.elim
  | some x =>
    cases e2 : pk sl s w2 with
    | none => rw [e, e2] at h; exact h.elim
    | some y => rw [e, e2] at h; exact ⟨g.S, x, y, R.see, R.peek r e, R.peek r2 e2, post_of R h⟩
theorem pks_rep (R : Rl K G g sl s σ H) : ∀ {ws : List W} {vs : List V} {xs : List F}, Paired (RepW K g s.O.length) ws vs → pks sl s ws = some xs → RepPs K g.S H xs vs
  | [], _, xs, .nil, e => by simp at e; subst e; exact .nil
  | w :: ws, _, xs, .cons r t, e => by
    simp only [pks] at e
    split at e
    · rename_i x ys e1 e2
      cases e
      exact .cons (R.peek r e1) (pks_rep R t e2)
    · cases e
theorem opN_post {f : List F → Op} {ws : List W} {vs : List V} (R : Rl K G g sl s σ H) (r : Paired (RepW K g s.O.length) ws vs) (h : OkE K G g sl s σ Q (opN f ws sl s)) : rDn K f vs H Q := by
  simp only [opN] at h
  cases e : pks sl s ws with
  | none => rw [e] at h; exact h.elim
  | some x => rw [e] at h; exact ⟨g.S, x, R.see, pks_rep R r e, post_of R h⟩
theorem tDA.go {m : MA} {k : List W → M} (R : Rl K G g sl s σ H) (h : OkE K G g sl s σ Q ((m sl s).bind fun ws s1 => k ws sl s1)) {P : List V → Hp → Prop}
    (hk : ∀ vs ws g' s' H', LeO g g' s.O.length → s.O.length ≤ s'.O.length → Rl K G g' sl s' σ H' → Paired (RepW K g' s'.O.length) ws vs → OkE K G g' sl s' σ Q (k ws sl s') → P vs H') : tDA K G m σ H P := by
  refine ⟨g, sl, s, R, ?_⟩
  cases e : m sl s with
  | bad => rw [e] at h; exact h
  | exc c s' => rw [e] at h; exact h
  | ok ws s' =>
    rw [e] at h
    intro vs g' H' l hn R' r
    exact hk vs ws g' s' H' l hn R' r (OkE.back h l hn)
/-- a test first -/
theorem tDT.go {m : M} {k1 k2 : M} (R : Rl K G g sl s σ H) (h : OkE K G g sl s σ Q ((m sl s).bind fun y s1 => match y with
      | .w (.f (.bl true)) => k1 sl s1
      | .w (.f (.bl false)) => k2 sl s1
      | _ => .bad)) {P : Bool → Hp → Prop}
    (h1 : ∀ g' s' H', LeO g g' s.O.length → s.O.length ≤ s'.O.length → Rl K G g' sl s' σ H' → OkE K G g' sl s' σ Q (k1 sl s') → P true H')
    (h2 : ∀ g' s' H', LeO g g' s.O.length → s.O.length ≤ s'.O.length → Rl K G g' sl s' σ H' → OkE K G g' sl s' σ Q (k2 sl s') → P false H') : tDT K G m σ H P := by
  refine ⟨g, sl, s, R, ?_⟩
  cases e : m sl s with
  | bad => rw [e] at h; exact h
  | exc c s' => rw [e] at h; exact h
  | ok y s' =>
    rw [e] at h
    simp only [Fm.R.bind_ok] at h
    split at h
    · intro g' H' l hn R'; exact h1 g' s' H' l hn R' (OkE.back h l hn)
    · intro g' H' l hn R'; exact h2 g' s' H' l hn R' (OkE.back h l hn)
    · exact h.elim
end

section
variable {X : Cx} {G : Gc} {a b c : Expr} {es : List Expr} {ma mb mc : M} {pos : Pos}
theorem de_var (i : Nat) {x : Str} (hN : X.N[i]? = some x := by rfl) (hv : Vis X.env.scope x := by first | exact Or.inl rfl | exact Or.inr (Or.inl rfl) | exact Or.inr (Or.inr rfl)) (hd : (x == ("__debug__" : Str)) = false := by decide)
    (hcd : (x == ("__classdict__" : Str)) = false := by decide) : DE X G (.Name x pos) (mVar i) :=
  (pe_var hN hv hd hcd).wk fun σ H Q ⟨g, sl, s, R, h⟩ => by
    simp only [mVar] at h
    split at h
    · rename_i w e
      obtain ⟨v, e1, r⟩ := R.val i w e
      exact ⟨v, e1, h v g H .rfl (Nat.le_refl _) R r⟩
    · rename_i d e
      obtain ⟨_, _, e1, _⟩ := R.own i d e
      exact ⟨_, e1, h _ g H .rfl (Nat.le_refl _) R rfl⟩
    · exact h.elim
theorem de_c {x : F} {v : V} {e : Expr} (he : PE X e (tC v)) (hx : ∀ K S, Rep K S x v) : DE X G e (mC x) :=
  he.wk fun σ H Q ⟨g, sl, s, R, h⟩ => h v g H .rfl (Nat.le_refl _) R (hx _ _)
theorem de_int {i : Int} {j : Nat} : DE X G (.Constant (.int i) j pos) (mC (.int i)) := de_c pe_int fun _ _ => by simp only [Rep]
theorem de_str {x : Str} {j : Nat} : DE X G (.Constant (.str x) j pos) (mC (.str x)) := de_c pe_str fun _ _ => by simp only [Rep]
theorem de_bl {x : Bool} {j : Nat} : DE X G (.Constant (.bool x) j pos) (mC (.bl x)) := de_c pe_bl fun _ _ => by simp only [Rep]
theorem de_non {j : Nat} : DE X G (.Constant .none j pos) (mC .non) := de_c pe_non fun _ _ => by simp only [Rep]
/-- a module's constant -/
theorem de_gint {x : Str} {i : Int} {t : Tok} (hg : Gl X x) (hm : X.mg x = some (.int i t)) (hd : (x == ("__debug__" : Str)) = false := by decide) : DE X G (.Name x pos) (mC (.int i)) :=
  de_c (pe_glob (v := .int i) hg hm ⟨_, rfl⟩ hd) fun _ _ => by simp only [Rep]
theorem de_gstr {x y : Str} {t : Tok} (hg : Gl X x) (hm : X.mg x = some (.str y t)) (hd : (x == ("__debug__" : Str)) = false := by decide) : DE X G (.Name x pos) (mC (.str y)) :=
  de_c (pe_glob (v := .str y) hg hm ⟨_, rfl⟩ hd) fun _ _ => by simp only [Rep]
theorem de_un {op : UnaryOp} {f : F → Op} (ho : UnR X (unaryOp op) (rD1 X.K f)) (ha : DE X G a ma) : DE X G (.UnaryOp op a pos) (mU f ma) :=
  (pe_un ho ha).wk fun σ H Q ⟨g, sl, s, R, h⟩ => tD.first R h fun v w g1 s1 H1 l1 n1 R1 r1 h1 => op1_post R1 r1 h1
theorem de_bin {op : Operator} {f : F → F → Op} (ho : OpR X (binaryOp op) (rD2 X.K f)) (ha : DE X G a ma) (hb : DE X G b mb) : DE X G (.BinOp a op b pos) (mB f ma mb) :=
  (pe_op ho ha hb).wk fun σ H Q ⟨g, sl, s, R, h⟩ => tD.first R h fun v w g1 s1 H1 l1 n1 R1 r1 h1 => tD.first R1 h1 fun u w2 g2 s2 H2 l2 n2 R2 r2 h2 => op2_post R2 (r1.le l2 n2) r2 h2
theorem de_cmp {op : CmpOp} {f : F → F → Op} (ho : OpR X (compareOp op) (rD2 X.K f)) (hm : behindInMarks op b = false) (ha : DE X G a ma) (hb : DE X G b mb) : DE X G (.Compare a [op] [b] pos) (mB f ma mb) :=
  (pe_cmpR ho ha hb hm).wk fun σ H Q ⟨g, sl, s, R, h⟩ => tD.first R h fun v w g1 s1 H1 l1 n1 R1 r1 h1 => tD.first R1 h1 fun u w2 g2 s2 H2 l2 n2 R2 r2 h2 => op2_post R2 (r1.le l2 n2) r2 h2
theorem de_ix {f : F → F → Op} (ho : IxR X (rD2 X.K f)) (hs : PlainIx b) (ha : DE X G a ma) (hb : DE X G b mb) : DE X G (.Subscript a b pos) (mB f ma mb) :=
  (pe_ix ho ha hb hs).wk fun σ H Q ⟨g, sl, s, R, h⟩ => tD.first R h fun v w g1 s1 H1 l1 n1 R1 r1 h1 => tD.first R1 h1 fun u w2 g2 s2 H2 l2 n2 R2 r2 h2 => op2_post R2 (r1.le l2 n2) r2 h2
theorem da_nil : DA X G [] aNil := pa_nil.wk fun σ H Q ⟨g, sl, s, R, h⟩ => h [] g H .rfl (Nat.le_refl _) R .nil
theorem da_cons {mr : MA} (ha : DE X G a ma) (hr : DA X G es mr) (hs : starEach (a :: es) X.env = (false, eval a X.env) :: starEach es X.env := by rfl) : DA X G (a :: es) (aCons ma mr) :=
  (pa_cons ha hr hs).wk fun σ H Q ⟨g, sl, s, R, h⟩ => by
    refine ⟨g, sl, s, R, ?_⟩
    simp only [aCons] at h
    cases e : ma sl s with
    | bad => rw [e] at h; exact h
    | exc c s' => rw [e] at h; exact h
    | ok y s1 =>
      rw [e] at h
      simp only [Fm.R.bind_ok] at h
      intro v g1 H1 l1 n1 R1 r1
      obtain ⟨g2, l2, R2, r2⟩ := R1.freeze r1
      have l12 := l1.trans l2 n1
      refine ⟨g2, sl, s1, R2, ?_⟩
      cases e2 : mr sl s1 with
      | bad => rw [e2] at h; exact h
      | exc c s' => rw [e2] at h; exact fun g' H' a b c => h g' H' (l12.trans a n1) (Nat.le_trans n1 b) c
      | ok ws s2 =>
        rw [e2] at h
        intro vs g3 H3 l3 n3 R3 r3
        exact h (v :: vs) g3 H3 (l12.trans l3 n1) (Nat.le_trans n1 n3) R3 (.cons (r2.le l3 n3) r3)
theorem de_callB {ma : MA} {e : Expr} {x : Str} {id : String} {f : List F → Op} {p : Pos} (hc : CallR X (.builtin id) (rDn X.K f)) (hg : Gl X x) (hm : X.mg x = none) (hv : bootBuiltins x = some (.builtin id)) (ha : DA X G (e :: es) ma) (hn : x ≠ "__name__" := by decide) (hdb : (x == ("__debug__" : Str)) = false := by decide)
    (he : starEach (e :: es) X.env = (false, eval e X.env) :: starEach es X.env := by rfl) (hpl : (backTo pos (starEach es X.env)).any (·.1) = false := by rfl) : DE X G (.Call (.Name x p) (e :: es) [] pos) (mN f ma) :=
  (pe_callB hc hg hm hv ha hn hdb he hpl).wk fun σ H Q ⟨g, sl, s, R, h⟩ => tDA.go R h fun vs ws g1 s1 H1 l1 n1 R1 r1 h1 => opN_post R1 r1 h1
theorem de_callTy {ma : MA} {e : Expr} {x : Str} {T : String} {f : List F → Op} {p : Pos} (hc : CallR X (.type T) (rDn X.K f)) (hg : Gl X x) (hm : X.mg x = none) (hv : bootBuiltins x = some (.type T)) (ha : DA X G (e :: es) ma) (hn : x ≠ "__name__" := by decide) (hdb : (x == ("__debug__" : Str)) = false := by decide)
    (he : starEach (e :: es) X.env = (false, eval e X.env) :: starEach es X.env := by rfl) (hpl : (backTo pos (starEach es X.env)).any (·.1) = false := by rfl) : DE X G (.Call (.Name x p) (e :: es) [] pos) (mN f ma) :=
  (pe_callTy hc hg hm hv ha hn hdb he hpl).wk fun σ H Q ⟨g, sl, s, R, h⟩ => tDA.go R h fun vs ws g1 s1 H1 l1 n1 R1 r1 h1 => opN_post R1 r1 h1
/-! ### displays -/
theorem fsOf_rep {K : PySem.W.Frag} {g : Gh} {n : Nat} : ∀ {ws : List W} {vs : List V} {xs : List F}, Paired (RepW K g n) ws vs → fsOf ws = some xs → Reps K g.S xs vs
  | [], _, xs, .nil, e => by simp at e; subst e; exact .nil
  | .f x :: ws, _, xs, .cons r t, e => by
    simp only [fsOf] at e
    split at e
    · rename_i ys e2
      cases e
      exact .cons r (fsOf_rep t e2)
    · cases e
  | .c _ :: ws, _, xs, .cons r t, e => by cases e
  | .o _ :: ws, _, xs, .cons r t, e => by cases e
  | .x _ :: ws, _, xs, .cons r t, e => by cases e
theorem de_lst {ma : MA} (ha : DA X G es ma) : DE X G (.List es pos) (mLst ma) :=
  (pe_lst ha).wk fun σ H Q ⟨g, sl, s, R, h⟩ => tDA.go (k := fun ws sl s1 => match fsOf ws with
      | some xs => if xs.length ≤ sizeLine then .ok (.fr (.lst xs)) s1 else .bad
      | none => .bad) R h fun vs ws g1 s1 H1 l1 n1 R1 r1 h1 => by
    split at h1
    · rename_i xs e
      have r := fsOf_rep r1 e
      split at h1
      · rename_i hl
        exact ⟨by rw [← r.length]; exact hl, fun p hp => post_of (op := .new (.lst xs)) R1 h1 p vs hp r⟩
      · exact h1.elim
    · exact h1.elim
theorem de_tup {ma : MA} {k : Nat} (ha : DA X G es ma) : DE X G (.Tuple es k pos) (mTup ma) :=
  (pe_tup ha).wk fun σ H Q ⟨g, sl, s, R, h⟩ => tDA.go (k := fun ws sl s1 => match fsOf ws with
      | some xs => if xs.length ≤ sizeLine then .ok (.w (.f (.tup xs))) s1 else .bad
      | none => .bad) R h fun vs ws g1 s1 H1 l1 n1 R1 r1 h1 => by
    split at h1
    · rename_i xs e
      have r := fsOf_rep r1 e
      split at h1
      · rename_i hl
        exact ⟨by rw [← r.length]; exact hl, fun p hp => post_of (op := .ntup xs) R1 h1 p vs hp r⟩
      · exact h1.elim
    · exact h1.elim
/-! ### truth -/
theorem dt_val (ha : DE X G a ma) (he : ∀ whole, isTrue a X.env whole = (do let v ← whole; standAt a.pos; holding [v] (truthy v)) := by intro _; rfl) : DT X G a ma :=
  (pt_val ha he).wk fun σ H Q ⟨g, sl, s, R, h⟩ => by
    refine ⟨g, sl, s, R, ?_⟩
    cases e : ma sl s with
    | bad => rw [e] at h; exact h
    | exc c s' => rw [e] at h; exact h
    | ok y s' =>
      rw [e] at h
      unfold OkT at h
      split at h
      · rename_i b s2 q
        cases q
        intro v g' H' l hn R' r
        exact ⟨b, by simpa only [RepY, RepW, Rep] using r, h g' H' l hn R'⟩
      · rename_i q; cases q
      · exact h.elim
theorem dt_cmp {op : CmpOp} {f : F → F → Op} (ho : OpR X (compareOp op) (rD2 X.K f)) (hm : behindInMarks op b = false) (ha : DE X G a ma) (hb : DE X G b mb) : DT X G (.Compare a [op] [b] pos) (mB f ma mb) :=
  (pt_cmpR ho ha hb hm).wk fun σ H Q ⟨g, sl, s, R, h⟩ => by
    have h' : OkE X.K G g sl s σ (fun x H' => ∃ k, x = .bl k ∧ Q k H') (mB f ma mb sl s) := by
      cases e : mB f ma mb sl s with
      | bad => rw [e] at h; exact h
      | exc c s' => rw [e] at h; exact h
      | ok y s' =>
        rw [e] at h
        unfold OkT at h
        split at h
        · rename_i b s2 q
          cases q
          intro v g' H' l hn R' r
          exact ⟨b, by simpa only [RepY, RepW, Rep] using r, h g' H' l hn R'⟩
        · rename_i q; cases q
        · exact h.elim
    exact tD.first R h' fun v w g1 s1 H1 l1 n1 R1 r1 h1 => tD.first R1 h1 fun u w2 g2 s2 H2 l2 n2 R2 r2 h2 => op2_post R2 (r1.le l2 n2) r2 h2

/-! ### and, or, not, if-else, chains -/
theorem bl_of {K : PySem.W.Frag} {G : Gc} {g : Gh} {sl : List Sl} {s : Sto} {H : Hp} {b : Bool} {v : V} (r : RepY K G g sl s H (.w (.f (.bl b))) v) : v = .bl b := by simpa only [RepY, RepW, Rep] using r
/-- a bool first, as a value -/
theorem tD.bool {K : PySem.W.Frag} {G : Gc} {g : Gh} {sl : List Sl} {s : Sto} {σ : St} {H : Hp} {Q : VK} {m : M} {k1 k2 : M} (R : Rl K G g sl s σ H) (h : OkE K G g sl s σ Q ((m sl s).bind fun y s1 => match y with
      | .w (.f (.bl true)) => k1 sl s1
      | .w (.f (.bl false)) => k2 sl s1
      | _ => .bad)) {P : VK}
    (h1 : ∀ g' s' H', LeO g g' s.O.length → s.O.length ≤ s'.O.length → Rl K G g' sl s' σ H' → OkE K G g' sl s' σ Q (k1 sl s') → P (.bl true) H')
    (h2 : ∀ g' s' H', LeO g g' s.O.length → s.O.length ≤ s'.O.length → Rl K G g' sl s' σ H' → OkE K G g' sl s' σ Q (k2 sl s') → P (.bl false) H') : tD K G m σ H P := by
  refine ⟨g, sl, s, R, ?_⟩
  cases e : m sl s with
  | bad => rw [e] at h; exact h
  | exc c s' => rw [e] at h; exact h
  | ok y s' =>
    rw [e] at h
    simp only [Fm.R.bind_ok] at h
    split at h
    · intro v g' H' l hn R' r; rw [bl_of r]; exact h1 g' s' H' l hn R' (OkE.back h l hn)
    · intro v g' H' l hn R' r; rw [bl_of r]; exact h2 g' s' H' l hn R' (OkE.back h l hn)
    · exact h.elim
theorem ok_bl {K : PySem.W.Frag} {G : Gc} {g : Gh} {sl : List Sl} {s : Sto} {σ : St} {H : Hp} {Q : VK} {b : Bool} (R : Rl K G g sl s σ H) (h : OkE K G g sl s σ Q (.ok (.w (.f (.bl b))) s)) : Q (.bl b) H :=
  h (.bl b) g H .rfl (Nat.le_refl _) R (by simp only [RepY, RepW, Rep])
theorem de_one {op} (ha : DE X G a ma) : DE X G (.BoolOp op [a] pos) ma := pe_one ha
theorem de_and {rest : List Expr} (ha : DE X G a ma) (hb : DE X G (.BoolOp .And (b :: rest) pos) mb) : DE X G (.BoolOp .And (a :: b :: rest) pos) (mAnd ma mb) :=
  (pe_and ha hb).wk fun σ H Q ⟨g, sl, s, R, h⟩ => tD.bool (k1 := mb) (k2 := fun _ s => .ok (.w (.f (.bl false))) s) R h (fun g1 s1 H1 l1 n1 R1 h1 => ⟨true, rfl, iteT ⟨g1, sl, s1, R1, h1⟩⟩) fun g1 s1 H1 l1 n1 R1 h1 => ⟨false, rfl, iteF (ok_bl R1 h1)⟩
theorem de_or {rest : List Expr} (ha : DE X G a ma) (hb : DE X G (.BoolOp .Or (b :: rest) pos) mb) : DE X G (.BoolOp .Or (a :: b :: rest) pos) (mOr ma mb) :=
  (pe_or ha hb).wk fun σ H Q ⟨g, sl, s, R, h⟩ => tD.bool (k1 := fun _ s => .ok (.w (.f (.bl true))) s) (k2 := mb) R (by
    have e : (mOr ma mb) sl s = ((ma sl s).bind fun y s1 => match y with
      | .w (.f (.bl true)) => (fun _ s => .ok (.w (.f (.bl true))) s : M) sl s1
      | .w (.f (.bl false)) => mb sl s1
      | _ => .bad) := by
        simp only [mOr]
        congr 1
        funext y s1
        split <;> simp_all
    rw [← e]; exact h) (fun g1 s1 H1 l1 n1 R1 h1 => ⟨true, rfl, iteT (ok_bl R1 h1)⟩) fun g1 s1 H1 l1 n1 R1 h1 => ⟨false, rfl, iteF ⟨g1, sl, s1, R1, h1⟩⟩
theorem de_not (ha : DE X G a ma) : DE X G (.UnaryOp .Not a pos) (mNot ma) :=
  (pe_not ha).wk fun σ H Q ⟨g, sl, s, R, h⟩ => tD.bool (k1 := fun _ s => .ok (.w (.f (.bl false))) s) (k2 := fun _ s => .ok (.w (.f (.bl true))) s) R (by
    have e : (mNot ma) sl s = ((ma sl s).bind fun y s1 => match y with
      | .w (.f (.bl true)) => (fun _ s => .ok (.w (.f (.bl false))) s : M) sl s1
      | .w (.f (.bl false)) => (fun _ s => .ok (.w (.f (.bl true))) s : M) sl s1
      | _ => .bad) := by
        simp only [mNot]
        congr 1
        funext y s1
        split
        · rename_i b; cases b <;> rfl
        · split <;> simp_all
    rw [← e]; exact h) (fun g1 s1 H1 l1 n1 R1 h1 => ⟨true, rfl, ok_bl R1 h1⟩) fun g1 s1 H1 l1 n1 R1 h1 => ⟨false, rfl, ok_bl R1 h1⟩
theorem de_if {c : Expr} {mc : M} (hc : DT X G c mc) (ha : DE X G a ma) (hb : DE X G b mb) : DE X G (.IfExp c a b pos) (mIf mc ma mb) :=
  (pe_ifExp hc ha hb).wk fun σ H Q ⟨g, sl, s, R, h⟩ => tDT.go R h (fun g1 s1 H1 l1 n1 R1 h1 => iteT ⟨g1, sl, s1, R1, h1⟩) fun g1 s1 H1 l1 n1 R1 h1 => iteF ⟨g1, sl, s1, R1, h1⟩
/-- a test's wish as a value's -/
theorem OkT.e {K : PySem.W.Frag} {G : Gc} {g : Gh} {sl : List Sl} {s : Sto} {σ : St} {Q : Bool → Hp → Prop} {r : R Y} (h : OkT K G g sl s σ Q r) : OkE K G g sl s σ (fun x H' => ∃ k, x = .bl k ∧ Q k H') r := by
  cases r with
  | bad => exact h
  | exc c s' => exact h
  | ok y s' =>
    unfold OkT at h
    split at h
    · rename_i b s2 q
      cases q
      intro v g' H' l hn R' r
      exact ⟨b, by simpa only [RepY, RepW, Rep] using r, h g' H' l hn R'⟩
    · rename_i q; cases q
    · exact h.elim
theorem OkE.t {K : PySem.W.Frag} {G : Gc} {g : Gh} {sl : List Sl} {s : Sto} {σ : St} {Q : Bool → Hp → Prop} {r : R Y} (h : OkE K G g sl s σ (fun x H' => ∃ k, x = .bl k ∧ Q k H') r) (hb : ∀ y s', r = .ok y s' → ∃ b, y = .w (.f (.bl b))) : OkT K G g sl s σ Q r := by
  cases r with
  | bad => exact h
  | exc c s' => exact h
  | ok y s' =>
    obtain ⟨b, rfl⟩ := hb y s' rfl
    intro g' H' l hn R'
    obtain ⟨k, e, q⟩ := h (.bl b) g' H' l hn R' (by simp only [RepY, RepW, Rep])
    cases e; exact q
/-- a bool first, as a test -/
theorem tDT.bool {K : PySem.W.Frag} {G : Gc} {g : Gh} {sl : List Sl} {s : Sto} {σ : St} {H : Hp} {Q : Bool → Hp → Prop} {m : M} {k1 k2 : M} (R : Rl K G g sl s σ H) (h : OkT K G g sl s σ Q ((m sl s).bind fun y s1 => match y with
      | .w (.f (.bl true)) => k1 sl s1
      | .w (.f (.bl false)) => k2 sl s1
      | _ => .bad)) {P : Bool → Hp → Prop}
    (h1 : ∀ g' s' H', LeO g g' s.O.length → s.O.length ≤ s'.O.length → Rl K G g' sl s' σ H' → OkT K G g' sl s' σ Q (k1 sl s') → P true H')
    (h2 : ∀ g' s' H', LeO g g' s.O.length → s.O.length ≤ s'.O.length → Rl K G g' sl s' σ H' → OkT K G g' sl s' σ Q (k2 sl s') → P false H') : tDT K G m σ H P := by
  refine ⟨g, sl, s, R, ?_⟩
  cases e : m sl s with
  | bad => rw [e] at h; exact h
  | exc c s' => rw [e] at h; exact h
  | ok y s' =>
    rw [e] at h
    simp only [Fm.R.bind_ok] at h
    split at h
    · intro g' H' l hn R'; exact h1 g' s' H' l hn R' (OkT.back h l hn)
    · intro g' H' l hn R'; exact h2 g' s' H' l hn R' (OkT.back h l hn)
    · exact h.elim
theorem okT_bl {K : PySem.W.Frag} {G : Gc} {g : Gh} {sl : List Sl} {s : Sto} {σ : St} {H : Hp} {Q : Bool → Hp → Prop} {b : Bool} (R : Rl K G g sl s σ H) (h : OkT K G g sl s σ Q (.ok (.w (.f (.bl b))) s)) : Q b H :=
  h g H .rfl (Nat.le_refl _) R
abbrev DW (X : Cx) (G : Gc) (e : Expr) (m : M) : Prop := PW X e (tDT X.K G m)
theorem dw_and1 (ha : DT X G a ma) : DW X G (.BoolOp .And [a] pos) ma := pw_and1 ha
theorem dw_or1 (ha : DT X G a ma) : DW X G (.BoolOp .Or [a] pos) ma := pw_or1 ha
theorem mOr_eq (ma mb : M) (sl : List Sl) (s : Sto) : (mOr ma mb) sl s = ((ma sl s).bind fun y s1 => match y with
      | .w (.f (.bl true)) => (fun _ s => .ok (.w (.f (.bl true))) s : M) sl s1
      | .w (.f (.bl false)) => mb sl s1
      | _ => .bad) := by
  simp only [mOr]
  congr 1
  funext y s1
  split <;> simp_all
theorem mNot_eq (ma : M) (sl : List Sl) (s : Sto) : (mNot ma) sl s = ((ma sl s).bind fun y s1 => match y with
      | .w (.f (.bl true)) => (fun _ s => .ok (.w (.f (.bl false))) s : M) sl s1
      | .w (.f (.bl false)) => (fun _ s => .ok (.w (.f (.bl true))) s : M) sl s1
      | _ => .bad) := by
  simp only [mNot]
  congr 1
  funext y s1
  split
  · rename_i b; cases b <;> rfl
  · split <;> simp_all
theorem dw_and {rest : List Expr} (ha : DT X G a ma) (hb : DW X G (.BoolOp .And (b :: rest) pos) mb) : DW X G (.BoolOp .And (a :: b :: rest) pos) (mAnd ma mb) :=
  (pw_and ha hb).wk fun σ H Q ⟨g, sl, s, R, h⟩ => tDT.bool (k1 := mb) (k2 := fun _ s => .ok (.w (.f (.bl false))) s) R h (fun g1 s1 H1 l1 n1 R1 h1 => iteT ⟨g1, sl, s1, R1, h1⟩) fun g1 s1 H1 l1 n1 R1 h1 => iteF (okT_bl R1 h1)
theorem dw_or {rest : List Expr} (ha : DT X G a ma) (hb : DW X G (.BoolOp .Or (b :: rest) pos) mb) : DW X G (.BoolOp .Or (a :: b :: rest) pos) (mOr ma mb) :=
  (pw_or ha hb).wk fun σ H Q ⟨g, sl, s, R, h⟩ => tDT.bool (k1 := fun _ s => .ok (.w (.f (.bl true))) s) (k2 := mb) R (by rw [← mOr_eq]; exact h) (fun g1 s1 H1 l1 n1 R1 h1 => iteT (okT_bl R1 h1)) fun g1 s1 H1 l1 n1 R1 h1 => iteF ⟨g1, sl, s1, R1, h1⟩
theorem dt_w {e : Expr} {m : M} (h : DW X G e m) : DT X G e m := PW.pt h
theorem dt_not (ha : DT X G a ma) : DT X G (.UnaryOp .Not a pos) (mNot ma) :=
  (pt_not ha).wk fun σ H Q ⟨g, sl, s, R, h⟩ => tDT.bool (k1 := fun _ s => .ok (.w (.f (.bl false))) s) (k2 := fun _ s => .ok (.w (.f (.bl true))) s) R (by rw [← mNot_eq]; exact h) (fun g1 s1 H1 l1 n1 R1 h1 => okT_bl R1 h1) fun g1 s1 H1 l1 n1 R1 h1 => okT_bl R1 h1
/-! ### is None -/
theorem isN_rep {K : PySem.W.Frag} {g : Gh} {n : Nat} {w : W} {v : V} (r : RepW K g n w v) : decide (v = .non) = isN w := by
  cases w with
  | f x => cases x <;> simp only [RepW, Rep] at r <;> first | (subst r; rfl) | (obtain ⟨a, vs, rfl, _⟩ := r; rfl) | (obtain ⟨a, rfl, _⟩ := r; rfl)
  | c k => obtain ⟨_, rfl⟩ := r; rfl
  | o i => have r : v = .ref (g.ro i) := r; subst r; rfl
  | x c => exact r.elim
theorem de_isN {j : Nat} {p2 : Pos} (ha : DE X G a ma) : DE X G (.Compare a [.Is] [.Constant .none j p2] pos) (mIsN ma) :=
  (pe_cmp (pc_isN ha)).wk fun σ H Q ⟨g, sl, s, R, h⟩ => tD.first R h fun v w g1 s1 H1 l1 n1 R1 r1 h1 => by rw [isN_rep r1]; exact ok_bl R1 h1
theorem de_notN {j : Nat} {p2 : Pos} (ha : DE X G a ma) : DE X G (.Compare a [.IsNot] [.Constant .none j p2] pos) (mNotN ma) :=
  (pe_cmp (pc_notN ha)).wk fun σ H Q ⟨g, sl, s, R, h⟩ => tD.first R h fun v w g1 s1 H1 l1 n1 R1 r1 h1 => by rw [isN_rep r1]; exact ok_bl R1 h1
theorem dt_isN {j : Nat} {p2 : Pos} (ha : DE X G a ma) : DT X G (.Compare a [.Is] [.Constant .none j p2] pos) (mIsN ma) :=
  (pt_cmp (pc_isN ha)).wk fun σ H Q ⟨g, sl, s, R, h⟩ => tD.first R h.e fun v w g1 s1 H1 l1 n1 R1 r1 h1 => by rw [isN_rep r1]; exact ok_bl R1 h1
theorem dt_notN {j : Nat} {p2 : Pos} (ha : DE X G a ma) : DT X G (.Compare a [.IsNot] [.Constant .none j p2] pos) (mNotN ma) :=
  (pt_cmp (pc_notN ha)).wk fun σ H Q ⟨g, sl, s, R, h⟩ => tD.first R h.e fun v w g1 s1 H1 l1 n1 R1 r1 h1 => by rw [isN_rep r1]; exact ok_bl R1 h1
/-! ### a < b < c -/
theorem chain_go {K : PySem.W.Frag} {f f' : F → F → Op} {g : Gh} {sl : List Sl} {s : Sto} {σ : St} {H : Hp} {Q : VK} {w u : W} {v v2 : V} (R : Rl K G g sl s σ H) (r1 : RepW K g s.O.length w v) (r2 : RepW K g s.O.length u v2)
    (h : OkE K G g sl s σ Q ((op2 f w u sl s).bind fun y s1 => match y with
      | .w (.f (.bl true)) => mW mc (op2 f' u) sl s1
      | .w (.f (.bl false)) => .ok (.w (.f (.bl false))) s1
      | _ => .bad)) : rD2 K f v v2 H fun z H3 => ∃ k, z = .bl k ∧ (if k = true then tD K G mc σ H3 fun w' H4 => rD2 K f' v2 w' H4 Q else Q (.bl false) H3) := by
  refine op2_post R r1 r2 ?_
  cases e : op2 f w u sl s with
  | bad => rw [e] at h; exact h
  | exc c s' => simp only [op2] at e; split at e <;> (try cases e) <;> (rename_i x y _ _; cases q : f x y <;> (rw [q] at e; simp only [Op.res] at e; try cases e) <;> (rename_i c; cases c <;> cases e))
  | ok y s' =>
    rw [e] at h
    simp only [Fm.R.bind_ok] at h
    split at h
    · intro z g' H' l hn R' rz
      rw [bl_of rz]
      refine ⟨true, rfl, iteT ?_⟩
      exact tD.first R' (OkE.back h l hn) fun v3 w3 g2 s2 H2 l2 n2 R2 r3 h3 => op2_post R2 (r2.le (l.trans l2 hn) (Nat.le_trans hn n2)) r3 h3
    · intro z g' H' l hn R' rz
      rw [bl_of rz]
      exact ⟨false, rfl, iteF (ok_bl R' (OkE.back h l hn))⟩
    · exact h.elim
theorem de_chain {op op' : CmpOp} {f f' : F → F → Op} (ho : OpR X (compareOp op) (rD2 X.K f)) (ho' : OpR X (compareOp op') (rD2 X.K f')) (ha : DE X G a ma) (hb : DE X G b mb) (hc : DE X G c mc)
    (hm : lastMarks [op, op'] [b, c] = false := by with_unfolding_all rfl) : DE X G (.Compare a [op, op'] [b, c] pos) (mCh f f' ma mb mc) :=
  (pe_chain ho ho' ha hb hc hm).wk fun σ H Q ⟨g, sl, s, R, h⟩ => tD.first R h fun v w g1 s1 H1 l1 n1 R1 r1 h1 => tD.first R1 h1 fun u w2 g2 s2 H2 l2 n2 R2 r2 h2 => chain_go R2 (r1.le l2 n2) r2 h2
theorem dt_chain {op op' : CmpOp} {f f' : F → F → Op} (ho : OpR X (compareOp op) (rD2 X.K f)) (ho' : OpR X (compareOp op') (rD2 X.K f')) (ha : DE X G a ma) (hb : DE X G b mb) (hc : DE X G c mc)
    (hm : lastMarks [op, op'] [b, c] = false := by with_unfolding_all rfl) : DT X G (.Compare a [op, op'] [b, c] pos) (mCh f f' ma mb mc) :=
  (pt_chain ho ho' ha hb hc hm).wk fun σ H Q ⟨g, sl, s, R, h⟩ => tD.first R h.e fun v w g1 s1 H1 l1 n1 R1 r1 h1 => tD.first R1 h1 fun u w2 g2 s2 H2 l2 n2 R2 r2 h2 => chain_go R2 (r1.le l2 n2) r2 h2
/-! ### slices -/
abbrev DO (X : Cx) (G : Gc) (e : Option Expr) (m : MO) : Prop := (e = none ∧ m = none) ∨ ∃ a ma, e = some a ∧ m = some ma ∧ DE X G a ma
def tDO (K : PySem.W.Frag) (G : Gc) : MO → TO
  | none => tNoPart
  | some m => tPart (tD K G m)
theorem do_none : PO X none (tDO X.K G none) := po_none
theorem do_some (ha : DE X G a ma) : PO X (some a) (tDO X.K G (some ma)) := po_some ha
theorem part_go {K : PySem.W.Frag} {G : Gc} {g : Gh} {sl : List Sl} {s : Sto} {σ : St} {H : Hp} {Q : VK} {m : MO} {k : Option Int → M} (R : Rl K G g sl s σ H) (h : OkE K G g sl s σ Q (mPart m k sl s)) {P : Option Int → Hp → Prop}
    (hk : ∀ i g' s' H', LeO g g' s.O.length → s.O.length ≤ s'.O.length → Rl K G g' sl s' σ H' → OkE K G g' sl s' σ Q (k i sl s') → P i H') : tDO K G m σ H P := by
  cases m with
  | none => exact hk none g s H .rfl (Nat.le_refl _) R h
  | some m =>
    refine tD.first (k := fun w sl s => match w with
      | .f (.int i) => k (some i) sl s
      | _ => .bad) R h fun v w g1 s1 H1 l1 n1 R1 r1 h1 => ?_
    split at h1
    · rename_i i
      exact ⟨i, by simpa only [RepW, Rep] using r1, hk (some i) g1 s1 H1 l1 n1 R1 h1⟩
    · exact h1.elim
theorem de_slice {p2 : Pos} {lo hi : Option Expr} {ml mh : MO} {r : V → Option Int → Option Int → Hp → VK → Prop} {f : F → Option Int → Option Int → Op} (hr : SlR X r) (hf : ∀ S a x i j H Q, Lk S H → RepP X.K S H a x → Post X.K S H Q (f a i j) → r x i j H Q)
    (ha : DE X G a ma) (hl : PO X lo (tDO X.K G ml)) (hh : PO X hi (tDO X.K G mh)) : DE X G (.Subscript a (.Slice lo hi none p2) pos) (mSl f ma ml mh) :=
  (pe_slice hr ha hl hh).wk fun σ H Q ⟨g, sl, s, R, h⟩ => tD.first R h fun v w g1 s1 H1 l1 n1 R1 r1 h1 => part_go R1 h1 fun i g2 s2 H2 l2 n2 R2 h2 => part_go R2 h2 fun j g3 s3 H3 l3 n3 R3 h3 => by
    obtain ⟨S, x, q1, q2, q3⟩ := op1_post R3 (r1.le (l2.trans l3 n2) (Nat.le_trans n2 n3)) h3
    exact hf S x v i j H3 Q q1 q2 q3
end
end Fm

/-! FE: statements. -/
namespace Fm
open PySem L2

section
variable {K : PySem.W.Frag} {G : Gc} {g g' : Gh} {sl : List Sl} {s s' : Sto} {σ : St} {H H' : Hp} {n m : Nat} {C a p : Addr} {c : Ct} {i : Nat}
theorem slv {sl : List Sl} {i j : Nat} {x y : Sl} (h : (sl.set i x)[j]? = some y) : (j = i ∧ i < sl.length ∧ y = x) ∨ (j ≠ i ∧ sl[j]? = some y) := by
  by_cases e : j = i
  · subst e
    by_cases hl : j < sl.length
    · rw [List.getElem?_set_self hl] at h; cases h; exact .inl ⟨rfl, hl, rfl⟩
    · rw [List.getElem?_eq_none (by simpa using hl)] at h; cases h
  · rw [List.getElem?_set_ne (fun z => e z.symm)] at h
    exact .inr ⟨e, h⟩
/-- a slot holds a value -/
theorem Rl.setV {w : W} {v : V} (R : Rl K G g sl s σ H) (r : RepW K g s.O.length w v) (hw : slotOk w = true) (hx : G.xs = none) : Rl K G g (sl.set i (Sl.v w)) s (σ.set i (some v)) H := by
  refine { toRlH := R.toRlH, len := by simpa using R.len, sok := fun j w' e => ?_, exs := fun j b e => ?_, val := fun j w' e => ?_, own := fun j c e => ?_, oni := fun j fs e => (slv e).elim (fun z => nomatch z.2.2) fun z => R.oni j fs z.2, oin := fun j k c d e e' => ?_, frm := fun a u f => ?_, newS := R.newS, newC := R.newC, oldC := R.oldC, n0le := R.n0le, newO := fun j c e => ?_, dom := R.dom, subS := R.subS }
  · rcases slv e with ⟨_, _, q⟩ | ⟨_, q⟩
    · cases q; exact hw
    · exact R.sok j w' q
  · rw [hx] at e; cases e
  · rcases slv e with ⟨q, hl, z⟩ | ⟨q, z⟩
    · cases z
      subst q
      exact ⟨v, by rw [List.getElem?_set_self (by rw [← R.len]; exact hl)], r⟩
    · obtain ⟨v', e1, r1⟩ := R.val j w' z
      exact ⟨v', by rw [List.getElem?_set_ne (fun z => q z.symm)]; exact e1, r1⟩
  · rcases slv e with ⟨_, _, q⟩ | ⟨q, z⟩
    · cases q
    · obtain ⟨h1, h2, h3, h4⟩ := R.own j c z
      exact ⟨h1, h2, by rw [List.getElem?_set_ne (fun z => q z.symm)]; exact h3, h4⟩
  · rcases slv e with ⟨_, _, q⟩ | ⟨q, z⟩
    · cases q
    · rcases slv e' with ⟨_, _, q'⟩ | ⟨q', z'⟩
      · cases q'
      · exact R.oin j k c d z z'
  · obtain ⟨h1, h2, h3, h4⟩ := R.frm a u f
    refine ⟨h1, h2, h3, fun j c e => ?_⟩
    rcases slv e with ⟨_, _, q⟩ | ⟨q, z⟩
    · cases q
    · exact h4 j c z
  · rcases slv e with ⟨_, _, q⟩ | ⟨q, z⟩
    · cases q
    · exact R.newO j c z
/-- a slot is forgotten -/
theorem Rl.setNo {v : Option V} (R : Rl K G g sl s σ H) (hx : G.xs = none) : Rl K G g (sl.set i Sl.no) s (σ.set i v) H := by
  refine { toRlH := R.toRlH, len := by simpa using R.len, sok := fun j w' e => ?_, exs := fun j b e => ?_, val := fun j w' e => ?_, own := fun j c e => ?_, oni := fun j fs e => (slv e).elim (fun z => nomatch z.2.2) fun z => R.oni j fs z.2, oin := fun j k c d e e' => ?_, frm := fun a u f => ?_, newS := R.newS, newC := R.newC, oldC := R.oldC, n0le := R.n0le, newO := fun j c e => ?_, dom := R.dom, subS := R.subS }
  · rcases slv e with ⟨_, _, q⟩ | ⟨_, q⟩
    · cases q
    · exact R.sok j w' q
  · rw [hx] at e; cases e
  · rcases slv e with ⟨q, hl, z⟩ | ⟨q, z⟩
    · cases z
    · obtain ⟨v', e1, r1⟩ := R.val j w' z
      exact ⟨v', by rw [List.getElem?_set_ne (fun z => q z.symm)]; exact e1, r1⟩
  · rcases slv e with ⟨_, _, q⟩ | ⟨q, z⟩
    · cases q
    · obtain ⟨h1, h2, h3, h4⟩ := R.own j c z
      exact ⟨h1, h2, by rw [List.getElem?_set_ne (fun z => q z.symm)]; exact h3, h4⟩
  · rcases slv e with ⟨_, _, q⟩ | ⟨q, z⟩
    · cases q
    · rcases slv e' with ⟨_, _, q'⟩ | ⟨q', z'⟩
      · cases q'
      · exact R.oin j k c d z z'
  · obtain ⟨h1, h2, h3, h4⟩ := R.frm a u f
    refine ⟨h1, h2, h3, fun j c e => ?_⟩
    rcases slv e with ⟨_, _, q⟩ | ⟨q, z⟩
    · cases q
    · exact h4 j c z
  · rcases slv e with ⟨_, _, q⟩ | ⟨q, z⟩
    · cases q
    · exact R.newO j c z
/-- what slot i owns, given up: its object is free to be handed out -/
theorem Rl.giveUp (R : Rl K G g sl s σ H) (e : sl[i]? = some (Sl.own c)) (hi : ∀ fs, c ≠ .ins fs) : FrAt K G g (sl.set i Sl.no) s H (g.ro i) c := by
  obtain ⟨h1, h2, h3, h4⟩ := R.own i c e
  refine ⟨h1, h2, fun j d q => ?_, R.newO i c e, fun x hx q => ?_, h4, hi⟩
  · rcases slv q with ⟨_, _, z⟩ | ⟨z, q⟩
    · cases z
    · exact fun k => z (R.oin j i d c q e k)
  · obtain ⟨w, hw, z⟩ := paired_mem R.lkw x hx
    cases w with
    | f y =>
      cases y with
      | dct kvs =>
        obtain ⟨z1, _⟩ := z
        rw [q, h1] at z1; cases z1
      | _ => exact z
    | c k => exact h2 k z.1 (z.2.trans q)
    | _ => exact z
/-- a slot owns a new object -/
theorem Rl.setO (R : Rl K G g sl s σ H) (f : FrAt K G g sl s H p c) (hx : G.xs = none) : Rl K G { g with ro := fun j => if j = i then p else g.ro j } (sl.set i (Sl.own c)) s (σ.set i (some (.ref p))) H := by
  obtain ⟨f1, f2, f3, f4, f5, f6, f7⟩ := f
  have cw : ∀ {n : Nat} {a : Addr} {d : Ct}, CelAt K G.C g n H a d → CelAt K G.C { g with ro := fun j => if j = i then p else g.ro j } n H a d := fun {n a d} h => by
    cases d <;> exact h
  have rw' : ∀ {n : Nat} {w : W} {v : V}, slotOk w = true → RepW K g n w v → RepW K { g with ro := fun j => if j = i then p else g.ro j } n w v := fun {n w v} q h => by
    cases w with
    | o k => cases q
    | _ => exact h
  have nf : ∀ a u, G.F a u → a ≠ p := fun a u f z => by have q := f.1; rw [z, f4] at q; cases q
  refine { see := R.see, exa := R.exa, cel := fun k d e => ⟨(R.cel k d e).1, cw (R.cel k d e).2⟩, cin := R.cin, lck := R.lck, lkw := paired_imp R.lkw fun w x z => ?_, lnd := R.lnd, len := by simpa using R.len, sok := fun j w' e => ?_, exs := fun j b e => ?_, val := fun j w' e => ?_, own := fun j d e => ?_, oni := fun j fs e => (slv e).elim (fun z => f7 fs (Sl.own.inj z.2.2).symm) fun z => R.oni j fs z.2, oin := fun j k d d' e e' => ?_, frm := fun a u f => ?_, newS := R.newS, newC := R.newC, oldC := R.oldC, n0le := R.n0le, newO := fun j d e => ?_, dom := R.dom, subS := R.subS }
  · cases w with
    | f y => cases y <;> exact z
    | _ => exact z
  · rcases slv e with ⟨_, _, q⟩ | ⟨_, q⟩
    · cases q
    · exact R.sok j w' q
  · rw [hx] at e; cases e
  · rcases slv e with ⟨q, hl, z⟩ | ⟨q, z⟩
    · cases z
    · obtain ⟨v', e1, r1⟩ := R.val j w' z
      exact ⟨v', by rw [List.getElem?_set_ne (fun z => q z.symm)]; exact e1, rw' (R.sok j w' z) r1⟩
  · rcases slv e with ⟨q, hl, z⟩ | ⟨q, z⟩
    · cases z
      subst q
      show g.S (if j = j then p else g.ro j) = none ∧ (∀ k, k < s.O.length → g.rc k ≠ (if j = j then p else g.ro j)) ∧ (σ.set j (some (.ref p)))[j]? = some (some (.ref (if j = j then p else g.ro j))) ∧ CelAt K G.C _ s.O.length H (if j = j then p else g.ro j) _
      rw [if_pos rfl]
      exact ⟨f1, f2, by rw [List.getElem?_set_self (by rw [← R.len]; exact hl)], cw f6⟩
    · show g.S (if j = i then p else g.ro j) = none ∧ (∀ k, k < s.O.length → g.rc k ≠ (if j = i then p else g.ro j)) ∧ (σ.set i (some (.ref p)))[j]? = some (some (.ref (if j = i then p else g.ro j))) ∧ CelAt K G.C _ s.O.length H (if j = i then p else g.ro j) d
      rw [if_neg q]
      obtain ⟨h1, h2, h3, h4⟩ := R.own j d z
      exact ⟨h1, h2, by rw [List.getElem?_set_ne (fun z => q z.symm)]; exact h3, cw h4⟩
  · show (if j = i then p else g.ro j) = (if k = i then p else g.ro k) → j = k
    rcases slv e with ⟨q, _, _⟩ | ⟨q, z⟩
    · rcases slv e' with ⟨q', _, _⟩ | ⟨q', z'⟩
      · intro _; rw [q, q']
      · rw [if_pos q, if_neg q']; intro h; exact absurd h.symm (f3 k d' z')
    · rcases slv e' with ⟨q', _, _⟩ | ⟨q', z'⟩
      · rw [if_neg q, if_pos q']; intro h; exact absurd h (f3 j d z)
      · rw [if_neg q, if_neg q']; exact R.oin j k d d' z z'
  · obtain ⟨h1, h2, h3, h4⟩ := R.frm a u f
    refine ⟨h1, h2, h3, fun j d e => ?_⟩
    show (if j = i then p else g.ro j) ≠ a
    rcases slv e with ⟨q, _, _⟩ | ⟨q, z⟩
    · rw [if_pos q]; exact (nf a u f).symm
    · rw [if_neg q]; exact h4 j d z
  · show G.H0 (if j = i then p else g.ro j) = none
    rcases slv e with ⟨q, _, _⟩ | ⟨q, z⟩
    · rw [if_pos q]; exact f4
    · rw [if_neg q]; exact R.newO j d z
/-- a new object in a cell -/
theorem Rl.push0 (R : Rl K G g sl s σ H) (f1 : g.S p = none) (f2 : ∀ k, k < s.O.length → g.rc k ≠ p) (f3 : ∀ (i : Nat) (d : Ct), sl[i]? = some (Sl.own d) → g.ro i ≠ p) (f4 : G.H0 p = none) (f5 : ∀ x ∈ g.La, x.1 ≠ p) (f6 : CelAt K G.C g s.O.length H p c) : Rl K G { g with rc := fun k => if k = s.O.length then p else g.rc k } sl { s with O := s.O ++ [c] } σ H ∧
    LeO g { g with rc := fun k => if k = s.O.length then p else g.rc k } s.O.length := by
  have le : LeO g { g with rc := fun k => if k = s.O.length then p else g.rc k } s.O.length := ⟨⟨Sub.rfl, fun k hk => if_neg (Nat.ne_of_lt hk), rfl⟩, fun _ => rfl⟩
  have hn : s.O.length ≤ (s.O ++ [c]).length := by simp
  have nf : ∀ a u, G.F a u → a ≠ p := fun a u f z => by have q := f.1; rw [z, f4] at q; cases q
  have kc : ∀ k, k < (s.O ++ [c]).length → (k < s.O.length ∧ (if k = s.O.length then p else g.rc k) = g.rc k) ∨ (k = s.O.length ∧ (if k = s.O.length then p else g.rc k) = p) := fun k hk => by
    by_cases e : k = s.O.length
    · exact .inr ⟨e, if_pos e⟩
    · have : k < s.O.length := by simp at hk; omega
      exact .inl ⟨this, if_neg e⟩
  refine ⟨{ see := R.see, exa := R.exa, cel := fun k d e => ?_, cin := fun j k hj hk e => ?_, lck := R.lck, lkw := paired_imp R.lkw fun w x z => ?_, lnd := R.lnd, len := R.len, sok := R.sok, exs := R.exs, val := fun j w' e => ?_, own := fun j d e => ?_, oni := R.oni, oin := R.oin, frm := fun a u f => ?_, newS := R.newS, newC := fun k h1 h2 => ?_, oldC := fun k hk => ?_, n0le := Nat.le_trans R.n0le hn, newO := R.newO, dom := R.dom, subS := R.subS }, le⟩
  · have hk := (List.getElem?_eq_some_iff.mp e).1
    rcases kc k hk with ⟨h1, h2⟩ | ⟨h1, h2⟩
    · show g.S (if k = s.O.length then p else g.rc k) = none ∧ CelAt K G.C _ (s.O ++ [c]).length H (if k = s.O.length then p else g.rc k) d
      rw [h2]
      have e : (s.O ++ [c])[k]? = some d := e
      rw [List.getElem?_append_left h1] at e
      exact ⟨(R.cel k d e).1, (R.cel k d e).2.le le.toLe hn⟩
    · show g.S (if k = s.O.length then p else g.rc k) = none ∧ CelAt K G.C _ (s.O ++ [c]).length H (if k = s.O.length then p else g.rc k) d
      rw [h2]
      have e : (s.O ++ [c])[k]? = some d := e
      rw [h1, List.getElem?_append_right (Nat.le_refl _)] at e
      simp at e
      subst e
      exact ⟨f1, f6.le le.toLe hn⟩
  · have e : (if j = s.O.length then p else g.rc j) = (if k = s.O.length then p else g.rc k) := e
    rcases kc j hj with ⟨h1, h2⟩ | ⟨h1, h2⟩ <;> rcases kc k hk with ⟨h3, h4⟩ | ⟨h3, h4⟩
    · rw [h2, h4] at e; exact R.cin j k h1 h3 e
    · rw [h2, h4] at e; exact absurd e (f2 j h1)
    · rw [h2, h4] at e; exact absurd e.symm (f2 k h3)
    · rw [h1, h3]
  · cases w with
    | f y => cases y <;> exact z
    | c k => exact ⟨Nat.lt_of_lt_of_le z.1 hn, by show (if k = s.O.length then p else g.rc k) = _; rw [if_neg (Nat.ne_of_lt z.1)]; exact z.2⟩
    | _ => exact z
  · obtain ⟨v', e1, r1⟩ := R.val j w' e
    exact ⟨v', e1, r1.le le hn⟩
  · obtain ⟨h1, h2, h3, h4⟩ := R.own j d e
    refine ⟨h1, fun k hk => ?_, h3, h4.le le.toLe hn⟩
    show (if k = s.O.length then p else g.rc k) ≠ g.ro j
    rcases kc k hk with ⟨q1, q2⟩ | ⟨q1, q2⟩
    · rw [q2]; exact h2 k q1
    · rw [q2]; exact (f3 j d e).symm
  · obtain ⟨h1, h2, h3, h4⟩ := R.frm a u f
    refine ⟨h1, h2, fun k hk => ?_, h4⟩
    show (if k = s.O.length then p else g.rc k) ≠ a
    rcases kc k hk with ⟨q1, q2⟩ | ⟨q1, q2⟩
    · rw [q2]; exact h3 k q1
    · rw [q2]; exact (nf a u f).symm
  · show G.H0 (if k = s.O.length then p else g.rc k) = none
    rcases kc k h2 with ⟨q1, q2⟩ | ⟨q1, q2⟩
    · rw [q2]; exact R.newC k h1 q1
    · rw [q2]; exact f4
  · show (if k = s.O.length then p else g.rc k) = _
    rw [if_neg (Nat.ne_of_lt (Nat.lt_of_lt_of_le hk R.n0le))]; exact R.oldC k hk
theorem Rl.push (R : Rl K G g sl s σ H) (f : FrAt K G g sl s H p c) : Rl K G { g with rc := fun k => if k = s.O.length then p else g.rc k } sl { s with O := s.O ++ [c] } σ H ∧
    LeO g { g with rc := fun k => if k = s.O.length then p else g.rc k } s.O.length := R.push0 f.1 f.2.1 f.2.2.1 f.2.2.2.1 f.2.2.2.2.1 f.2.2.2.2.2.1
end

/-! ### what a statement lets follow -/
def OkS (K : PySem.W.Frag) (G : Gc) (g : Gh) (s : Sto) (D : Ends) : RS → Prop
  | .nx sl' s' => ∀ g' σ' H', Le g g' s.O.length → s.O.length ≤ s'.O.length → Rl K G g' sl' s' σ' H' → D.nx σ' H'
  | .rt y s' => ∀ v g' sl' σ' H', Le g g' s.O.length → s.O.length ≤ s'.O.length → Rl K G g' sl' s' σ' H' → RepY K G g' sl' s' H' y v → D.rt v H'
  | .bk sl' s' => ∀ g' σ' H', Le g g' s.O.length → s.O.length ≤ s'.O.length → Rl K G g' sl' s' σ' H' → D.bk σ' H'
  | .ct sl' s' => ∀ g' σ' H', Le g g' s.O.length → s.O.length ≤ s'.O.length → Rl K G g' sl' s' σ' H' → D.ct σ' H'
  | .exc c sl' s' => ∀ g' σ' H', Le g g' s.O.length → s.O.length ≤ s'.O.length → Rl K G g' sl' s' σ' H' → G.W (.ref (G.cls c)) none σ' H'
  | .bad => False
def tDS (K : PySem.W.Frag) (G : Gc) (m : MS) : TS := fun D σ H => ∃ g sl s, Rl K G g sl s σ H ∧ OkS K G g s D (m sl s)
abbrev DS (X : Cx) (G : Gc) (st : Stmt) (m : MS) : Prop := PS X st (tDS X.K G m)
abbrev DSs (X : Cx) (G : Gc) (st : List Stmt) (m : MS) : Prop := PSs X st (tDS X.K G m)
theorem _root_.L2.PS.wk {X : Cx} {e : Stmt} {t t' : TS} (h : PS X e t) (k : ∀ D σ H, t' D σ H → t D σ H) : PS X e t' := ⟨fun pins s σ H D I q => h.run pins s σ H D I (k D σ H q)⟩
theorem _root_.L2.PSs.wk {X : Cx} {e : List Stmt} {t t' : TS} (h : PSs X e t) (k : ∀ D σ H, t' D σ H → t D σ H) : PSs X e t' := ⟨fun pins s σ H D I q => h.run pins s σ H D I (k D σ H q)⟩
section
variable {K : PySem.W.Frag} {G : Gc} {g g1 : Gh} {sl : List Sl} {s s1 : Sto} {σ : St} {H : Hp} {D : Ends}
theorem OkS.back {r : RS} (h : OkS K G g s D r) (l : Le g g1 s.O.length) (hn : s.O.length ≤ s1.O.length) : OkS K G g1 s1 D r := by
  cases r with
  | nx sl s' => exact fun g' σ' H' a b c => h g' σ' H' (l.trans a hn) (Nat.le_trans hn b) c
  | rt y s' => exact fun v g' sl' σ' H' a b c d => h v g' sl' σ' H' (l.trans a hn) (Nat.le_trans hn b) c d
  | bk sl s' => exact fun g' σ' H' a b c => h g' σ' H' (l.trans a hn) (Nat.le_trans hn b) c
  | ct sl s' => exact fun g' σ' H' a b c => h g' σ' H' (l.trans a hn) (Nat.le_trans hn b) c
  | exc c sl s' => exact fun g' σ' H' a b c => h g' σ' H' (l.trans a hn) (Nat.le_trans hn b) c
  | bad => exact h
/-- an expression in a statement -/
theorem tD.st {m : M} {k : Y → Sto → RS} (R : Rl K G g sl s σ H) (h : OkS K G g s D ((m sl s).st sl k)) {P : VK}
    (hk : ∀ v y g' s' H', LeO g g' s.O.length → s.O.length ≤ s'.O.length → Rl K G g' sl s' σ H' → RepY K G g' sl s' H' y v → OkS K G g' s' D (k y s') → P v H') : tD K G m σ H P := by
  refine ⟨g, sl, s, R, ?_⟩
  cases e : m sl s with
  | bad => rw [e] at h; exact h
  | exc c s' => rw [e] at h; exact fun g' H' a b c => h g' σ H' a.toLe b c
  | ok y s' =>
    rw [e] at h
    intro v g' H' l hn R' r
    exact hk v y g' s' H' l hn R' r (OkS.back h l.toLe hn)
end
section
variable {X : Cx} {G : Gc} {st : Stmt} {rest : List Stmt} {m m1 m2 : MS} {e : Expr} {me : M} {pos : Pos}
theorem dss_nil : DSs X G [] sSkip := pss_nil.wk fun D σ H ⟨g, sl, s, R, h⟩ => h g σ H .rfl (Nat.le_refl _) R
theorem dss_cons (h1 : DS X G st m1) (h2 : DSs X G rest m2) : DSs X G (st :: rest) (sSeq m1 m2) :=
  (pss_cons h1 h2).wk fun D σ H ⟨g, sl, s, R, h⟩ => by
    refine ⟨g, sl, s, R, ?_⟩
    simp only [sSeq] at h
    cases e : m1 sl s with
    | nx sl1 s1 =>
      rw [e] at h
      intro g1 σ1 H1 l n R1
      exact ⟨g1, sl1, s1, R1, OkS.back h l n⟩
    | rt y s' => rw [e] at h; exact h
    | bk sl s' => rw [e] at h; exact h
    | ct sl s' => rw [e] at h; exact h
    | exc c sl s' => rw [e] at h; exact h
    | bad => rw [e] at h; exact h
theorem dss_one (h1 : DS X G st m1) : DSs X G [st] m1 := pss_one h1
theorem ds_pass : DS X G (.Pass pos) sSkip := ps_pass.wk fun D σ H ⟨g, sl, s, R, h⟩ => h g σ H .rfl (Nat.le_refl _) R
theorem ds_doc {x : Str} {j : Nat} {p2 : Pos} : DS X G (.Expr (.Constant (.str x) j p2) pos) sSkip := ps_doc.wk fun D σ H ⟨g, sl, s, R, h⟩ => h g σ H .rfl (Nat.le_refl _) R
theorem ds_if {c : Expr} {a b : List Stmt} {mc : M} (hc : DT X G c mc) (ha : DSs X G a m1) (hb : DSs X G b m2) : DS X G (.If c a b pos) (sIf mc m1 m2) :=
  (ps_if hc ha hb).wk fun D σ H ⟨g, sl, s, R, h⟩ => by
    refine ⟨g, sl, s, R, ?_⟩
    simp only [sIf] at h
    cases e : mc sl s with
    | bad => rw [e] at h; exact h
    | exc c s' => rw [e] at h; exact fun g' H' a b c => h g' σ H' a.toLe b c
    | ok y s' =>
      rw [e] at h
      simp only [Fm.R.st_ok] at h
      split at h
      · intro g' H' l hn R'; exact iteT ⟨g', sl, s', R', OkS.back h l.toLe hn⟩
      · intro g' H' l hn R'; exact iteF ⟨g', sl, s', R', OkS.back h l.toLe hn⟩
      · exact h.elim
theorem ds_set (i : Nat) {x : Str} {p2 : Pos} (hN : X.N.Nodup) (hi : X.N[i]? = some x) (hx : Loc X.env.scope x) (hxs : G.xs = none) (he : DE X G e me) (hf : X.fn x = true ∨ X.env.scope.names.lookup x = some .local := by first | exact .inl rfl | exact .inr rfl) (hs : swapsWith e (some (.Name x p2)) pos.line X.env = pure false := by rfl) : DS X G (.Assign [.Name x p2] e pos) (sSet i me) :=
  (ps_asg he (pg_name hN hi hx hf) hs).wk fun D σ H ⟨g, sl, s, R, h⟩ => tD.st R h fun v y g1 s1 H1 l1 n1 R1 r1 h1 => by
    obtain ⟨g2, l2, R2, r2⟩ := R1.freeze r1
    split at h1
    · rename_i hw
      exact h1 g2 _ H1 l2.toLe (Nat.le_refl _) (R2.setV r2 hw hxs)
    · exact h1.elim
theorem ds_own (i : Nat) {x : Str} {p2 : Pos} (hN : X.N.Nodup) (hi : X.N[i]? = some x) (hx : Loc X.env.scope x) (hxs : G.xs = none) (he : DE X G e me) (hf : X.fn x = true ∨ X.env.scope.names.lookup x = some .local := by first | exact .inl rfl | exact .inr rfl) (hs : swapsWith e (some (.Name x p2)) pos.line X.env = pure false := by rfl) : DS X G (.Assign [.Name x p2] e pos) (sOwn i me) :=
  (ps_asg he (pg_name hN hi hx hf) hs).wk fun D σ H ⟨g, sl, s, R, h⟩ => tD.st R h fun v y g1 s1 H1 l1 n1 R1 r1 h1 => by
    split at h1
    · obtain ⟨p, rfl, f⟩ := r1
      exact h1 { g1 with ro := fun j => if j = i then p else g1.ro j } _ H1 ⟨Sub.rfl, fun _ _ => rfl, rfl⟩ (Nat.le_refl _) (R1.setO f hxs)
    · exact h1.elim
theorem ds_cel (i : Nat) {x : Str} {p2 : Pos} (hN : X.N.Nodup) (hi : X.N[i]? = some x) (hx : Loc X.env.scope x) (hxs : G.xs = none) (he : DE X G e me) (hf : X.fn x = true ∨ X.env.scope.names.lookup x = some .local := by first | exact .inl rfl | exact .inr rfl) (hs : swapsWith e (some (.Name x p2)) pos.line X.env = pure false := by rfl) : DS X G (.Assign [.Name x p2] e pos) (sCel i me) :=
  (ps_asg he (pg_name hN hi hx hf) hs).wk fun D σ H ⟨g, sl, s, R, h⟩ => tD.st R h fun v y g1 s1 H1 l1 n1 R1 r1 h1 => by
    split at h1
    · obtain ⟨p, rfl, f⟩ := r1
      obtain ⟨R2, l2⟩ := R1.push f
      refine h1 _ _ H1 l2.toLe (by simp) (R2.setV (w := .c s1.O.length) ⟨by simp, ?_⟩ rfl hxs)
      show V.ref p = .ref (if s1.O.length = s1.O.length then p else g1.rc s1.O.length)
      rw [if_pos rfl]
    · exact h1.elim
theorem ds_exp (he : DE X G e me) (hs : swapsWith e none pos.line X.env = pure false := by rfl) : DS X G (.Expr e pos) (sExp me) :=
  (ps_expr he hs).wk fun D σ H ⟨g, sl, s, R, h⟩ => tD.st R h fun v y g1 s1 H1 l1 n1 R1 r1 h1 => h1 g1 σ H1 .rfl (Nat.le_refl _) R1
theorem ds_ret (hxs : G.xs = none) (he : DE X G e me) : DS X G (.Return (some e) pos) (sRet me) :=
  (ps_ret he).wk fun D σ H ⟨g, sl, s, R, h⟩ => tD.st R h fun v y g1 s1 H1 l1 n1 R1 r1 h1 => by
    split at h1
    · rename_i y' e'
      unfold retY at e'
      split at e'
      · rename_i i
        split at e'
        · rename_i c ec
          cases e'
          have r1 : v = .ref (g1.ro i) := r1
          subst r1
          have hc : ∀ fs, c ≠ .ins fs := fun fs z => by subst z; exact absurd ec (R1.oni i fs)
          exact h1 _ g1 (sl.set i Sl.no) (σ.set i none) H1 .rfl (Nat.le_refl _) (R1.setNo hxs) ⟨_, rfl, R1.giveUp ec hc⟩
        · cases e'
      · cases e'
        exact h1 v g1 sl σ H1 .rfl (Nat.le_refl _) R1 r1
    · exact h1.elim
end
end Fm

/-! FF: what is walked; for; while. -/
namespace Fm
open PySem L2
/-- the later state still sees what g saw -/
def Ex (g g2 : Gh) (H : Hp) : Prop := Sub g.S g2.S ∧ Lk g2.S H ∧ g2.La = g.La ∧ ∀ x ∈ g.La, H x.1 = some (.frz x.2.1 x.2.2)
structure ItOk (K : PySem.W.Frag) (g : Gh) (items : List F) (J : It) : Prop where
  go : ∀ i g2 H, i < items.length → Ex g g2 H → J.go i H
  yld : ∀ i g2 H x H', i < items.length → Ex g g2 H → J.yld i H x H' → H' = H ∧ ∃ y, items[i]? = some y ∧ Rep K g.S y x
  stop : ∀ g2 H, Ex g g2 H → J.stop items.length H
def OkI (K : PySem.W.Frag) (G : Gc) (g : Gh) (sl : List Sl) (s : Sto) (σ : St) (Q : It → Hp → Prop) : R (List F) → Prop
  | .ok xs s' => ∀ J g' H', LeO g g' s.O.length → s.O.length ≤ s'.O.length → Rl K G g' sl s' σ H' → ItOk K g' xs J → Q J H'
  | .exc c s' => ∀ g' H', LeO g g' s.O.length → s.O.length ≤ s'.O.length → Rl K G g' sl s' σ H' → G.W (.ref (G.cls c)) none σ H'
  | .bad => False
def tDI (K : PySem.W.Frag) (G : Gc) (m : MI) : TI := fun σ H Q => ∃ g sl s, Rl K G g sl s σ H ∧ OkI K G g sl s σ Q (m sl s)
abbrev DI (X : Cx) (G : Gc) (tg e : Expr) (m : MI) : Prop := PI X tg e (tDI X.K G m)
theorem _root_.L2.PI.wk {X : Cx} {tg e : Expr} {t t' : TI} (h : PI X tg e t) (k : ∀ σ H Q, t' σ H Q → t σ H Q) : PI X tg e t' := ⟨fun pins s σ H Q I q => h.run pins s σ H Q I (k σ H Q q)⟩
theorem Rl.ex {K : PySem.W.Frag} {G : Gc} {g g' : Gh} {n : Nat} {sl : List Sl} {s : Sto} {σ : St} {H : Hp} (R : Rl K G g' sl s σ H) (l : Le g g' n) : Ex g g' H :=
  ⟨l.sub, R.see, l.la, fun x hx => R.lck x (by rw [l.la]; exact hx)⟩
section
variable {K : PySem.W.Frag} {G : Gc} {g g1 : Gh} {sl : List Sl} {s s1 : Sto} {σ : St} {H : Hp} {Q : It → Hp → Prop}
theorem OkI.back {r : R (List F)} (h : OkI K G g sl s σ Q r) (l : LeO g g1 s.O.length) (hn : s.O.length ≤ s1.O.length) : OkI K G g1 sl s1 σ Q r := by
  cases r with
  | ok y s' => exact fun v g' H' a b c d => h v g' H' (l.trans a hn) (Nat.le_trans hn b) c d
  | exc c s' => exact fun g' H' a b c => h g' H' (l.trans a hn) (Nat.le_trans hn b) c
  | bad => exact h
theorem tD.it {m : M} {k : Y → Sto → R (List F)} (R : Rl K G g sl s σ H) (h : OkI K G g sl s σ Q ((m sl s).bind k)) {P : VK}
    (hk : ∀ v y g' s' H', LeO g g' s.O.length → s.O.length ≤ s'.O.length → Rl K G g' sl s' σ H' → RepY K G g' sl s' H' y v → OkI K G g' sl s' σ Q (k y s') → P v H') : tD K G m σ H P := by
  refine ⟨g, sl, s, R, ?_⟩
  cases e : m sl s with
  | bad => rw [e] at h; exact h
  | exc c s' => rw [e] at h; exact h
  | ok y s' =>
    rw [e] at h
    intro v g' H' l hn R' r
    exact hk v y g' s' H' l hn R' r (OkI.back h l hn)
end
theorem rgF_length (a c : Int) (n : Nat) : (rgF a c n).length = n := by simp [rgF]
theorem rgF_get (a c : Int) (n i : Nat) (h : i < n) : (rgF a c n)[i]? = some (F.int (a + (i : Int) * c)) := by simp [rgF, h]
section
variable {X : Cx} {G : Gc} {tg e a b : Expr} {me ma mb : M} {pos p : Pos}
theorem di_list (he : DE X G e me) : DI X G tg e (iL me) :=
  (pi_list he).wk fun σ H Q ⟨g, sl, s, R, h⟩ => tD.it R h fun v y g1 s1 H1 l1 n1 R1 r1 h1 => by
    obtain ⟨g2, l2, R2, r2⟩ := R1.freeze r1
    split at h1
    · rename_i xs e
      rw [e] at r2
      simp only [RepW, Rep] at r2
      obtain ⟨d, vs, rfl, hs, hr⟩ := r2
      have sq : ∀ g3 H3, Ex g2 g3 H3 → SqL X.K H3 d vs := fun g3 H3 ex => .inl (.inl (ex.2.1 _ _ (ex.1 _ _ hs)))
      refine ⟨d, rfl, ⟨vs, .inl (.inl (R2.see _ _ hs))⟩, h1 _ g2 H1 l2 (Nat.le_refl _) R2 ⟨fun i g3 H3 hi ex => ?_, fun i g3 H3 x H' hi ex y => ?_, fun g3 H3 ex => ?_⟩⟩
      · obtain ⟨z, hz⟩ : ∃ z, vs[i]? = some z := ⟨_, List.getElem?_eq_getElem (by rw [← hr.length]; exact hi)⟩
        exact ⟨vs, z, sq _ _ ex, hz⟩
      · obtain ⟨y1, y2⟩ := y
        have e2 := y2 vs (sq _ _ ex)
        exact ⟨y1, hr.get' e2⟩
      · exact ⟨vs, sq _ _ ex, Nat.le_of_eq hr.length.symm⟩
    · exact h1.elim
theorem di_tup (he : DE X G e me) : DI X G tg e (iT me) :=
  (pi_tup he).wk fun σ H Q ⟨g, sl, s, R, h⟩ => tD.it R h fun v y g1 s1 H1 l1 n1 R1 r1 h1 => by
    obtain ⟨g2, l2, R2, r2⟩ := R1.freeze r1
    split at h1
    · rename_i xs e
      rw [e] at r2
      simp only [RepW, Rep] at r2
      obtain ⟨d, vs, rfl, hs, hr⟩ := r2
      have sq : ∀ g3 H3, Ex g2 g3 H3 → SqT X.K H3 d vs := fun g3 H3 ex => .of (ex.2.1 _ _ (ex.1 _ _ hs))
      refine ⟨d, rfl, ⟨vs, .of (R2.see _ _ hs)⟩, h1 _ g2 H1 l2 (Nat.le_refl _) R2 ⟨fun i g3 H3 hi ex => ?_, fun i g3 H3 x H' hi ex y => ?_, fun g3 H3 ex => ?_⟩⟩
      · obtain ⟨z, hz⟩ : ∃ z, vs[i]? = some z := ⟨_, List.getElem?_eq_getElem (by rw [← hr.length]; exact hi)⟩
        exact ⟨vs, z, sq _ _ ex, hz⟩
      · obtain ⟨y1, y2⟩ := y
        exact ⟨y1, hr.get' (y2 vs (sq _ _ ex))⟩
      · exact ⟨vs, sq _ _ ex, Nat.le_of_eq hr.length.symm⟩
    · exact h1.elim
theorem di_str (he : DE X G e me) : DI X G tg e (iS me) :=
  (pi_str he).wk fun σ H Q ⟨g, sl, s, R, h⟩ => tD.it R h fun v y g1 s1 H1 l1 n1 R1 r1 h1 => by
    obtain ⟨g2, l2, R2, r2⟩ := R1.freeze r1
    split at h1
    · rename_i x e
      rw [e] at r2
      simp only [RepW, Rep] at r2
      subst r2
      have hl : (signs x).length = x.cps.size := by simp [signs]
      refine ⟨x, rfl, h1 _ g2 H1 l2 (Nat.le_refl _) R2 ⟨fun i g3 H3 hi ex => ?_, fun i g3 H3 z H' hi ex y => ?_, fun g3 H3 ex => ?_⟩⟩
      · exact (by rw [← hl]; exact hi : i < x.cps.size)
      · obtain ⟨y1, c, hc, rfl⟩ := y
        refine ⟨y1, F.str ⟨#[c]⟩, ?_, by simp only [Rep]⟩
        simp [signs, hc]
      · exact (Nat.le_of_eq hl.symm : x.cps.size ≤ (signs x).length)
    · exact h1.elim
theorem itr_ok {K : PySem.W.Frag} {g : Gh} (a : Int) (n : Nat) : ItOk K g (rgF a 1 n) (Itr a n) := by
  refine ⟨fun i g3 H3 hi ex => ?_, fun i g3 H3 z H' hi ex y => ?_, fun g3 H3 ex => ?_⟩
  · rw [rgF_length] at hi; exact hi
  · rw [rgF_length] at hi
    obtain ⟨y1, rfl⟩ := y
    exact ⟨y1, _, rgF_get a 1 n i hi, by simp only [Rep, Int.mul_one]⟩
  · exact (Nat.le_of_eq (rgF_length a 1 n).symm : n ≤ _)
theorem itc_ok {K : PySem.W.Frag} {g : Gh} (a c : Int) (n : Nat) : ItOk K g (rgF a c n) (Itc a c n) := by
  refine ⟨fun i g3 H3 hi ex => ?_, fun i g3 H3 z H' hi ex y => ?_, fun g3 H3 ex => ?_⟩
  · rw [rgF_length] at hi; exact hi
  · rw [rgF_length] at hi
    obtain ⟨y1, rfl⟩ := y
    exact ⟨y1, _, rgF_get a c n i hi, by simp only [Rep]⟩
  · exact (Nat.le_of_eq (rgF_length a c n).symm : n ≤ _)
theorem inB_of {i : Int} (h : inB i = true) : -(2 ^ 62) ≤ i ∧ i < 2 ^ 62 := by
  have e : (2 : Int) ^ 62 = 4611686018427387904 := by decide
  have h : i.natAbs < 4611686018427387904 := of_decide_eq_true h
  rw [e]
  omega
theorem int_of {K : PySem.W.Frag} {g : Gh} {n : Nat} {i : Int} {v : V} (r : RepW K g n (.f (.int i)) v) : v = .int i := by simpa only [RepW, Rep] using r
theorem di_range1 (hg : Gl X "range") (hm : X.mg "range" = none) (ha : DE X G a ma) (hs : starEach [a] X.env = [(false, eval a X.env)] := by rfl) : DI X G tg (.Call (.Name "range" p) [a] [] pos) (iR1 ma) :=
  (pi_range1 hg hm (pa_cons ha pa_nil (by rw [hs]; rfl)) hs).wk fun σ H Q ⟨g, sl, s, R, h⟩ => tD.it R h fun v y g1 s1 H1 l1 n1 R1 r1 h1 => by
    obtain ⟨g2, l2, R2, r2⟩ := R1.freeze r1
    split at h1
    · rename_i j e
      rw [e] at r2
      rw [int_of r2]
      split at h1
      · rename_i hb
        exact ⟨j, rfl, (inB_of hb).1, (inB_of hb).2, h1 _ g2 H1 l2 (Nat.le_refl _) R2 (itr_ok 0 _)⟩
      · exact h1.elim
    · exact h1.elim
theorem it2 {K : PySem.W.Frag} {g : Gh} {sl : List Sl} {s : Sto} {σ : St} {H : Hp} {Q : It → Hp → Prop} {k : W → W → Sto → R (List F)} (R : Rl K G g sl s σ H) (h : OkI K G g sl s σ Q ((ma sl s).bind fun y s1 => (mb sl s1).bind fun z s2 => k (frz y) (frz z) s2)) {P : V → V → Hp → Prop}
    (hk : ∀ v u w w2 g' s' H', Rl K G g' sl s' σ H' → RepW K g' s'.O.length w v → RepW K g' s'.O.length w2 u → OkI K G g' sl s' σ Q (k w w2 s') → P v u H') : tD K G ma σ H fun v H1 => tD K G mb σ H1 fun u H2 => P v u H2 :=
  tD.it R h fun v y g1 s1 H1 l1 n1 R1 r1 h1 => by
    obtain ⟨g2, l2, R2, r2⟩ := R1.freeze r1
    refine tD.it R2 (OkI.back h1 l2 (Nat.le_refl _)) fun u z g3 s3 H3 l3 n3 R3 r3 h3 => ?_
    obtain ⟨g4, l4, R4, r4⟩ := R3.freeze r3
    exact hk v u _ _ g4 s3 H3 R4 (r2.le (l3.trans l4 n3) n3) r4 (OkI.back h3 l4 (Nat.le_refl _))
theorem di_range2 (hg : Gl X "range") (hm : X.mg "range" = none) (ha : DE X G a ma) (hb : DE X G b mb) (hs : starEach [a, b] X.env = [(false, eval a X.env), (false, eval b X.env)] := by rfl) (hs2 : starEach [b] X.env = [(false, eval b X.env)] := by rfl) :
    DI X G tg (.Call (.Name "range" p) [a, b] [] pos) (iR2 ma mb) :=
  (pi_range2 hg hm (pa_cons ha (pa_cons hb pa_nil (by rw [hs2]; rfl)) (by rw [hs, hs2])) hs hs2).wk fun σ H Q ⟨g, sl, s, R, h⟩ =>
    it2 (k := fun w w2 s2 => match w, w2 with
      | .f (.int i), .f (.int j) => if inB i && inB j then .ok (rgF i 1 (j - i).toNat) s2 else .bad
      | _, _ => .bad) R h fun v u w w2 g1 s1 H1 R1 r1 r2 h1 => by
    split at h1
    · rename_i i j
      rw [int_of r1, int_of r2]
      split at h1
      · rename_i hb
        simp only [Bool.and_eq_true] at hb
        exact ⟨i, j, rfl, ⟨(inB_of hb.1).1, (inB_of hb.1).2, (inB_of hb.2).1, (inB_of hb.2).2⟩, h1 _ g1 H1 .rfl (Nat.le_refl _) R1 (itr_ok i _)⟩
      · exact h1.elim
    · exact h1.elim
theorem it3 {K : PySem.W.Frag} {g : Gh} {sl : List Sl} {s : Sto} {σ : St} {H : Hp} {Q : It → Hp → Prop} {mc : M} {k : W → W → W → Sto → R (List F)} (R : Rl K G g sl s σ H) (h : OkI K G g sl s σ Q ((ma sl s).bind fun y s1 => (mb sl s1).bind fun z s2 => (mc sl s2).bind fun u s3 => k (frz y) (frz z) (frz u) s3)) {P : V → V → V → Hp → Prop}
    (hk : ∀ v u x w w2 w3 g' s' H', Rl K G g' sl s' σ H' → RepW K g' s'.O.length w v → RepW K g' s'.O.length w2 u → RepW K g' s'.O.length w3 x → OkI K G g' sl s' σ Q (k w w2 w3 s') → P v u x H') : tD K G ma σ H fun v H1 => tD K G mb σ H1 fun u H2 => tD K G mc σ H2 fun x H3 => P v u x H3 :=
  tD.it R h fun v y g1 s1 H1 l1 n1 R1 r1 h1 => by
    obtain ⟨g2, l2, R2, r2⟩ := R1.freeze r1
    refine tD.it R2 (OkI.back h1 l2 (Nat.le_refl _)) fun u z g3 s3 H3 l3 n3 R3 r3 h3 => ?_
    obtain ⟨g4, l4, R4, r4⟩ := R3.freeze r3
    refine tD.it R4 (OkI.back h3 l4 (Nat.le_refl _)) fun x t g5 s5 H5 l5 n5 R5 r5 h5 => ?_
    obtain ⟨g6, l6, R6, r6⟩ := R5.freeze r5
    exact hk v u x _ _ _ g6 s5 H5 R6 (r2.le (l3.trans (l4.trans (l5.trans l6 n5) (Nat.le_refl _)) n3) (Nat.le_trans n3 n5)) (r4.le (l5.trans l6 n5) n5) r6 (OkI.back h5 l6 (Nat.le_refl _))
theorem di_range3 {c : Expr} {mc : M} (hg : Gl X "range") (hm : X.mg "range" = none) (ha : DE X G a ma) (hb : DE X G b mb) (hc : DE X G c mc)
    (hs : starEach [a, b, c] X.env = (false, eval a X.env) :: starEach [b, c] X.env := by rfl) (hs2 : starEach [b, c] X.env = (false, eval b X.env) :: starEach [c] X.env := by rfl) (hs3 : starEach [c] X.env = (false, eval c X.env) :: starEach [] X.env := by rfl) (hpl : (backTo pos (starEach [b, c] X.env)).any (·.1) = false := by rfl) :
    DI X G tg (.Call (.Name "range" p) [a, b, c] [] pos) (iR3 ma mb mc) :=
  (pi_range3 hg hm (pa_cons ha (pa_cons hb (pa_cons hc pa_nil hs3) hs2) hs) hs hpl).wk fun σ H Q ⟨g, sl, s, R, h⟩ =>
    it3 (k := fun w w2 w3 s3 => match w, w2, w3 with
      | .f (.int i), .f (.int j), .f (.int c) => if c ≠ 0 ∧ c.natAbs < 1073741824 ∧ Builtin.Range.small i j c = true ∧ 0 ≤ Builtin.Range.rangeSize i j c then .ok (rgF i c (Builtin.Range.rangeSize i j c).toNat) s3 else .bad
      | _, _, _ => .bad) R h fun v u x w w2 w3 g1 s1 H1 R1 r1 r2 r3 h1 => by
    split at h1
    · rename_i i j c
      rw [int_of r1, int_of r2, int_of r3]
      split at h1
      · rename_i hb
        obtain ⟨q1, q2, q3, q4⟩ := hb
        exact ⟨i, j, c, _, rfl, ⟨q1, q2, q3, (Int.toNat_of_nonneg q4).symm⟩, h1 _ g1 H1 .rfl (Nat.le_refl _) R1 (itc_ok i c _)⟩
      · exact h1.elim
    · exact h1.elim
end
/-! ### for -/
/-- where a turn of a loop may end -/
theorem turn_ok {K : PySem.W.Frag} {G : Gc} {g : Gh} {s : Sto} {D : Ends} {i : Nat} {body : MS} {x : F} {xs : List F} {P : St → Hp → Prop} {sl : List Sl} (h : OkS K G g s D (loopF i body (x :: xs) sl s))
    (hp : ∀ g' sl' s' σ' H', Le g g' s.O.length → s.O.length ≤ s'.O.length → Rl K G g' sl' s' σ' H' → OkS K G g' s' D (loopF i body xs sl' s') → P σ' H') :
    OkS K G g s { D with nx := P, ct := P, bk := D.nx } (body (sl.set i (Sl.v (.f x))) s) := by
  simp only [loopF] at h
  cases e : body (sl.set i (Sl.v (.f x))) s with
  | nx sl1 s1 => rw [e] at h; exact fun g' σ' H' a b c => hp g' sl1 s1 σ' H' a b c (OkS.back h a b)
  | ct sl1 s1 => rw [e] at h; exact fun g' σ' H' a b c => hp g' sl1 s1 σ' H' a b c (OkS.back h a b)
  | bk sl1 s1 => rw [e] at h; exact h
  | rt y s1 => rw [e] at h; exact h
  | exc c sl1 s1 => rw [e] at h; exact h
  | bad => rw [e] at h; exact h
theorem drop_get {α : Type} {xs : List α} {i : Nat} {x : α} (h : xs[i]? = some x) : xs.drop i = x :: xs.drop (i + 1) := by
  obtain ⟨h1, h2⟩ := List.getElem?_eq_some_iff.mp h
  rw [List.drop_eq_getElem_cons h1, h2]
/-- the loop over any source -/
theorem for_any {K : PySem.W.Frag} {G : Gc} {g : Gh} {sl : List Sl} {s : Sto} {σ : St} {H : Hp} {D : Ends} {i : Nat} {body : MS} {items : List F} {J : It} (hx : G.xs = none) (R : Rl K G g sl s σ H) (ok : ItOk K g items J) (h : OkS K G g s D (loopF i body items sl s)) :
    ∃ W : Nat → Nat → St → Hp → Prop, (∃ m, W 0 m σ H) ∧ ∀ n m σ H, W n m σ H → (J.stop n H ∧ D.nx σ H) ∨ (J.go n H ∧ ∃ N : St → Hp → Prop, (∀ σ' H', N σ' H' → ∃ m', m' < m ∧ W (n + 1) m' σ' H') ∧
      ∀ x H', J.yld n H x H' → gName i x σ H' fun σ2 H2 => tDS K G body { D with nx := N, ct := N, bk := D.nx } σ2 H2) := by
  refine ⟨fun n m σ H => m = items.length - n ∧ n ≤ items.length ∧ ∃ g' sl' s', Le g g' s.O.length ∧ s.O.length ≤ s'.O.length ∧ Rl K G g' sl' s' σ H ∧ OkS K G g' s' D (loopF i body (items.drop n) sl' s'), ⟨items.length, by simp, Nat.zero_le _, g, sl, s, .rfl, Nat.le_refl _, R, by simpa using h⟩, ?_⟩
  rintro n m σ H ⟨rfl, hn, g1, sl1, s1, l1, n1, R1, h1⟩
  have ex := R1.ex l1
  by_cases hlt : n < items.length
  · refine .inr ⟨ok.go n g1 H hlt ex, fun σ' H' => n + 1 ≤ items.length ∧ ∃ g' sl' s', Le g g' s.O.length ∧ s.O.length ≤ s'.O.length ∧ Rl K G g' sl' s' σ' H' ∧ OkS K G g' s' D (loopF i body (items.drop (n + 1)) sl' s'), fun σ' H' z => ⟨items.length - (n + 1), by omega, rfl, z.1, z.2⟩, fun x H' y => ?_⟩
    obtain ⟨rfl, y, hy, ry⟩ := ok.yld n g1 H x H' hlt ex y
    rw [drop_get hy] at h1
    refine ⟨g1, sl1.set i (Sl.v (.f y)), s1, R1.setV (w := .f y) (Rep.sub l1.sub _ _ ry) rfl hx, turn_ok h1 fun g' sl' s' σ' H' a b c d => ⟨hlt, g', sl', s', l1.trans a n1, Nat.le_trans n1 b, c, d⟩⟩
  · have e : n = items.length := by omega
    subst e
    rw [List.drop_length] at h1
    exact .inl ⟨ok.stop g1 H ex, h1 g1 σ H .rfl (Nat.le_refl _) R1⟩
section
variable {X : Cx} {G : Gc} {tg e a b : Expr} {pos p : Pos} {it : MI} {mb : MS} {body : List Stmt}
theorem ds_for (i : Nat) {x : Str} (hN : X.N.Nodup) (hi : X.N[i]? = some x) (hx : Loc X.env.scope x) (hxs : G.xs = none) (hp : PassesOwn (model X.prog X.w) X.A X.env X.xe) (hc : X.calm = true) (hit : DI X G (.Name x p) e it) (hb : DSs X G body mb)
    (hf : X.fn x = true ∨ X.env.scope.names.lookup x = some .local := by first | exact .inl rfl | exact .inr rfl) (hs : ∀ x, foldedSetIterable e X.env x = pure x := by intro _; rfl) : DS X G (.For (.Name x p) e body [] pos) (sFor i it mb) :=
  (ps_for hp hc hit (pg_name hN hi hx hf) hb hs).wk fun D σ H ⟨g, sl, s, R, h⟩ => by
    refine ⟨g, sl, s, R, ?_⟩
    simp only [sFor] at h
    cases e : it sl s with
    | bad => rw [e] at h; exact h
    | exc c s' => rw [e] at h; exact fun g' H' a b c => h g' σ H' a.toLe b c
    | ok items s' =>
      rw [e] at h
      intro J g' H' l hn R' ok
      exact for_any hxs R' ok (OkS.back h l.toLe hn)
/-! ### while -/
theorem ds_while (n : Nat) {c : Expr} {mt : M} (hp : PassesOwn (model X.prog X.w) X.A X.env X.xe) (hc : DT X G c mt) (hb : DSs X G body mb) : DS X G (.While c body [] pos) (sWhile mt mb n) :=
  (ps_while hp hc hb).wk fun D σ H ⟨g, sl, s, R, h⟩ => by
    refine ⟨fun m σ H => ∃ g' sl' s', Le g g' s.O.length ∧ s.O.length ≤ s'.O.length ∧ Rl X.K G g' sl' s' σ H ∧ OkS X.K G g' s' D (sWhile mt mb m sl' s'), ⟨n, g, sl, s, .rfl, Nat.le_refl _, R, h⟩, ?_⟩
    rintro m σ H ⟨g1, sl1, s1, l1, n1, R1, h1⟩
    cases m with
    | zero => exact h1.elim
    | succ m =>
      refine ⟨g1, sl1, s1, R1, ?_⟩
      simp only [sWhile] at h1
      cases e : mt sl1 s1 with
      | bad => rw [e] at h1; exact h1
      | exc c s' => rw [e] at h1; exact fun g' H' a b c => h1 g' σ H' a.toLe b c
      | ok y s2 =>
        rw [e] at h1
        simp only [Fm.R.st_ok] at h1
        split at h1
        · intro g2 H2 l2 n2 R2
          refine iteT ⟨fun σ' H' => ∃ g' sl' s', Le g g' s.O.length ∧ s.O.length ≤ s'.O.length ∧ Rl X.K G g' sl' s' σ' H' ∧ OkS X.K G g' s' D (sWhile mt mb m sl' s'), fun σ' H' z => ⟨m, Nat.lt_succ_self _, z⟩, g2, sl1, s2, R2, ?_⟩
          have h2 := OkS.back (s1 := s2) h1 l2.toLe n2
          have l12 := l1.trans l2.toLe n1
          have n12 := Nat.le_trans n1 n2
          cases e2 : mb sl1 s2 with
          | nx sl3 s3 => rw [e2] at h2; exact fun g' σ' H' a b c => ⟨g', sl3, s3, l12.trans a n12, Nat.le_trans n12 b, c, OkS.back h2 a b⟩
          | ct sl3 s3 => rw [e2] at h2; exact fun g' σ' H' a b c => ⟨g', sl3, s3, l12.trans a n12, Nat.le_trans n12 b, c, OkS.back h2 a b⟩
          | bk sl3 s3 => rw [e2] at h2; exact h2
          | rt y s3 => rw [e2] at h2; exact h2
          | exc c sl3 s3 => rw [e2] at h2; exact h2
          | bad => rw [e2] at h2; exact h2
        · intro g2 H2 l2 n2 R2
          exact iteF (h1 g2 σ H2 l2.toLe n2 R2)
        · exact h1.elim
/-- what slot i owns is data from here on -/
theorem dss_frz (i : Nat) {m : MS} {sts : List Stmt} (hxs : G.xs = none) (h : DSs X G sts m) : DSs X G sts (sSeq (sFrz i) m) :=
  h.wk fun D σ H ⟨g, sl, s, R, h⟩ => by
    simp only [sSeq, sFrz] at h
    cases e : sl[i]? with
    | none => rw [e] at h; exact h.elim
    | some x =>
      rw [e] at h
      cases x with
      | no => exact h.elim
      | v w => exact h.elim
      | own c =>
        simp only [RS.andThen_nx] at h
        have hc : ∀ fs, c ≠ .ins fs := fun fs z => by subst z; exact R.oni i fs e
        have f := R.giveUp e hc
        have q3 := (R.own i c e).2.2.1
        obtain ⟨g2, l2, R2, r2⟩ := (R.setNo (i := i) (v := some (.ref (g.ro i))) hxs).freeze (y := .fr c) (v := .ref (g.ro i)) ⟨_, rfl, f⟩
        have R3 := R2.setV (i := i) r2 (by cases c <;> rfl) hxs
        have e1 : (sl.set i Sl.no).set i (Sl.v (frz (.fr c))) = sl.set i (Sl.v (.f c.toF)) := by simp
        have e2 : (σ.set i (some (V.ref (g.ro i)))).set i (some (.ref (g.ro i))) = σ := by
          rw [List.set_set]
          apply List.ext_getElem?
          intro j
          by_cases hj : i = j
          · subst hj
            rw [q3]
            by_cases hl : i < σ.length
            · rw [List.getElem?_set_self hl]
            · rw [List.getElem?_eq_none (by omega)] at q3; cases q3
          · rw [List.getElem?_set_ne hj]
        rw [e1, e2] at R3
        exact ⟨g2, _, s, R3, OkS.back h l2.toLe (Nat.le_refl _)⟩
end
end Fm

/-! FG: what a def promises; calls. -/
namespace Fm
open PySem L2
structure Pr (K : PySem.W.Frag) (C : Addr) (g : Gh) (s : Sto) (H : Hp) (g' : Gh) (s' : Sto) (H' : Hp) : Prop where
  rlh : RlH K C g' s' H'
  le : Le g g' s.O.length
  len : s.O.length ≤ s'.O.length
  newS : ∀ a u, g'.S a = some u → g.S a = some u ∨ H a = none
  newC : ∀ k, s.O.length ≤ k → k < s'.O.length → H (g'.rc k) = none
  frm : ∀ a u, H a = some u → g.S a = none → (∀ k, k < s.O.length → g.rc k ≠ a) → H' a = some u
  dom : ∀ a, H a ≠ none → H' a ≠ none
def RepR (K : PySem.W.Frag) (C : Addr) (g' : Gh) (s' : Sto) (H H' : Hp) : Y → V → Prop
  | .w (.f x), v => Rep K g'.S x v
  | .w (.c k), v => k < s'.O.length ∧ v = .ref (g'.rc k)
  | .w _, _ => False
  | .fr c, v => ∃ p, v = .ref p ∧ g'.S p = none ∧ (∀ k, k < s'.O.length → g'.rc k ≠ p) ∧ H p = none ∧ (∀ x ∈ g'.La, x.1 ≠ p) ∧ CelAt K C g' s'.O.length H' p c ∧ ∀ fs, c ≠ .ins fs
def spD (K : PySem.W.Frag) (C : Addr) (cls : Str → Addr) (np : Nat) (psi : Psi) : Sp := fun vs H Q E => ∃ g s ws, ws.length = np ∧ RlH K C g s H ∧ Paired (RepW K g s.O.length) ws vs ∧ ws.all argOk = true ∧ match psi ws s with
  | .ok y s' => ∀ v g' H', Pr K C g s H g' s' H' → RepR K C g' s' H H' y v → Q v H'
  | .exc c s' => ∀ g' H', Pr K C g s H g' s' H' → E (.ref (cls c)) none H'
  | .bad => False
theorem RlH.insOk {K : PySem.W.Frag} {C : Addr} {g : Gh} {s : Sto} {H : Hp} (R : RlH K C g s H) : insOk s := fun k fs e => (R.cel k _ e).2.1
theorem spD.len {K : PySem.W.Frag} {C : Addr} {cls : Str → Addr} {np : Nat} {psi : Psi} {vs : List V} {H : Hp} {Q : VK} {E : XK} (h : spD K C cls np psi vs H Q E) : vs.length = np := by
  obtain ⟨g, s, ws, h1, _, h2, _⟩ := h
  rw [← h1, Paired.length h2]
theorem spD.imp {K : PySem.W.Frag} {C : Addr} {cls : Str → Addr} {np : Nat} {psi phi : Psi} (r : Ref psi phi) {vs : List V} {H : Hp} {Q : VK} {E : XK} (h : spD K C cls np psi vs H Q E) : spD K C cls np phi vs H Q E := by
  obtain ⟨g, s, ws, h0, h1, h2, h3, h4⟩ := h
  refine ⟨g, s, ws, h0, h1, h2, h3, ?_⟩
  rw [r ws s h1.insOk h3 (fun z => by rw [z] at h4; exact h4)]
  exact h4
section
variable {K : PySem.W.Frag} {G : Gc} {g g' : Gh} {sl : List Sl} {s s' : Sto} {σ : St} {H H' : Hp}
/-- behind a call -/
theorem Rl.after (R : Rl K G g sl s σ H) (P : Pr K G.C g s H g' s' H') : Rl K G { g' with ro := g.ro } sl s' σ H' ∧ LeO g { g' with ro := g.ro } s.O.length := by
  have lo : LeO g { g' with ro := g.ro } s.O.length := ⟨⟨P.le.sub, P.le.rc, P.le.la⟩, fun _ => rfl⟩
  have l2 : LeO g' { g' with ro := g.ro } s'.O.length → True := fun _ => trivial
  have cw : ∀ {n : Nat} {a : Addr} {d : Ct}, CelAt K G.C g' n H' a d → CelAt K G.C { g' with ro := g.ro } n H' a d := fun {n a d} h => by cases d <;> exact h
  have nS : ∀ a u, H a = some u → g.S a = none → g'.S a = none := fun a u h1 h2 => by
    cases e : g'.S a with
    | none => rfl
    | some w =>
      rcases P.newS a w e with z | z
      · rw [h2] at z; cases z
      · rw [h1] at z; cases z
  have nC : ∀ a, H a ≠ none → (∀ k, k < s.O.length → g.rc k ≠ a) → ∀ k, k < s'.O.length → g'.rc k ≠ a := fun a h1 h2 k hk z => by
    by_cases hl : k < s.O.length
    · exact h2 k hl (by rw [← P.le.rc k hl]; exact z)
    · exact h1 (by rw [← z]; exact P.newC k (by omega) hk)
  refine ⟨{ see := P.rlh.see, exa := P.rlh.exa, cel := fun k c e => ⟨(P.rlh.cel k c e).1, cw (P.rlh.cel k c e).2⟩, cin := P.rlh.cin, lck := P.rlh.lck, lkw := paired_imp P.rlh.lkw fun w x z => ?_, lnd := P.rlh.lnd, len := R.len, sok := R.sok, exs := R.exs, val := fun i w e => ?_, own := fun i c e => ?_, oni := R.oni, oin := R.oin, frm := fun a u f => ?_, newS := fun a u e => ?_, newC := fun k h1 h2 => ?_, oldC := fun k hk => ?_, n0le := Nat.le_trans R.n0le P.len, newO := R.newO, dom := fun a h => P.dom a (R.dom a h), subS := R.subS.trans P.le.sub }, lo⟩
  · cases w with
    | f y => cases y <;> exact z
    | _ => exact z
  · obtain ⟨v, e1, r1⟩ := R.val i w e
    exact ⟨v, e1, r1.le lo P.len⟩
  · obtain ⟨h1, h2, h3, h4⟩ := R.own i c e
    have h5 : H (g.ro i) ≠ none := h4.some R.lck
    obtain ⟨u, hu⟩ : ∃ u, H (g.ro i) = some u := Option.ne_none_iff_exists'.mp h5
    refine ⟨nS _ u hu h1, nC _ h5 h2, h3, ?_⟩
    exact (h4.heap (H' := H') fun u hu => P.frm _ u hu h1 h2).le lo.toLe P.len
  · obtain ⟨h1, h2, h3, h4⟩ := R.frm a u f
    exact ⟨P.frm a u h1 h2 h3, nS a u h1 h2, nC a (by rw [h1]; simp) h3, h4⟩
  · rcases P.newS a u e with z | z
    · exact R.newS a u z
    · exact .inr (R.H0_none z)
  · by_cases hl : k < s.O.length
    · show G.H0 (g'.rc k) = none
      rw [P.le.rc k hl]; exact R.newC k h1 hl
    · exact R.H0_none (P.newC k (by omega) h2)
  · show g'.rc k = _
    rw [P.le.rc k (Nat.lt_of_lt_of_le hk R.n0le)]; exact R.oldC k hk
theorem Rl.afterY {y : Y} {v : V} (R : Rl K G g sl s σ H) (P : Pr K G.C g s H g' s' H') (r : RepR K G.C g' s' H H' y v) : RepY K G { g' with ro := g.ro } sl s' H' y v := by
  cases y with
  | w x => cases x <;> first | exact r | exact r.elim
  | fr c =>
    obtain ⟨p, rfl, h1, h2, h3, h4, h5, h6⟩ := r
    refine ⟨p, rfl, h1, h2, R.ro_ne h3, R.H0_none h3, h4, ?_, h6⟩
    cases c <;> exact h5
/-- a call's end by the interpreter's -/
theorem call_go {psi : Psi} {np : Nat} {Q : VK} {E : XK} {ws : List W} {vs : List V} (R : Rl K G g sl s σ H) (hl : vs.length = np) (r : Paired (RepW K g s.O.length) ws vs) (ha : ws.all argOk = true) (hE : ∀ c H', G.W (.ref (G.cls c)) none σ H' → E (.ref (G.cls c)) none H') (h : OkE K G g sl s σ Q (psi ws s)) :
    spD K G.C G.cls np psi vs H Q E := by
  refine ⟨g, s, ws, by rw [← hl, Paired.length r], R.toRlH, r, ha, ?_⟩
  cases e : psi ws s with
  | bad => rw [e] at h; exact h
  | exc c s' =>
    rw [e] at h
    intro g' H' P
    obtain ⟨R', l⟩ := R.after P
    exact hE c H' (h _ H' l P.len R')
  | ok y s' =>
    rw [e] at h
    intro v g' H' P rr
    obtain ⟨R', l⟩ := R.after P
    exact h v _ H' l P.len R' (R.afterY P rr)
end
/-- o.m(e, ..), what is raised wished for at the slots -/
def tMethZ (C : Addr) (m : Str) (sp : Sp) (E : St → XK) (ta : TE) (t : TA) : TE := fun σ H Q => ta σ H fun x H1 => ∃ a dx fs, x = .ref a ∧ H1 a = some (.ins C dx fs) ∧ fs.lookup m = none ∧ t σ H1 fun vs H2 => sp (x :: vs) H2 Q (E σ)
def tMakeZ (C : Addr) (sp : Sp) (E : St → XK) (t : TA) : TE := fun σ H Q => t σ H fun vs H1 => ∀ x dx, H1 x = none → H1 dx = none → dx ≠ x →
  sp (.ref x :: vs) (upd (upd H1 dx (.own x)) x (.ins C dx [])) (fun v H2 => v = .non ∧ Q (.ref x) H2) (E σ)
section
variable {X : Cx} {CX : CXT} {k : Nat} {f C : Addr} {fd : FuncData} {ps : List Str} {sp : Sp} {E : St → XK} {x m : Str} {p pos apos : Pos} {e o : Expr} {es : List Expr} {ta : TE} {t : TA}
theorem pe_methZ {pl : Sem Bool} (he : PE X o ta) (c : Cls X.K C) (hm : Meth X.K C m f) (F : FnOk X.prog X.w X.K X.mg X.base CX k f fd ps sp) (hr : Room k X.A) (hb : Binds X.K fd ps []) (hx : ∀ σ, PassesAt CX X σ (E σ)) (ha : PA X (e :: es) t)
    (hst : starEach (e :: es) X.env = (false, eval e X.env) :: starEach es X.env := by rfl) (hpl : (backTo pos (starEach es X.env)).any (·.1) = false := by rfl)
    (ht : eval (.Call (.Attribute o m apos) (e :: es) [] pos) X.env = (do
      let ov ← eval o X.env
      standAt apos.atName
      let (f, first) ← holding [ov] (getMethod ov m pl)
      callWith pos f first (backTo pos (starEach (e :: es) X.env)) (backToKw pos (keywordEach [] X.env))) := by rfl) :
    PE X (.Call (.Attribute o m apos) (e :: es) [] pos) (tMethZ C m sp E ta t) := by
  refine ⟨fun pins s σ H Q I h => ?_⟩
  refine PySem.W.methodCall_KW (pl := pl) (thn (he.run pins s σ H _ I h) fun u s1 ⟨x, H1, I1, rx, a, dx, fs, ex, ea, l, q⟩ => ?_) ht
  subst ex
  obtain rfl : u = Value.ref a := rx
  refine getmeth_ok I1 ea c hm l ?_
  refine PySem.W.callWith_K (first := [.ref a]) (h₀ := X.base) I.ok.mod.kin hm.kp (thn (ha.run pos pins s1 σ H1 _ I1 q) fun us s2 ⟨vs, H2, I2, r, q2⟩ => ⟨I2.kIn, ?_⟩) hst hpl
  exact run_fnS (us := .ref a :: us) (vs := .ref a :: vs) F hr hb (hx σ) I2 (.cons rfl r) q2
theorem pe_methZ0 {pl : Sem Bool} (he : PE X o ta) (c : Cls X.K C) (hm : Meth X.K C m f) (F : FnOk X.prog X.w X.K X.mg X.base CX k f fd ps sp) (hr : Room k X.A) (hb : Binds X.K fd ps []) (hx : ∀ σ, PassesAt CX X σ (E σ))
    (ht : eval (.Call (.Attribute o m apos) [] [] pos) X.env = (do
      let ov ← eval o X.env
      standAt apos.atName
      let (f, first) ← holding [ov] (getMethod ov m pl)
      callWith pos f first (backTo pos (starEach [] X.env)) (backToKw pos (keywordEach [] X.env))) := by rfl) :
    PE X (.Call (.Attribute o m apos) [] [] pos) (tMethZ C m sp E ta tNil) := by
  refine ⟨fun pins s σ H Q I h => ?_⟩
  refine PySem.W.methodCall_KW (pl := pl) (thn (he.run pins s σ H _ I h) fun u s1 ⟨x, H1, I1, rx, a, dx, fs, ex, ea, l, q⟩ => ?_) ht
  subst ex
  obtain rfl : u = Value.ref a := rx
  refine getmeth_ok I1 ea c hm l ?_
  exact PySem.W.callWith_K0 (first := [.ref a]) I1.kIn hm.kp (run_fnS (us := [.ref a]) (vs := [.ref a]) F hr hb (hx σ) I1 (.cons rfl .nil) q)
theorem pe_callZ0 (F : FnOk X.prog X.w X.K X.mg X.base CX k f fd ps sp) (hr : Room k X.A) (hg : Gl X x) (hm : X.mg x = some (.ref f)) (hk : PySem.W.keepIn X.K (.ref f) = true) (hb : Binds X.K fd ps []) (hx : ∀ σ, PassesAt CX X σ (E σ))
    (hdb : (x == ("__debug__" : Str)) = false := by decide) : PE X (.Call (.Name x p) [] [] pos) (tCallS sp E tNil) := by
  refine ⟨fun pins s σ H Q I h => ?_⟩
  refine wpAny_Call_Name_kw (ld_glob I hg hm ?_ hdb)
  exact PySem.W.callWith_K0 I.kIn hk (run_fnS (us := []) F hr hb (hx σ) I .nil h)
theorem run_makeZ {pins : List (Addr × Obj)} {σ : St} {H : Hp} {s : Shared} {Q : VK} {us : List Value} {vs : List V} (M : Mk X.K C f) (F : FnOk X.prog X.w X.K X.mg X.base CX k f fd ps sp) (hr : Room (k + 1) X.A) (hb : Binds X.K fd ps [])
    (hx : PassesAt CX X σ (E σ)) (I : Inv X pins σ H s) (r : Vals vs us)
    (h : ∀ x dx, H x = none → H dx = none → dx ≠ x → sp (.ref x :: vs) (upd (upd H dx (.own x)) x (.ins C dx [])) (fun v H2 => v = .non ∧ Q (.ref x) H2) (E σ)) :
    wpAny (model X.prog X.w) X.A (call (.ref C) us) (EP X pins σ Q) X.xe s := by
  have hq := h (s.heap.objs.size + 1) s.heap.objs.size (I.hok.fresh (Nat.le_succ _)) (I.hok.fresh (Nat.le_refl _)) (Nat.ne_of_lt (Nat.lt_succ_self _))
  have I2 := Inv.made (C := C) I
  have r2 : Vals (V.ref (s.heap.objs.size + 1) :: vs) (Value.ref (s.heap.objs.size + 1) :: us) := .cons rfl r
  have hl : (Value.ref (s.heap.objs.size + 1) :: us).length = ps.length := by
    have e := r2.length
    rw [F.len _ _ _ _ hq] at e
    exact e.symm
  have b := hb _ (Value.ref (s.heap.objs.size + 1) :: us) I2.kIn (by rw [List.append_nil]; exact hl)
  rw [List.append_nil] at b
  refine wpAny_call (make_map (f := f) I.kIn M.makes M.init (beq_iff_eq.mp M.fn) (codeAny_mono (F.run _ X.stack _ _ ⟨Value.ref (s.heap.objs.size + 1) :: us, []⟩ (Value.ref (s.heap.objs.size + 1) :: us) _ _ (E σ) (hr.make C us [])
    (I2.env0.make C us []) b r2 hq) fun r s' hq' => ?_))
  cases r with
  | error e => exact hx pins _ _ e s' I2 hq'
  | ok fl =>
    cases fl with
    | ret u =>
      obtain ⟨v, H', I3, rv, ev, q3⟩ := I2.after hq'
      subst ev
      exact ⟨rv, ⟨V.ref (s.heap.objs.size + 1), H', I3, rfl, q3⟩⟩
    | next => exact False.elim hq'
    | brk => exact False.elim hq'
    | cont => exact False.elim hq'
theorem pe_makeZ (M : Mk X.K C f) (F : FnOk X.prog X.w X.K X.mg X.base CX k f fd ps sp) (hr : Room (k + 1) X.A) (hg : Gl X x) (hm : X.mg x = some (.ref C)) (hb : Binds X.K fd ps []) (hx : ∀ σ, PassesAt CX X σ (E σ))
    (ha : PA X (e :: es) t) (hdb : (x == ("__debug__" : Str)) = false := by decide) (he : starEach (e :: es) X.env = (false, eval e X.env) :: starEach es X.env := by rfl) (hpl : (backTo pos (starEach es X.env)).any (·.1) = false := by rfl) :
    PE X (.Call (.Name x p) (e :: es) [] pos) (tMakeZ C sp E t) := by
  refine ⟨fun pins s σ H Q I h => ?_⟩
  refine wpAny_Call_Name_kw (ld_glob I hg hm ?_ hdb)
  refine PySem.W.callWith_K (h₀ := X.base) I.ok.mod.kin M.kp (thn (ha.run pos pins s σ H _ I h) fun us s1 ⟨vs, H1, I1, r, q⟩ => ⟨I1.kIn, ?_⟩) he hpl
  exact run_makeZ M F hr hb (hx σ) I1 r q
end
/-- a def of the text keeps psi, at level k -/
def LA (ma : MA) (n : Nat) : Prop := ∀ sl s ws s', ma sl s = .ok ws s' → ws.length = n
theorem la_nil : LA aNil 0 := fun sl s ws s' h => by simp only [aNil] at h; cases h; rfl
theorem la_cons {m : M} {r : MA} {n : Nat} (h : LA r n) : LA (aCons m r) (n + 1) := fun sl s ws s' e => by
  simp only [aCons] at e
  cases e1 : m sl s with
  | bad => rw [e1] at e; cases e
  | exc c t => rw [e1] at e; cases e
  | ok y t =>
    rw [e1] at e
    simp only [Fm.R.bind_ok] at e
    cases e2 : r sl t with
    | bad => rw [e2] at e; cases e
    | exc c t => rw [e2] at e; cases e
    | ok us t2 =>
      rw [e2] at e
      simp only [Fm.R.bind_ok] at e
      cases e
      simp [h _ _ _ _ e2]
structure Dfn (P : Program) (w : World) (K : PySem.W.Frag) (mg : Str → Option Value) (base : Heap) (C : Addr) (cls : Str → Addr) (k : Nat) (f : Addr) (ps : List Str) (psi : Psi) : Prop where
  fn : ∃ fd, FnOk P w K mg base (L2.CX P w) k f fd ps (spD K C cls ps.length psi) ∧ Binds K fd ps []
section
variable {X : Cx} {G : Gc} {k : Nat} {f : Addr} {ps : List Str} {psi : Psi} {x m : Str} {p pos apos : Pos} {e o : Expr} {es : List Expr} {ma : MA} {mo : M}
theorem de_call (D : Dfn X.prog X.w X.K X.mg X.base G.C G.cls k f ps psi) (hr : Room k X.A) (tk : Takes X G.W) (hg : Gl X x) (hm : X.mg x = some (.ref f)) (hk : PySem.W.keepIn X.K (.ref f) = true) (hl : (e :: es).length = ps.length) (ha : DA X G (e :: es) ma)
    (hdb : (x == ("__debug__" : Str)) = false := by decide) (he : starEach (e :: es) X.env = (false, eval e X.env) :: starEach es X.env := by rfl) (hpl : (backTo pos (starEach es X.env)).any (·.1) = false := by rfl) (hla : LA ma ps.length := by repeat (first | exact la_nil | refine la_cons ?_)) : DE X G (.Call (.Name x p) (e :: es) [] pos) (mCall psi ma) := by
  obtain ⟨fd, F, b⟩ := D.fn
  refine (pe_callS F hr hg hm hk b (fun σ => passAt tk σ) ha hdb he hpl).wk fun σ H Q ⟨g, sl, s, R, h⟩ => ?_
  refine ⟨g, sl, s, R, ?_⟩
  simp only [mCall] at h
  cases e : ma sl s with
  | bad => rw [e] at h; exact h
  | exc c s' => rw [e] at h; exact h
  | ok ws s1 =>
    rw [e] at h
    simp only [Fm.R.bind_ok] at h
    intro vs g1 H1 l1 n1 R1 r1
    split at h
    · rename_i hall
      exact call_go R1 (by rw [← Paired.length r1, hla sl s ws s1 e]) r1 hall (fun c H' q => q) (OkE.back h l1 n1)
    · exact h.elim
theorem de_call0 (D : Dfn X.prog X.w X.K X.mg X.base G.C G.cls k f ps psi) (hr : Room k X.A) (tk : Takes X G.W) (hg : Gl X x) (hm : X.mg x = some (.ref f)) (hk : PySem.W.keepIn X.K (.ref f) = true) (hl : 0 = ps.length)
    (hdb : (x == ("__debug__" : Str)) = false := by decide) : DE X G (.Call (.Name x p) [] [] pos) (mCall psi aNil) := by
  obtain ⟨fd, F, b⟩ := D.fn
  refine (pe_callZ0 F hr hg hm hk b (fun σ => passAt tk σ) hdb).wk fun σ H Q ⟨g, sl, s, R, h⟩ => ?_
  exact call_go R hl .nil rfl (fun c H' q => q) h

theorem de_meth {C : Addr} (hC : C = G.C) (he : DE X G o mo) (c : Cls X.K C) (hme : Meth X.K C m f) (D : Dfn X.prog X.w X.K X.mg X.base G.C G.cls k f ps psi) (hr : Room k X.A) (tk : Takes X G.W) (ha : DA X G (e :: es) ma) {pl : Sem Bool}
    (hla : LA ma (ps.length - 1) := by repeat (first | exact la_nil | refine la_cons ?_)) (hl : 0 < ps.length := by decide)
    (hst : starEach (e :: es) X.env = (false, eval e X.env) :: starEach es X.env := by rfl) (hpl : (backTo pos (starEach es X.env)).any (·.1) = false := by rfl)
    (ht : eval (.Call (.Attribute o m apos) (e :: es) [] pos) X.env = (do
      let ov ← eval o X.env
      standAt apos.atName
      let (f, first) ← holding [ov] (getMethod ov m pl)
      callWith pos f first (backTo pos (starEach (e :: es) X.env)) (backToKw pos (keywordEach [] X.env))) := by rfl) : DE X G (.Call (.Attribute o m apos) (e :: es) [] pos) (mMeth psi m mo ma) := by
  subst hC
  obtain ⟨fd, F, b⟩ := D.fn
  refine (pe_methZ he c hme F hr b (fun σ => passAt tk σ) ha hst hpl ht).wk fun σ H Q ⟨g, sl, s, R, h⟩ => ?_
  refine ⟨g, sl, s, R, ?_⟩
  simp only [mMeth] at h
  cases e : mo sl s with
  | bad => rw [e] at h; exact h
  | exc c s' => rw [e] at h; exact h
  | ok y s1 =>
    rw [e] at h
    simp only [Fm.R.bind_ok] at h
    intro v g1 H1 l1 n1 R1 r1
    obtain ⟨g2, l2, R2, r2⟩ := R1.freeze r1
    split at h
    · rename_i kk ek
      rw [ek] at r2
      obtain ⟨hk, rfl⟩ := r2
      split at h
      · rename_i fs hfs
        obtain ⟨_, hfl, dx, hH⟩ := R2.cel kk _ hfs
        split at h
        · rename_i hlook
          refine ⟨g2.rc kk, dx, _, rfl, hH, ?_, ⟨g2, sl, s1, R2, ?_⟩⟩
          · have : ∀ l : List (Str × Nat), l.lookup m = none → (l.map fun p => (p.1, V.ref (g2.rc p.2))).lookup m = none := by
              intro l
              induction l with
              | nil => intro _; rfl
              | cons q l ih =>
                obtain ⟨q1, q2⟩ := q
                intro z
                rw [List.lookup_cons] at z
                rw [List.map_cons, List.lookup_cons]
                split at z
                · cases z
                · rename_i hb; simp only [hb]; exact ih z
            exact this fs hlook
          · have l12 := l1.trans l2 n1
            have h2 := OkE.back (s1 := s1) h l12 n1
            cases e2 : ma sl s1 with
            | bad => rw [e2] at h2; exact h2
            | exc c s' => rw [e2] at h2; exact h2
            | ok ws s2 =>
              rw [e2] at h2
              simp only [Fm.R.bind_ok] at h2
              intro vs g3 H3 l3 n3 R3 r3
              split at h2
              · rename_i hall
                have r0 : RepW X.K g3 s2.O.length (.c kk) (.ref (g2.rc kk)) := RepW.le (w := .c kk) l3 n3 ⟨hk, rfl⟩
                exact call_go R3 (by simp only [List.length_cons]; rw [← Paired.length r3, hla _ _ _ _ e2]; omega) (.cons r0 r3) (by simpa using hall) (fun c H' q => q) (OkE.back h2 l3 n3)
              · exact h2.elim
        · exact h.elim
      · exact h.elim
    · exact h.elim
theorem de_meth0 {C : Addr} (hC : C = G.C) (he : DE X G o mo) (c : Cls X.K C) (hme : Meth X.K C m f) (D : Dfn X.prog X.w X.K X.mg X.base G.C G.cls k f ps psi) (hr : Room k X.A) (tk : Takes X G.W) {pl : Sem Bool} (hl : 1 = ps.length := by decide)
    (ht : eval (.Call (.Attribute o m apos) [] [] pos) X.env = (do
      let ov ← eval o X.env
      standAt apos.atName
      let (f, first) ← holding [ov] (getMethod ov m pl)
      callWith pos f first (backTo pos (starEach [] X.env)) (backToKw pos (keywordEach [] X.env))) := by rfl) : DE X G (.Call (.Attribute o m apos) [] [] pos) (mMeth psi m mo aNil) := by
  subst hC
  obtain ⟨fd, F, b⟩ := D.fn
  refine (pe_methZ0 he c hme F hr b (fun σ => passAt tk σ) ht).wk fun σ H Q ⟨g, sl, s, R, h⟩ => ?_
  refine ⟨g, sl, s, R, ?_⟩
  simp only [mMeth] at h
  cases e : mo sl s with
  | bad => rw [e] at h; exact h
  | exc c s' => rw [e] at h; exact h
  | ok y s1 =>
    rw [e] at h
    simp only [Fm.R.bind_ok] at h
    intro v g1 H1 l1 n1 R1 r1
    obtain ⟨g2, l2, R2, r2⟩ := R1.freeze r1
    split at h
    · rename_i kk ek
      rw [ek] at r2
      obtain ⟨hk, rfl⟩ := r2
      split at h
      · rename_i fs hfs
        obtain ⟨_, hfl, dx, hH⟩ := R2.cel kk _ hfs
        split at h
        · rename_i hlook
          refine ⟨g2.rc kk, dx, _, rfl, hH, ?_, ?_⟩
          · have : ∀ l : List (Str × Nat), l.lookup m = none → (l.map fun p => (p.1, V.ref (g2.rc p.2))).lookup m = none := by
              intro l
              induction l with
              | nil => intro _; rfl
              | cons q l ih =>
                obtain ⟨q1, q2⟩ := q
                intro z
                rw [List.lookup_cons] at z
                rw [List.map_cons, List.lookup_cons]
                split at z
                · cases z
                · rename_i hb; simp only [hb]; exact ih z
            exact this fs hlook
          · have l12 := l1.trans l2 n1
            have h2 := OkE.back (s1 := s1) h l12 n1
            simp only [aNil, Fm.R.bind_ok, List.all_nil, if_true] at h2
            exact call_go (ws := [.c kk]) R2 hl (.cons (show RepW X.K g2 s1.O.length (.c kk) _ from ⟨hk, rfl⟩) .nil) rfl (fun c H' q => q) h2
        · exact h.elim
      · exact h.elim
    · exact h.elim
end
section
variable {K : PySem.W.Frag} {G : Gc} {g g' : Gh} {sl : List Sl} {s s' : Sto} {σ : St} {H H' : Hp} {C : Addr}
theorem back_len (h : s.O.length ≤ s'.O.length) : (s.back s').O.length = s.O.length := by simp [Sto.back]; omega
theorem back_get {k : Nat} {c : Ct} (e : (s.back s').O[k]? = some c) : k < s.O.length ∧ s'.O[k]? = some c := by
  have h : k < (s.back s').O.length := (List.getElem?_eq_some_iff.mp e).1
  have h1 : k < s.O.length := by simp [Sto.back] at h; omega
  refine ⟨h1, ?_⟩
  simp only [Sto.back, List.getElem?_take, h1, if_true] at e
  exact e
theorem CelAt.fit {n m : Nat} {a : Addr} {c : Ct} (h : CelAt K C g n H a c) (hi : ∀ fs, c = .ins fs → ∀ p ∈ fs, p.2 < m) : CelAt K C g m H a c := by
  cases c with
  | lst xs => exact h
  | dct kvs => exact h
  | ins fs => exact ⟨hi fs rfl, h.2⟩
theorem bOk_get (hb : bOk s s' = true) {k : Nat} {fs : List (Str × Nat)} (e : (s.back s').O[k]? = some (.ins fs)) : ∀ p ∈ fs, p.2 < s.O.length := by
  unfold bOk at hb
  rw [List.all_eq_true] at hb
  have := hb _ (List.mem_of_getElem? e)
  simp only [List.all_eq_true, decide_eq_true_eq] at this
  exact this
/-- the cells made since are forgotten -/
theorem RlH.trunc (R : RlH K C g' s' H') (hb : bOk s s' = true) (hn : s.O.length ≤ s'.O.length) (hl : Paired (LkW K g' s.O.length) s.lk g'.La) : RlH K C g' (s.back s') H' := by
  refine ⟨R.see, R.exa, fun k c e => ?_, fun j k hj hk e => R.cin j k ?_ ?_ e, R.lck, by rw [back_len hn]; exact hl, R.lnd⟩
  · obtain ⟨h1, h2⟩ := back_get e
    refine ⟨(R.cel k c h2).1, (R.cel k c h2).2.fit fun fs q => ?_⟩
    subst q
    rw [back_len hn]
    exact bOk_get hb e
  · rw [back_len hn] at hj; omega
  · rw [back_len hn] at hk; omega
theorem LkW.le {n m : Nat} (l : Le g g' n) (h : n ≤ m) {w : W} {x : Addr × Obj × HO} (z : LkW K g n w x) : LkW K g' m w x := by
  cases w with
  | f y =>
    cases y with
    | dct kvs => obtain ⟨z1, vs, z2, z3⟩ := z; exact ⟨l.sub _ _ z1, vs, z2, RepK.sub l.sub _ _ z3⟩
    | _ => exact z
  | c k => exact ⟨Nat.lt_of_lt_of_le z.1 h, by rw [l.rc k z.1]; exact z.2⟩
  | _ => exact z
theorem Rl.trunc (R : Rl K G g sl s σ H) (R' : Rl K G g' sl s' σ H') (l : LeO g g' s.O.length) (hn : s.O.length ≤ s'.O.length) (hb : bOk s s' = true) : Rl K G g' sl (s.back s') σ H' := by
  have hL := back_len hn
  refine { toRlH := R'.toRlH.trunc hb hn (by rw [l.la]; exact paired_imp R.lkw fun w x z => z.le l.toLe (Nat.le_refl _)), len := R'.len, sok := R'.sok, exs := R'.exs, val := fun i w e => ?_, own := fun i c e => ?_, oni := R'.oni, oin := R'.oin, frm := fun a u f => ?_, newS := R'.newS, newC := fun k h1 h2 => R'.newC k h1 (by rw [hL] at h2; omega), oldC := R'.oldC, n0le := by rw [hL]; exact R.n0le, newO := R'.newO, dom := R'.dom, subS := R'.subS }
  · obtain ⟨v, e1, r1⟩ := R.val i w e
    exact ⟨v, e1, by rw [hL]; exact r1.le l (Nat.le_refl _)⟩
  · obtain ⟨h1, h2, h3, h4⟩ := R'.own i c e
    exact ⟨h1, fun k hk => h2 k (by rw [hL] at hk; omega), h3, h4.fit fun fs z => absurd (by rw [z] at e; exact e) (R'.oni i fs)⟩
  · obtain ⟨h1, h2, h3, h4⟩ := R'.frm a u f
    exact ⟨h1, h2, fun k hk => h3 k (by rw [hL] at hk; omega), h4⟩
end
section
variable {X : Cx} {G : Gc} {k : Nat} {f C : Addr} {ps : List Str} {psi : Psi} {x m : Str} {p pos apos : Pos} {e o : Expr} {es : List Expr} {ma : MA} {mo : M}
theorem de_make (hC : C = G.C) (M : Mk X.K C f) (D : Dfn X.prog X.w X.K X.mg X.base G.C G.cls k f ps psi) (hr : Room (k + 1) X.A) (tk : Takes X G.W) (hg : Gl X x) (hm : X.mg x = some (.ref C)) (ha : DA X G (e :: es) ma)
    (hla : LA ma (ps.length - 1) := by repeat (first | exact la_nil | refine la_cons ?_)) (hl : 0 < ps.length := by decide)
    (hdb : (x == ("__debug__" : Str)) = false := by decide) (he : starEach (e :: es) X.env = (false, eval e X.env) :: starEach es X.env := by rfl) (hpl : (backTo pos (starEach es X.env)).any (·.1) = false := by rfl) : DE X G (.Call (.Name x p) (e :: es) [] pos) (mMake psi ma) := by
  subst hC
  obtain ⟨fd, F, b⟩ := D.fn
  refine (pe_makeZ M F hr hg hm b (fun σ => passAt tk σ) ha hdb he hpl).wk fun σ H Q ⟨g, sl, s, R, h⟩ => ?_
  refine ⟨g, sl, s, R, ?_⟩
  simp only [mMake] at h
  cases e : ma sl s with
  | bad => rw [e] at h; exact h
  | exc c s' => rw [e] at h; exact h
  | ok ws s1 =>
    rw [e] at h
    simp only [Fm.R.bind_ok] at h
    intro vs g1 H1 l1 n1 R1 r1 x dx hx hdx hne
    split at h
    · rename_i hall
      have h2 := OkE.back (s1 := s1) h l1 n1
      have hx2 : (upd H1 dx (.own x)) x = none := by rw [upd_ne (Ne.symm hne)]; exact hx
      have R2 := (R1.new (o := .own x) hdx).new (o := .ins G.C dx []) hx2
      obtain ⟨R3, l3⟩ := R2.push0 (p := x) (c := .ins []) (R1.S_none hx) (R1.rc_ne hx) (R1.ro_ne hx) (R1.H0_none hx) (R1.la_ne hx) ⟨fun p hp => absurd hp (by simp), dx, by rw [upd_same]; rfl⟩
      have hn3 : s1.O.length ≤ (s1.O ++ [Ct.ins []]).length := by simp
      refine call_go (ws := .c s1.O.length :: ws) R3 (by simp only [List.length_cons]; rw [← Paired.length r1, hla _ _ _ _ e]; omega) (.cons ⟨by simp, by show V.ref x = .ref (if s1.O.length = s1.O.length then x else g1.rc s1.O.length); rw [if_pos rfl]⟩ (paired_imp r1 fun w v z => z.le l3 hn3)) (by simpa using hall) (fun c H' q => q) ?_
      cases e2 : psi (.c s1.O.length :: ws) { s1 with O := s1.O ++ [.ins []] } with
      | bad => rw [e2] at h2; exact h2
      | exc c s2 =>
        rw [e2] at h2
        try dsimp only at h2
        split at h2
        · rename_i hb
          intro g' H' l n R'
          have n' : s1.O.length ≤ s2.O.length := Nat.le_trans hn3 n
          have l' := l3.trans l hn3
          exact h2 g' H' l' (by rw [back_len n']; exact Nat.le_refl _) (R1.trunc R' l' n' hb)
        · exact h2.elim
      | ok y s2 =>
        rw [e2] at h2
        try dsimp only at h2
        split at h2
        · rename_i s3 q
          cases q
          intro v g' H' l n R' r
          have hv : v = .non := by simpa only [RepY, RepW, Rep] using r
          refine ⟨hv, h2 (.ref x) g' H' (l3.trans l hn3) (Nat.le_trans hn3 n) R' ⟨?_, ?_⟩⟩
          · have : (s1.O ++ [Ct.ins []]).length ≤ s2.O.length := n
            simp at this; omega
          · have q := l.rc s1.O.length (by simp)
            rw [q]
            show V.ref x = .ref (if s1.O.length = s1.O.length then x else g1.rc s1.O.length)
            rw [if_pos rfl]
        · rename_i q; cases q
        · exact h2.elim
    · exact h.elim
end
/-! ### the body of a def -/
section
variable {K : PySem.W.Frag} {C : Addr} {g : Gh} {s : Sto} {H : Hp}
def G0 (C : Addr) (cls : Str → Addr) (E : XK) (g : Gh) (s : Sto) (H : Hp) : Gc := ⟨C, cls, fun c d _ H' => E c d H', H, g.S, g.rc, s.O.length, none⟩
theorem slots_val {N : Nat} {ws : List W} {i : Nat} {w : W} (h : (slots N ws)[i]? = some (Sl.v w)) : ws[i]? = some w := by
  simp only [slots] at h
  by_cases hi : i < ws.length
  · rw [List.getElem?_append_left (by simpa using hi), List.getElem?_map] at h
    cases e : ws[i]? with
    | none => rw [e] at h; cases h
    | some z => rw [e] at h; cases h; rfl
  · rw [List.getElem?_append_right (by simp; omega)] at h
    have := List.mem_of_getElem? h
    rw [List.mem_replicate] at this
    cases this.2
theorem slots_own {N : Nat} {ws : List W} {i : Nat} {c : Ct} : (slots N ws)[i]? ≠ some (Sl.own c) := fun h => by
  simp only [slots] at h
  have := List.mem_of_getElem? h
  rw [List.mem_append] at this
  rcases this with z | z
  · obtain ⟨w, _, e⟩ := List.mem_map.mp z; cases e
  · rw [List.mem_replicate] at z; cases z.2
theorem start_get {N : List Str} {vs : List V} {i : Nat} {v : V} (h : vs[i]? = some v) : (L2.start N vs)[i]? = some (some v) := by
  unfold L2.start
  rw [List.getElem?_append_left (by simpa using (List.getElem?_eq_some_iff.mp h).1), List.getElem?_map, h]
  rfl
theorem Rl.start {cls : Str → Addr} {E : XK} {N : List Str} {ws : List W} {vs : List V} (R : RlH K C g s H) (r : Paired (RepW K g s.O.length) ws vs) (ha : ws.all argOk = true) : Rl K (G0 C cls E g s H) g (slots N.length ws) s (L2.start N vs) H := by
  have hl := Paired.length r
  have pg : ∀ {ws : List W} {vs : List V} (i : Nat) (w : W), Paired (RepW K g s.O.length) ws vs → ws[i]? = some w → ∃ v, vs[i]? = some v ∧ RepW K g s.O.length w v := by
    intro ws vs i w q
    induction q generalizing i with
    | nil => intro e; simp at e
    | cons p t ih =>
      intro e
      cases i with
      | zero => simp at e; subst e; exact ⟨_, rfl, p⟩
      | succ i => obtain ⟨v, h1, h2⟩ := ih i (by simpa using e); exact ⟨v, by simpa using h1, h2⟩
  refine { toRlH := R, len := by simp [L2.start, hl], sok := fun i w e => ?_, exs := fun i a e => (nomatch e), val := fun i w e => ?_, own := fun i c e => absurd e slots_own, oni := fun i fs => slots_own, oin := fun i j c d e => absurd e slots_own, frm := fun a u f => ⟨f.1, f.2.1, f.2.2, fun i c e => absurd e slots_own⟩, newS := fun a u e => .inl e, newC := fun k h1 h2 => absurd h2 (Nat.not_lt.mpr h1), oldC := fun k _ => rfl, n0le := Nat.le_refl _, newO := fun i c e => absurd e slots_own, dom := fun a h => h, subS := Sub.rfl }
  · have := List.all_eq_true.mp ha w (List.mem_of_getElem? (slots_val e))
    cases w <;> first | rfl | cases this
  · obtain ⟨v, h1, h2⟩ := pg i w r (slots_val e)
    exact ⟨v, start_get h1, h2⟩
theorem Rl.prB {cls : Str → Addr} {E : XK} {g' : Gh} {sl : List Sl} {s' : Sto} {σ : St} {H' : Hp} (R : Rl K (G0 C cls E g s H) g' sl s' σ H') (l : Le g g' s.O.length) (hn : s.O.length ≤ s'.O.length) : Pr K C g s H g' s' H' :=
  ⟨R.toRlH, l, hn, R.newS, R.newC, fun a u h1 h2 h3 => (R.frm a u ⟨h1, h2, h3⟩).1, R.dom⟩
theorem Rl.prA {cls : Str → Addr} {E : XK} {g' : Gh} {sl : List Sl} {s' : Sto} {σ : St} {H' : Hp} (R0 : RlH K C g s H) (R : Rl K (G0 C cls E g s H) g' sl s' σ H') (l : Le g g' s.O.length) (hn : s.O.length ≤ s'.O.length) (hb : bOk s s' = true) : Pr K C g s H g' (s.back s') H' :=
  ⟨R.toRlH.trunc hb hn (by rw [l.la]; exact paired_imp R0.lkw fun w x z => z.le l (Nat.le_refl _)), l, by rw [back_len hn]; exact Nat.le_refl _, R.newS, fun k h1 h2 => absurd h2 (by rw [back_len hn]; omega), fun a u h1 h2 h3 => (R.frm a u ⟨h1, h2, h3⟩).1, R.dom⟩
theorem RepY.frR {cls : Str → Addr} {E : XK} {g' : Gh} {sl : List Sl} {s' : Sto} {H' : Hp} {c : Ct} {v : V} (r : RepY K (G0 C cls E g s H) g' sl s' H' (.fr c) v) : RepR K C g' s' H H' (.fr c) v := by
  obtain ⟨p, rfl, h1, h2, h3, h4, h5, h6, h7⟩ := r
  exact ⟨p, rfl, h1, h2, h4, h5, h6, h7⟩
theorem RepR.back {g' : Gh} {s' : Sto} {H' : Hp} {c : Ct} {v : V} (hn : s.O.length ≤ s'.O.length) (r : RepR K C g' s' H H' (.fr c) v) : RepR K C g' (s.back s') H H' (.fr c) v := by
  obtain ⟨p, rfl, h1, h2, h4, h5, h6, h7⟩ := r
  exact ⟨p, rfl, h1, fun k hk => h2 k (by rw [back_len hn] at hk; omega), h4, h5, h6.fit fun fs z => absurd z (h7 fs), h7⟩
end
section
variable {P : Program} {w : World} {K : PySem.W.Frag} {mg : Str → Option Value} {base : Heap} {C : Addr} {cls : Str → Addr} {k : Nat} {f : Addr} {ps N : List Str} {body : MS} {x qual : Str} {st : Stmt} {fd : FuncData}
/-- what a body's derivation may use -/
def BodyOk (P : Program) (w : World) (K : PySem.W.Frag) (mg : Str → Option Value) (base : Heap) (C : Addr) (cls : Str → Addr) (k : Nat) (f : Addr) (N : List Str) (qual : Str) (st : Stmt) (body : MS) : Prop :=
  ∀ (cdv : Value) (A : Around) (outer : List Env) (s : Shared) (H : Hp) (E : XK) (G : Gc), G.C = C → G.cls = cls → G.xs = none → Room k (A.deeper (PyProof.Rows.envOfC qual (defScope st) s.heap.objs.size f cdv)) →
    Takes (cxOf (L2.CX P w) P w K mg base N qual (defScope st) f cdv A outer s H E) G.W → PassesOwn (model P w) (A.deeper (PyProof.Rows.envOfC qual (defScope st) s.heap.objs.size f cdv)) (PyProof.Rows.envOfC qual (defScope st) s.heap.objs.size f cdv) (cxOf (L2.CX P w) P w K mg base N qual (defScope st) f cdv A outer s H E).xe →
    DSs (cxOf (L2.CX P w) P w K mg base N qual (defScope st) f cdv A outer s H E) G (defBody st) body
theorem fn_okA0 (F : Fun K x qual st f fd) (S : FnScope N ps (defScope st)) (B : BodyOk P w K mg base C cls k f N qual st body) : FnOk P w K mg base (L2.CX P w) (k + 1) f fd ps (spD K C cls ps.length (runA N.length body)) := by
  refine F.okX S (fun vs H Q E h => h.len) fun cdv A outer s H vs Q E hr hsp => ?_
  obtain ⟨g, s0, ws, hl, RH, r, ha, hres⟩ := hsp
  refine ⟨tDS K (G0 C cls E g s0 H) body, B cdv A outer s H E (G0 C cls E g s0 H) rfl rfl rfl hr (takes_of rfl rfl rfl rfl) (passes_of rfl), ?_⟩
  refine ⟨g, slots N.length ws, s0, Rl.start RH r ha, ?_⟩
  unfold runA at hres
  cases e : body (slots N.length ws) s0 with
  | nx sl' s' =>
    rw [e] at hres
    try dsimp only at hres
    split at hres
    · rename_i y s2 q
      split at q
      · rename_i hb
        cases q
        exact fun g' σ' H' l n R => hres .non g' H' (Rl.prA RH R l n hb) (by show Rep K g'.S .non .non; simp only [Rep])
      · cases q
    · rename_i q; split at q <;> cases q
    · exact hres.elim
  | rt y s' =>
    rw [e] at hres
    intro v g' sl' σ' H' l n R r
    cases y with
    | fr c =>
      try dsimp only at hres
      split at hres
      · rename_i y s2 q
        split at q
        · rename_i hb
          cases q
          exact hres v g' H' (Rl.prA RH R l n hb) (r.frR.back n)
        · cases q
      · rename_i q; split at q <;> cases q
      · exact hres.elim
    | w z =>
      cases z with
      | f y =>
        try dsimp only at hres
        split at hres
        · rename_i y s2 q
          split at q
          · rename_i hb
            cases q
            exact hres v g' H' (Rl.prA RH R l n hb) r
          · cases q
        · rename_i q; split at q <;> cases q
        · exact hres.elim
      | c k =>
        try dsimp only at hres
        split at hres
        · rename_i y s2 q
          split at q
          · rename_i hb
            cases q
            simp only [Bool.and_eq_true, decide_eq_true_eq] at hb
            exact hres v g' H' (Rl.prA RH R l n hb.2) ⟨by rw [back_len n]; exact hb.1, r.2⟩
          · cases q
        · rename_i q; split at q <;> cases q
        · exact hres.elim
      | o i => exact hres.elim
      | x c => exact hres.elim
  | exc c sl' s' =>
    rw [e] at hres
    try dsimp only at hres
    split at hres
    · rename_i y s2 q; split at q <;> cases q
    · rename_i c2 s2 q
      split at q
      · rename_i hb
        cases q
        exact fun g' σ' H' l n R => hres g' H' (Rl.prA RH R l n hb)
      · cases q
    · exact hres.elim
  | bk sl' s' => rw [e] at hres; exact hres.elim
  | ct sl' s' => rw [e] at hres; exact hres.elim
  | bad => rw [e] at hres; exact hres
theorem fn_okA (F : Fun K x qual st f fd) (S : FnScope N ps (defScope st)) (hb : Binds K fd ps []) (B : BodyOk P w K mg base C cls k f N qual st body) : Dfn P w K mg base C cls (k + 1) f ps (runA N.length body) := ⟨fd, fn_okA0 F S B, hb⟩
theorem fn_okB0 (F : Fun K x qual st f fd) (S : FnScope N ps (defScope st)) (B : BodyOk P w K mg base C cls k f N qual st body) : FnOk P w K mg base (L2.CX P w) (k + 1) f fd ps (spD K C cls ps.length (runB N.length body)) := by
  refine F.okX S (fun vs H Q E h => h.len) fun cdv A outer s H vs Q E hr hsp => ?_
  obtain ⟨g, s0, ws, hl, RH, r, ha, hres⟩ := hsp
  refine ⟨tDS K (G0 C cls E g s0 H) body, B cdv A outer s H E (G0 C cls E g s0 H) rfl rfl rfl hr (takes_of rfl rfl rfl rfl) (passes_of rfl), ?_⟩
  refine ⟨g, slots N.length ws, s0, Rl.start RH r ha, ?_⟩
  unfold runB at hres
  cases e : body (slots N.length ws) s0 with
  | nx sl' s' =>
    rw [e] at hres
    exact fun g' σ' H' l n R => hres .non g' H' (R.prB l n) (by show Rep K g'.S .non .non; simp only [Rep])
  | rt y s' =>
    rw [e] at hres
    intro v g' sl' σ' H' l n R r
    cases y with
    | fr c => exact hres v g' H' (R.prB l n) r.frR
    | w z =>
      cases z with
      | f y => exact hres v g' H' (R.prB l n) r
      | c k => exact hres v g' H' (R.prB l n) r
      | o i => exact hres.elim
      | x c => exact hres.elim
  | exc c sl' s' =>
    rw [e] at hres
    exact fun g' σ' H' l n R => hres g' H' (R.prB l n)
  | bk sl' s' => rw [e] at hres; exact hres.elim
  | ct sl' s' => rw [e] at hres; exact hres.elim
  | bad => rw [e] at hres; exact hres
theorem fn_okB (F : Fun K x qual st f fd) (S : FnScope N ps (defScope st)) (hb : Binds K fd ps []) (B : BodyOk P w K mg base C cls k f N qual st body) : Dfn P w K mg base C cls (k + 1) f ps (runB N.length body) := ⟨fd, fn_okB0 F S B, hb⟩
/-- a def's mirror in its place -/
theorem Dfn.mir {psi phi : Psi} (D : Dfn P w K mg base C cls k f ps phi) (r : Ref psi phi) : Dfn P w K mg base C cls k f ps psi := by
  obtain ⟨fd, F, b⟩ := D.fn
  exact ⟨fd, F.imp fun vs H Q E h => h.imp r, b⟩
theorem Dfn.mono {psi : Psi} {j : Nat} (D : Dfn P w K mg base C cls j f ps psi) (h : j ≤ k) : Dfn P w K mg base C cls k f ps psi := by
  obtain ⟨fd, F, b⟩ := D.fn
  exact ⟨fd, F.mono h, b⟩
end
end Fm

/-! FH: operations by data. -/
namespace Fm
open PySem L2

/-! ### numbers -/
@[simp] def addF : F → F → Op
  | .int i, .int j => .val (.int (i + j))
  | .str x, .str y => if x.length + y.length ≤ sizeLine then .val (.str (x ++ y)) else .bad
  | .lst xs, .lst ys => if xs.length + ys.length ≤ sizeLine then .new (.lst (xs ++ ys)) else .bad
  | .tup xs, .tup ys => if xs ≠ [] ∧ ys ≠ [] ∧ xs.length + ys.length ≤ sizeLine then .ntup (xs ++ ys) else .bad
  | _, _ => .bad
@[simp] def subF : F → F → Op
  | .int i, .int j => .val (.int (i - j))
  | _, _ => .bad
def strRep (x : Str) (n : Nat) : Str := ⟨(List.replicate n x.cps.toList).flatten.toArray⟩
def mulOk (i j : Int) : Bool := decide (i.natAbs < 18446744073709551616) || decide (j.natAbs < 18446744073709551616)
theorem mulOk_to {i j : Int} (h : mulOk i j = true) : (-(2 ^ 64) < i ∧ i < 2 ^ 64) ∨ (-(2 ^ 64) < j ∧ j < 2 ^ 64) := by
  have e : (2 : Int) ^ 64 = 18446744073709551616 := by decide
  unfold mulOk at h
  rw [Bool.or_eq_true, decide_eq_true_eq, decide_eq_true_eq] at h
  rw [e]
  omega
def divOk (j : Int) : Bool := decide (j ≠ 0 ∧ j.natAbs < 1073741824)
def powOk (i j : Int) : Bool := decide (0 ≤ j ∧ j ≤ 1000000 ∧ i.natAbs < 2 ^ 64)
def repOk (x : Str) (n : Int) : Bool := decide (0 ≤ n ∧ n ≤ 100 ∧ x.length ≤ 1000)
@[simp] def mulF : F → F → Op
  | .int i, .int j => if mulOk i j then .val (.int (i * j)) else .bad
  | .str x, .int n => if repOk x n then .val (.str (strRep x n.toNat)) else .bad
  | _, _ => .bad
@[simp] def divF : F → F → Op
  | .int i, .int j => if divOk j then .val (.int (i.fdiv j)) else .bad
  | _, _ => .bad
@[simp] def modF : F → F → Op
  | .int i, .int j => if j ≠ 0 then .val (.int (i.fmod j)) else .bad
  | _, _ => .bad
@[simp] def powF : F → F → Op
  | .int i, .int j => if powOk i j then .val (.int (i ^ j.toNat)) else .bad
  | _, _ => .bad
@[simp] def negF : F → Op
  | .int i => .val (.int (-i))
  | _ => .bad
@[simp] def ltF : F → F → Op
  | .int i, .int j => .val (.bl (decide (i < j)))
  | _, _ => .bad
@[simp] def leF : F → F → Op
  | .int i, .int j => .val (.bl (decide (i ≤ j)))
  | _, _ => .bad
@[simp] def gtF : F → F → Op
  | .int i, .int j => .val (.bl (decide (j < i)))
  | _, _ => .bad
@[simp] def geF : F → F → Op
  | .int i, .int j => .val (.bl (decide (j ≤ i)))
  | _, _ => .bad
theorem rep_bl {K : PySem.W.Frag} {S : Hp} {b : Bool} : Rep K S (.bl b) (.bl b) := by simp only [Rep]
theorem rep_int {K : PySem.W.Frag} {S : Hp} {b : Int} : Rep K S (.int b) (.int b) := by simp only [Rep]
theorem rep_str {K : PySem.W.Frag} {S : Hp} {b : Str} : Rep K S (.str b) (.str b) := by simp only [Rep]
section
variable {X : Cx}
theorem OpR.of {f : Value → Value → Sem Value} {r r' : R2} (h : OpR X f r) (k : ∀ x y H Q, r' x y H Q → r x y H Q) : OpR X f r' := fun pins s σ H x y v u Q I rx ry q => h pins s σ H x y v u Q I rx ry (k x y H Q q)
/-- an operation by data from its cases -/
theorem OpR.ofD {f : Value → Value → Sem Value} {g : F → F → Op} (h : ∀ S a b, ∀ (pins : List (Addr × Obj)) (s : Shared) (σ : St) (H : Hp) (x y : V) (v u : Value) (Q : VK), Inv X pins σ H s → RelV x v → RelV y u → Lk S H → RepP X.K S H a x → RepP X.K S H b y → Post X.K S H Q (g a b) →
    wpAny (model X.prog X.w) X.A (f v u) (EP X pins σ Q) X.xe s) : OpR X f (rD2 X.K g) := fun pins s σ H x y v u Q I rx ry ⟨S, a, b, l, p, q, t⟩ => h S a b pins s σ H x y v u Q I rx ry l p q t
theorem od_add : OpR X (binaryOp .Add) (rD2 X.K addF) := OpR.ofD fun S a b pins s σ H x y v u Q I rx ry l p q t => by
  cases a <;> cases b <;> simp only [addF] at t <;> try exact t.elim
  · rename_i i j; exact op_add pins s σ H x y v u Q I rx ry ⟨i, j, p, q, t _ rep_int⟩
  · rename_i i j
    split at t
    · rename_i hl; exact op_add_str pins s σ H x y v u Q I rx ry ⟨i, j, p, q, hl, t _ rep_str⟩
    · exact t.elim
  · rename_i xs ys
    split at t
    · rename_i hl
      obtain ⟨d, vs, rfl, hd, hr⟩ := p
      obtain ⟨e, ws, rfl, he, hq⟩ := q
      exact op_cat pins s σ H _ _ v u Q I rx ry ⟨d, e, vs, ws, rfl, rfl, hd, he, by rw [← hr.length, ← hq.length]; exact hl, fun p hp => t p _ hp (hr.append hq)⟩
    · exact t.elim
  · rename_i xs ys
    split at t
    · rename_i hl
      obtain ⟨d, vs, rfl, hd, hr⟩ := p
      obtain ⟨e, ws, rfl, he, hq⟩ := q
      have n1 : vs ≠ [] := fun z => hl.1 (by subst z; have := hr.length; exact List.length_eq_zero_iff.mp this)
      have n2 : ws ≠ [] := fun z => hl.2.1 (by subst z; have := hq.length; exact List.length_eq_zero_iff.mp this)
      exact op_catT pins s σ H _ _ v u Q I rx ry ⟨d, e, vs, ws, rfl, rfl, .of hd, .of he, n1, by rw [← hr.length, ← hq.length]; exact hl.2.2, fun z => absurd z n2, fun _ p hp => t p _ hp (hr.append hq)⟩
    · exact t.elim
theorem od_sub : OpR X (binaryOp .Sub) (rD2 X.K subF) := OpR.ofD fun S a b pins s σ H x y v u Q I rx ry l p q t => by
  cases a <;> cases b <;> simp only [subF] at t <;> try exact t.elim
  rename_i i j; exact op_sub pins s σ H x y v u Q I rx ry ⟨i, j, p, q, t _ rep_int⟩
theorem foldl_rep' (x : Array Nat) : ∀ (k : Nat) (acc : Array Nat), (List.replicate k x).foldl (· ++ ·) acc = acc ++ (List.replicate k x.toList).flatten.toArray
  | 0, acc => by simp
  | k + 1, acc => by
    rw [List.replicate_succ, List.foldl_cons, foldl_rep' x k, List.replicate_succ, List.flatten_cons]
    obtain ⟨x⟩ := x
    obtain ⟨a⟩ := acc
    simp
theorem strRep_len (x : Str) (n : Nat) : (strRep x n).length = n * x.length := by
  show (List.replicate n x.cps.toList).flatten.toArray.size = n * x.cps.size
  simp
theorem op_strRep (pins : List (Addr × Obj)) (s : Shared) (σ : St) (H : Hp) (x : Str) (n : Int) (v u : Value) (Q : VK) (I : Inv X pins σ H s) (rx : RelV (.str x) v) (ry : RelV (.int n) u) (h0 : 0 ≤ n ∧ n ≤ 100 ∧ x.length ≤ 1000) (q : Q (.str (strRep x n.toNat)) H) :
    wpAny (model X.prog X.w) X.A (binaryOp .Mult v u) (EP X pins σ Q) X.xe s := by
  obtain ⟨t, rfl⟩ := rx
  obtain ⟨t2, rfl⟩ := ry
  obtain ⟨h0, h1, h2⟩ := h0
  have hm : x.length * n.toNat ≤ 100000 := by
    have : n.toNat ≤ 100 := by omega
    exact Nat.le_trans (Nat.mul_le_mul h2 this) (by decide)
  refine PySem.P.mul_str (by simp; omega) (fun h3 _ => ?_) (fun _ _ => ?_) ?_
  · intro hh
    have h4 : (100 : Int) * 10000 ≤ 2 ^ 63 - 1 := by decide
    have h5 : (10000 : Int) ≤ (2 ^ 63 - 1) / n := by
      refine Int.le_ediv_of_mul_le (by omega) ?_
      calc (10000 : Int) * n ≤ 10000 * 100 := Int.mul_le_mul_of_nonneg_left h1 (by decide)
        _ ≤ 2 ^ 63 - 1 := by decide
    omega
  · unfold Builtin.Str.tooLong
    have := sizeLine_eq
    exact decide_eq_false (by omega)
  · split
    · rename_i h3
      have : n = 0 := by omega
      subst this
      exact ⟨by decide, ⟨.str _, H, I.tok _, ⟨_, rfl⟩, q⟩⟩
    · split
      · rename_i h3 h4
        refine ⟨.str x, H, I, ⟨_, rfl⟩, ?_⟩
        rw [Bool.or_eq_true, beq_iff_eq, beq_iff_eq] at h4
        have e : x = strRep x n.toNat := by
          obtain ⟨⟨l⟩⟩ := x
          rcases h4 with rfl | h4
          · simp [strRep]
          · have : l = [] := List.eq_nil_of_length_eq_zero h4
            subst this
            simp [strRep]
        rw [← e] at q
        exact q
      · have e : (⟨(List.replicate n.toNat x.cps).foldl (· ++ ·) #[]⟩ : Str) = strRep x n.toNat := by
          rw [foldl_rep']
          simp [strRep]
        rw [e]
        refine ⟨?_, ⟨.str _, H, I.tok _, ⟨_, rfl⟩, q⟩⟩
        rw [strRep_len, sizeLine_eq, Nat.mul_comm]; omega
theorem od_mul : OpR X (binaryOp .Mult) (rD2 X.K mulF) := OpR.ofD fun S a b pins s σ H x y v u Q I rx ry l p q t => by
  cases a <;> cases b <;> simp only [mulF] at t <;> try exact t.elim
  · rename_i i j
    split at t
    · rename_i hl; exact op_mul pins s σ H x y v u Q I rx ry ⟨i, j, p, q, mulOk_to hl, t _ rep_int⟩
    · exact t.elim
  · rename_i z n
    split at t
    · rename_i hl
      have p : x = .str z := p
      have q : y = .int n := q
      subst p q
      exact op_strRep pins s σ H z n v u Q I rx ry (by have z := of_decide_eq_true hl; exact z) (t _ rep_str)
    · exact t.elim
theorem od_div : OpR X (binaryOp .FloorDiv) (rD2 X.K divF) := OpR.ofD fun S a b pins s σ H x y v u Q I rx ry l p q t => by
  cases a <;> cases b <;> simp only [divF] at t <;> try exact t.elim
  rename_i i j
  split at t
  · rename_i hl; exact op_fdivN pins s σ H x y v u Q I rx ry ⟨i, j, p, q, (by have z := of_decide_eq_true hl; exact z), t _ rep_int⟩
  · exact t.elim
theorem od_mod : OpR X (binaryOp .Mod) (rD2 X.K modF) := OpR.ofD fun S a b pins s σ H x y v u Q I rx ry l p q t => by
  cases a <;> cases b <;> simp only [modF] at t <;> try exact t.elim
  rename_i i j
  split at t
  · rename_i hl; exact op_modN pins s σ H x y v u Q I rx ry ⟨i, j, p, q, hl, t _ rep_int⟩
  · exact t.elim
theorem od_pow : OpR X (binaryOp .Pow) (rD2 X.K powF) := OpR.ofD fun S a b pins s σ H x y v u Q I rx ry l p q t => by
  cases a <;> cases b <;> simp only [powF] at t <;> try exact t.elim
  rename_i i j
  split at t
  · rename_i hl; exact op_pow pins s σ H x y v u Q I rx ry ⟨i, j, p, q, (by have z := of_decide_eq_true hl; exact z), t _ rep_int⟩
  · exact t.elim
theorem od_neg : UnR X (unaryOp .USub) (rD1 X.K negF) := fun pins s σ H x v Q I rx ⟨S, a, l, p, t⟩ => by
  cases a <;> simp only [negF] at t <;> try exact t.elim
  rename_i i; exact un_neg pins s σ H x v Q I rx ⟨i, p, t _ rep_int⟩
theorem od_lt : OpR X (compareOp .Lt) (rD2 X.K ltF) := OpR.ofD fun S a b pins s σ H x y v u Q I rx ry l p q t => by
  cases a <;> cases b <;> simp only [ltF] at t <;> try exact t.elim
  rename_i i j; exact op_lt pins s σ H x y v u Q I rx ry ⟨i, j, p, q, t _ rep_bl⟩
theorem od_le : OpR X (compareOp .LtE) (rD2 X.K leF) := OpR.ofD fun S a b pins s σ H x y v u Q I rx ry l p q t => by
  cases a <;> cases b <;> simp only [leF] at t <;> try exact t.elim
  rename_i i j; exact op_le pins s σ H x y v u Q I rx ry ⟨i, j, p, q, t _ rep_bl⟩
theorem od_gt : OpR X (compareOp .Gt) (rD2 X.K gtF) := OpR.ofD fun S a b pins s σ H x y v u Q I rx ry l p q t => by
  cases a <;> cases b <;> simp only [gtF] at t <;> try exact t.elim
  rename_i i j; exact op_gt pins s σ H x y v u Q I rx ry ⟨i, j, p, q, t _ rep_bl⟩
theorem od_ge : OpR X (compareOp .GtE) (rD2 X.K geF) := OpR.ofD fun S a b pins s σ H x y v u Q I rx ry l p q t => by
  cases a <;> cases b <;> simp only [geF] at t <;> try exact t.elim
  rename_i i j; exact op_ge pins s σ H x y v u Q I rx ry ⟨i, j, p, q, t _ rep_bl⟩
end

/-! ### == -/
@[simp] def flatF : F → Bool
  | .non => true | .bl _ => true | .int _ => true | .str _ => true
  | _ => false
@[simp] def eqFl : F → F → Bool
  | .non, .non => true
  | .bl a, .bl b => a == b
  | .bl a, .int b => (if a then 1 else 0) == b
  | .int a, .bl b => a == (if b then 1 else 0)
  | .int a, .int b => a == b
  | .str a, .str b => a == b
  | _, _ => false
def allO : List (Option Bool) → Option Bool
  | [] => some true
  | none :: _ => none
  | some b :: r => match allO r with
    | some c => some (b && c)
    | none => none
def eqN : Nat → F → F → Option Bool
  | 0, _, _ => none
  | n + 1, .lst xs, .lst ys => if xs.length = ys.length then allO (List.zipWith (eqN n) xs ys) else some false
  | _ + 1, .tup xs, .tup ys => if xs.all flatF && ys.all flatF then some (decide (xs.length = ys.length) && (List.zipWith eqFl xs ys).all id) else none
  | _ + 1, .dct ks, .dct ls => if (ks.all fun p => flatF p.2) && (ls.all fun p => flatF p.2) then some (decide (ks.length = ls.length) && ks.all fun p => match vK ls p.1 with
      | some y => eqFl p.2 y
      | none => false) else none
  | _ + 1, x, y => if flatF x && flatF y then some (eqFl x y) else none
def eqT (x y : F) : Option Bool := match x, y with
  | .str a, .str b => some (a == b)
  | .str _, _ => none
  | _, .str _ => none
  | x, y => eqN 6 x y
@[simp] def eqF (x y : F) : Op := match eqT x y with
  | some b => .val (.bl b)
  | none => .bad
@[simp] def neF (x y : F) : Op := match eqT x y with
  | some b => .val (.bl (!b))
  | none => .bad
theorem flatV_of {K : PySem.W.Frag} {S H : Hp} {x : F} {v : V} (p : RepP K S H x v) (f : flatF x = true) : flatV v = true ∧ Rep K S x v := by
  cases x with
  | non => have p : v = V.non := p; subst p; exact ⟨rfl, by simp only [Rep]⟩
  | bl b => have p : v = V.bl b := p; subst p; exact ⟨rfl, by simp only [Rep]⟩
  | int b => have p : v = V.int b := p; subst p; exact ⟨rfl, by simp only [Rep]⟩
  | str b => have p : v = V.str b := p; subst p; exact ⟨rfl, by simp only [Rep]⟩
  | _ => exact absurd f Bool.false_ne_true
theorem rep_flat {K : PySem.W.Frag} {S H : Hp} {x : F} {v : V} (p : Rep K S x v) (f : flatF x = true) : RepP K S H x v := by
  cases x with
  | non => simp only [Rep] at p; exact p
  | bl b => simp only [Rep] at p; exact p
  | int b => simp only [Rep] at p; exact p
  | str b => simp only [Rep] at p; exact p
  | _ => exact absurd f Bool.false_ne_true
theorem eqFl_V {K : PySem.W.Frag} {S H : Hp} {x y : F} {v u : V} (p : RepP K S H x v) (q : RepP K S H y u) (f : flatF x = true) (g : flatF y = true) : eqFl x y = eqV v u := by
  have hv : ∀ {z : F} {w : V}, RepP K S H z w → flatF z = true → (z = .non ∧ w = .non) ∨ (∃ b, z = .bl b ∧ w = .bl b) ∨ (∃ b, z = .int b ∧ w = .int b) ∨ ∃ b, z = .str b ∧ w = .str b := fun {z w} p f => by
    cases z with
    | non => exact .inl ⟨rfl, p⟩
    | bl b => exact .inr (.inl ⟨b, rfl, p⟩)
    | int b => exact .inr (.inr (.inl ⟨b, rfl, p⟩))
    | str b => exact .inr (.inr (.inr ⟨b, rfl, p⟩))
    | _ => exact absurd f Bool.false_ne_true
  rcases hv p f with ⟨rfl, rfl⟩ | ⟨b, rfl, rfl⟩ | ⟨b, rfl, rfl⟩ | ⟨b, rfl, rfl⟩ <;> rcases hv q g with ⟨rfl, rfl⟩ | ⟨c, rfl, rfl⟩ | ⟨c, rfl, rfl⟩ | ⟨c, rfl, rfl⟩ <;> rfl

theorem allO_some : ∀ {l : List (Option Bool)} {b : Bool}, allO l = some b → ∃ bs : List Bool, l = bs.map some ∧ b = bs.all id
  | [], b, h => by simp only [allO] at h; cases h; exact ⟨[], rfl, rfl⟩
  | none :: _, b, h => by simp only [allO] at h; cases h
  | some c :: r, b, h => by
    simp only [allO] at h
    cases e : allO r with
    | none => rw [e] at h; cases h
    | some d =>
      rw [e] at h
      cases h
      obtain ⟨bs, rfl, rfl⟩ := allO_some e
      exact ⟨c :: bs, rfl, rfl⟩
theorem eqN_flat {n : Nat} {x y : F} {b : Bool} (hx : flatF x = true) (h : eqN n x y = some b) : flatF y = true ∧ b = eqFl x y := by
  cases n with
  | zero => simp only [eqN] at h; cases h
  | succ n =>
    cases x with
    | lst _ => exact absurd hx Bool.false_ne_true
    | tup _ => exact absurd hx Bool.false_ne_true
    | dct _ => exact absurd hx Bool.false_ne_true
    | scr _ => exact absurd hx Bool.false_ne_true
    | _ =>
      simp only [eqN] at h
      split at h
      · rename_i q
        simp only [Bool.and_eq_true] at q
        cases h; exact ⟨q.2, rfl⟩
      · cases h
theorem eqFl_refl {x : F} (h : flatF x = true) : eqFl x x = true := by
  cases x with
  | lst _ => exact absurd h Bool.false_ne_true
  | tup _ => exact absurd h Bool.false_ne_true
  | dct _ => exact absurd h Bool.false_ne_true
  | scr _ => exact absurd h Bool.false_ne_true
  | _ => simp
theorem rep_flat_inj {K : PySem.W.Frag} {S : Hp} {x y : F} {v : V} (p : Rep K S x v) (q : Rep K S y v) (hx : flatF x = true) (hy : flatF y = true) : x = y := by
  cases x <;> cases y <;> first | (exact absurd hx Bool.false_ne_true) | (exact absurd hy Bool.false_ne_true) | (simp only [Rep] at p q; subst p; cases q <;> rfl)
theorem nodup_vK {α : Type} {k : Key} {x : α} : ∀ {ls : List (Key × α)}, (ls.map (·.1)).Nodup → (k, x) ∈ ls → vK ls k = some x
  | [], _, h => by cases h
  | (l, y) :: r, nd, h => by
    rw [List.map_cons] at nd
    obtain ⟨n1, n2⟩ := List.nodup_cons.mp nd
    rcases List.mem_cons.mp h with e | h
    · cases e; simp [vK]
    · have ne : l ≠ k := fun z => n1 (by rw [z]; exact List.mem_map.mpr ⟨_, h, rfl⟩)
      have := nodup_vK n2 h
      simpa [vK, ne] using this
/-- one object equals itself -/
theorem eq_same {K : PySem.W.Frag} {S : Hp} (nd : ∀ a kvs, S a = some (.dK kvs) → (kvs.map (·.1)).Nodup) : ∀ (n : Nat) (x y : F) (v : V) (b : Bool), Rep K S x v → Rep K S y v → eqN n x y = some b → b = true
  | 0, _, _, _, _, _, _, h => by simp only [eqN] at h; cases h
  | n + 1, x, y, v, b, p, q, h => by
    have flatc : flatF x = true → b = true := fun hx => by
      obtain ⟨hy, rfl⟩ := eqN_flat hx h
      rw [rep_flat_inj p q hx hy]; exact eqFl_refl hy
    cases x with
    | lst xs =>
      cases y with
      | lst ys =>
        simp only [eqN] at h
        simp only [Rep] at p q
        obtain ⟨a, vs, rfl, h1, h2⟩ := p
        obtain ⟨c, ws, e, h3, h4⟩ := q
        cases e
        rw [h1] at h3; cases h3
        split at h
        · obtain ⟨bs, e1, rfl⟩ := allO_some h
          rw [List.all_eq_true]
          intro b hb
          obtain ⟨j, hj⟩ := List.getElem?_of_mem hb
          have e2 : (List.zipWith (eqN n) xs ys)[j]? = some (some b) := by rw [e1, List.getElem?_map, hj]; rfl
          rw [List.getElem?_zipWith] at e2
          cases ex : xs[j]? with
          | none => rw [ex] at e2; cases ys[j]? <;> cases e2
          | some x1 =>
            cases ey : ys[j]? with
            | none => rw [ex, ey] at e2; cases e2
            | some y1 =>
              rw [ex, ey] at e2
              have e2 : eqN n x1 y1 = some b := Option.some.inj e2
              obtain ⟨v1, k1, r1⟩ := h2.get ex
              obtain ⟨v2, k2, r2⟩ := h4.get ey
              rw [k1] at k2; cases k2
              exact eq_same nd n x1 y1 v1 b r1 r2 e2
        · rename_i hl; exact absurd (h2.length.trans h4.length.symm) hl
      | _ => simp [eqN] at h
    | tup xs =>
      cases y with
      | tup ys =>
        simp only [eqN] at h
        simp only [Rep] at p q
        obtain ⟨a, vs, rfl, h1, h2⟩ := p
        obtain ⟨c, ws, e, h3, h4⟩ := q
        cases e
        rw [h1] at h3; cases h3
        split at h
        · rename_i hf
          simp only [Bool.and_eq_true] at hf
          cases h
          have hl := h2.length.trans h4.length.symm
          rw [decide_eq_true hl, Bool.true_and, List.all_eq_true]
          intro b hb
          obtain ⟨j, hj⟩ := List.getElem?_of_mem hb
          rw [List.getElem?_zipWith] at hj
          cases ex : xs[j]? with
          | none => rw [ex] at hj; cases ys[j]? <;> cases hj
          | some x1 =>
            cases ey : ys[j]? with
            | none => rw [ex, ey] at hj; cases hj
            | some y1 =>
              rw [ex, ey] at hj
              obtain ⟨v1, k1, r1⟩ := h2.get ex
              obtain ⟨v2, k2, r2⟩ := h4.get ey
              rw [k1] at k2; cases k2
              have f1 := List.all_eq_true.mp hf.1 _ (List.mem_of_getElem? ex)
              have f2 := List.all_eq_true.mp hf.2 _ (List.mem_of_getElem? ey)
              have e3 : eqFl x1 y1 = b := Option.some.inj hj
              rw [← e3, rep_flat_inj r1 r2 f1 f2]; exact eqFl_refl f2
        · cases h
      | _ => simp [eqN] at h
    | dct ks =>
      cases y with
      | dct ls =>
        simp only [eqN] at h
        simp only [Rep] at p q
        obtain ⟨a, vs, rfl, h1, h2⟩ := p
        obtain ⟨c, ws, e, h3, h4⟩ := q
        cases e
        have hn := nd _ _ h1
        rw [h1] at h3; cases h3
        split at h
        · rename_i hf
          simp only [Bool.and_eq_true, List.all_eq_true] at hf
          cases h
          have hl := h2.length.trans h4.length.symm
          rw [decide_eq_true hl, Bool.true_and, List.all_eq_true]
          intro pr hp
          obtain ⟨k, x1⟩ := pr
          rcases h2.val k with ⟨x2, v2, q1, q2, q3⟩ | ⟨q1, q2⟩
          · rcases h4.val k with ⟨y2, w2, q4, q5, q6⟩ | ⟨q4, q5⟩
            · rw [q4]
              rw [q2] at q5; cases q5
              have n1 : (ks.map (·.1)).Nodup := by rw [h2.keys]; exact hn
              have e1 := nodup_vK n1 hp
              rw [q1] at e1; cases e1
              have m2 : ∃ k', (k', y2) ∈ ls := by
                unfold vK at q4
                cases e : ls.find? (fun kv => decide (kv.1 = k)) with
                | none => rw [e] at q4; cases q4
                | some z => rw [e] at q4; cases q4; exact ⟨z.1, List.mem_of_find?_eq_some e⟩
              obtain ⟨k', m2⟩ := m2
              show eqFl x1 y2 = true
              have f1 := hf.1 _ hp
              have f2 := hf.2 _ m2
              rw [rep_flat_inj q3 q6 f1 f2]; exact eqFl_refl f2
            · rw [q2] at q5; cases q5
          · have n1 : (ks.map (·.1)).Nodup := by rw [h2.keys]; exact hn
            have e1 := nodup_vK n1 hp
            rw [q1] at e1; cases e1
        · cases h
      | _ => simp [eqN] at h
    | scr ns => cases y <;> simp [eqN] at h
    | non => exact flatc rfl
    | bl _ => exact flatc rfl
    | int _ => exact flatc rfl
    | str _ => exact flatc rfl

section
variable {X : Cx} {pins : List (Addr × Obj)} {σ : St} {H S : Hp} {s : Shared}
theorem S_nodup (I : Inv X pins σ H s) (l : Lk S H) : ∀ a kvs, S a = some (.dK kvs) → (kvs.map (·.1)).Nodup := fun a kvs e => by
  obtain ⟨_, _, vs, rel, dd⟩ := dk_rd I.hok (l _ _ e)
  obtain ⟨_, _, _, _, _, _, _, _, hn⟩ := dd
  rw [rel.keys]; exact hn
theorem hits_of {A : Around} {ls : List (Key × F)} {vc : List (Key × V)} {uc : List (Key × Value)} (relc : KV vc uc) (rc : RepK X.K S ls vc) (fc : (ls.all fun p => flatF p.2) = true) {va : List (Key × V)} {ua : List (Key × Value)} (rela : KV va ua) :
    ∀ {ks : List (Key × F)}, RepK X.K S ks va → (ks.all fun p => flatF p.2) = true → PySem.W.KeqHits A s uc ua (ks.all fun p => match vK ls p.1 with
        | some y => eqFl p.2 y
        | none => false) := by
  unfold KV at rela
  induction rela with
  | nil =>
    intro ks ra fa
    cases ks with
    | nil => exact .nil
    | cons _ _ => simp only [RepK] at ra; obtain ⟨_, _, e, _⟩ := ra; cases e
  | @cons p q ps qs hpq t ih =>
    intro ks ra fa
    cases ks with
    | nil => simp only [RepK] at ra; cases ra
    | cons k1 ks =>
      obtain ⟨k, x⟩ := k1
      simp only [RepK] at ra
      obtain ⟨v, r, e, rx, rr⟩ := ra
      cases e
      obtain ⟨e1, e2⟩ := hpq
      obtain ⟨qk, qv⟩ := q
      have e1 : k = qk := e1
      subst e1
      rw [List.all_cons] at fa
      simp only [Bool.and_eq_true] at fa
      have hr0 := ih rr fa.2
      rw [List.all_cons]
      rcases rc.val k with ⟨y, w', q1, q2, q3⟩ | ⟨q1, q2⟩
      · have ro := relc.val k
        rw [q2] at ro
        obtain ⟨u, hu, ru⟩ := ro.some_of
        have fy : flatF y = true := by
          unfold vK at q1
          cases e : ls.find? (fun kv => decide (kv.1 = k)) with
          | none => rw [e] at q1; cases q1
          | some z => rw [e] at q1; cases q1; exact List.all_eq_true.mp fc _ (List.mem_of_find?_eq_some e)
        simp only [q1]
        refine .hit hu ?_ hr0
        rw [eqFl_V (rep_flat (H := S) rx fa.1) (rep_flat (H := S) q3 fy) fa.1 fy]
        exact eqAt_V e2 ru (flatV_of (rep_flat (H := S) rx fa.1) fa.1).1 (flatV_of (rep_flat (H := S) q3 fy) fy).1
      · have ro := relc.val k
        rw [q2] at ro
        simp only [q1, Bool.false_and]
        exact .miss ro.none_of
theorem dct_run {a c : Addr} {ks ls : List (Key × F)} {va vc : List (Key × V)} (I : Inv X pins σ H s) (ha : Rd H a (.dK va)) (hc : Rd H c (.dK vc)) (ra : RepK X.K S ks va) (rc : RepK X.K S ls vc) (fa : (ks.all fun p => flatF p.2) = true) (fc : (ls.all fun p => flatF p.2) = true)
    {A : Around} : ∃ (ka kb : List (Key × Value)), (a == sysModules) = false ∧ (c == sysModules) = false ∧ s.heap.DictOf (mixKind X.prog X.w) a ka ∧ s.heap.DictOf (mixKind X.prog X.w) c kb ∧ ka.length = ks.length ∧ kb.length = ls.length ∧
      PySem.W.KeqHits A s kb ka (ks.all fun p => match vK ls p.1 with
        | some y => eqFl p.2 y
        | none => false) := by
  obtain ⟨_, h1, ua, rela, da⟩ := dk_rd I.hok ha
  obtain ⟨_, h2, uc, relc, dc⟩ := dk_rd I.hok hc
  exact ⟨ua, uc, h1, h2, da, dc, by rw [← rela.length, ← ra.length], by rw [← relc.length, ← rc.length], hits_of relc rc fc rela ra fa⟩
theorem keqHitsP {A : Around} {kb : List (Key × Value)} : ∀ {ka : List (Key × Value)} {r : Bool}, PySem.W.KeqHits A s kb ka r → PySem.W.KeqHitsP X.prog X.w A s kb ka r
  | _, _, .nil => .nil
  | _, _, .miss h => .miss h
  | _, _, .hit h1 h2 h3 => .hit h1 h2.eqP (keqHitsP h3)
theorem zip_at {α β γ : Type} {f : α → β → γ} {xs : List α} {ys : List β} {j : Nat} {x : α} {y : β} (hx : xs[j]? = some x) (hy : ys[j]? = some y) : (List.zipWith f xs ys)[j]? = some (f x y) := by
  rw [List.getElem?_zipWith, hx, hy]
theorem range_all {n : Nat} {bs : List Bool} (h : bs.length = n) : ((List.range n).all fun j => (bs[j]?).getD false) = bs.all id := by
  rw [Bool.eq_iff_iff, List.all_eq_true, List.all_eq_true]
  constructor
  · intro h1 b hb
    obtain ⟨j, hj⟩ := List.getElem?_of_mem hb
    have := h1 j (List.mem_range.mpr (by rw [← h]; exact (List.getElem?_eq_some_iff.mp hj).1))
    rw [hj] at this; exact this
  · intro h1 j hj
    have hl : j < bs.length := by rw [h]; exact List.mem_range.mp hj
    rw [List.getElem?_eq_getElem hl]
    exact h1 _ (List.getElem_mem hl)
/-- two values compared within others -/
theorem eq_run (I : Inv X pins σ H s) (l : Lk S H) : ∀ (n : Nat) (A : Around), A.units + n < cLine → ∀ (x y : F) (v u : V) (vv uu : Value) (b : Bool), Rep X.K S x v → Rep X.K S y u → RelV v vv → RelV u uu → eqN n x y = some b → SeqAt.EqP X.prog X.w A s vv uu b
  | 0, _, _, _, _, _, _, _, _, _, _, _, _, _, h => by simp only [eqN] at h; cases h
  | n + 1, A, hu, x, y, v, u, vv, uu, b, p, q, rv, ru, h => by
    have flatc : flatF x = true → SeqAt.EqP X.prog X.w A s vv uu b := fun hx => by
      obtain ⟨hy, rfl⟩ := eqN_flat hx h
      have p1 := rep_flat (H := H) p hx
      have q1 := rep_flat (H := H) q hy
      rw [eqFl_V p1 q1 hx hy]
      exact (eqAt_V rv ru (flatV_of p1 hx).1 (flatV_of q1 hy).1).eqP
    have same : ∀ a, v = .ref a → u = .ref a → SeqAt.EqP X.prog X.w A s vv uu b := fun a e1 e2 => by
      subst e1 e2
      cases rv; cases ru
      rw [eq_same (S_nodup I l) (n + 1) x y (.ref a) b p q h]
      exact (SeqAt.EqAt.same _).eqP
    cases x with
    | non => exact flatc rfl
    | bl _ => exact flatc rfl
    | int _ => exact flatc rfl
    | str _ => exact flatc rfl
    | scr ns => cases y <;> simp [eqN] at h
    | lst xs =>
      cases y with
      | lst ys =>
        simp only [Rep] at p q
        obtain ⟨a, vs, rfl, h1, h2⟩ := id p
        obtain ⟨c, ws, rfl, h3, h4⟩ := id q
        by_cases e : a = c
        · subst e; exact same a rfl rfl
        · cases (show vv = Value.ref a from rv)
          cases (show uu = Value.ref c from ru)
          obtain ⟨its, r1, p1, _⟩ := I.list (SqL.of (l _ _ h1))
          obtain ⟨its2, r2, p2, _⟩ := I.list (SqL.of (l _ _ h3))
          have n1 : xs.length = its.length := h2.length.trans r1.length
          have n2 : ys.length = its2.length := h4.length.trans r2.length
          simp only [eqN] at h
          split at h
          · rename_i hl
            obtain ⟨bs, e1, rfl⟩ := allO_some h
            have hbl : bs.length = its.toArray.size := by
              have := congrArg List.length e1
              simp at this
              simp; omega
            refine SeqAt.eqP_refs e fun E Q hq => SeqAt.rcP_lists (e := fun j => (bs[j]?).getD false) p1.isList p2.isList (by simp; omega) (by omega) (fun j j1 j2 => ?_) E Q (by rw [range_all hbl]; exact hq)
            have hj1 : j < its.length := by simpa using j1
            have hj2 : j < its2.length := by simpa using j2
            obtain ⟨x1, ex⟩ : ∃ z, xs[j]? = some z := ⟨_, List.getElem?_eq_getElem (by omega)⟩
            obtain ⟨y1, ey⟩ : ∃ z, ys[j]? = some z := ⟨_, List.getElem?_eq_getElem (by omega)⟩
            obtain ⟨v1, k1, t1⟩ := h2.get ex
            obtain ⟨u1, k2, t2⟩ := h4.get ey
            obtain ⟨w1, m1, g1⟩ := Vals.get r1 k1
            obtain ⟨w2, m2, g2⟩ := Vals.get r2 k2
            have z := zip_at (f := eqN n) ex ey
            rw [e1, List.getElem?_map] at z
            cases eb : bs[j]? with
            | none => rw [eb] at z; cases z
            | some bj =>
              rw [eb] at z
              have ez : eqN n x1 y1 = some bj := (Option.some.inj z).symm
              have := eq_run I l n A.in1 (by show A.units + 1 + n < cLine; omega) x1 y1 v1 u1 w1 w2 bj t1 t2 g1 g2 ez
              have i1 : its.toArray[j] = w1 := by
                have : its[j]? = some w1 := m1
                simp at this ⊢
                obtain ⟨_, z⟩ := List.getElem?_eq_some_iff.mp m1
                exact z
              have i2 : its2.toArray[j] = w2 := by
                simp
                obtain ⟨_, z⟩ := List.getElem?_eq_some_iff.mp m2
                exact z
              rw [i1, i2]
              exact this
          · rename_i hl
            cases h
            refine (SeqAt.EqAt.of_refs e (SeqAt.RcAt.lists_lengths p1.isList p2.isList ?_ (by omega))).eqP
            simp; omega
      | _ => simp [eqN] at h
    | tup xs =>
      cases y with
      | tup ys =>
        simp only [Rep] at p q
        obtain ⟨a, vs, rfl, h1, h2⟩ := id p
        obtain ⟨c, ws, rfl, h3, h4⟩ := id q
        by_cases e : a = c
        · subst e; exact same a rfl rfl
        · cases (show vv = Value.ref a from rv)
          cases (show uu = Value.ref c from ru)
          obtain ⟨its, r1, p1, _⟩ := I.tuple (SqT.of (l _ _ h1))
          obtain ⟨its2, r2, p2, _⟩ := I.tuple (SqT.of (l _ _ h3))
          have n1 : xs.length = its.length := h2.length.trans r1.length
          have n2 : ys.length = its2.length := h4.length.trans r2.length
          simp only [eqN] at h
          split at h
          · rename_i hf
            simp only [Bool.and_eq_true] at hf
            cases h
            have at_ : ∀ j (x1 y1 : F), xs[j]? = some x1 → ys[j]? = some y1 → ((List.zipWith eqFl xs ys)[j]?).getD false = eqFl x1 y1 := fun j x1 y1 e1 e2 => by rw [zip_at e1 e2]; rfl
            have hz : (List.zipWith eqFl xs ys).length = min its.toArray.size its2.toArray.size := by simp; omega
            have key := SeqAt.RcAt.tuples (e := fun j => ((List.zipWith eqFl xs ys)[j]?).getD false) (A := A) (s := s) p1 p2 (by omega) (fun j j1 j2 => ?_)
            · rw [range_all hz] at key
              have e5 : ((List.zipWith eqFl xs ys).all id && its.toArray.size == its2.toArray.size) = (decide (xs.length = ys.length) && (List.zipWith eqFl xs ys).all id) := by
                rw [Bool.and_comm]
                congr 1
                rw [Bool.eq_iff_iff]; simp; omega
              rw [e5] at key
              exact (SeqAt.EqAt.of_refs e key).eqP
            · have hj1 : j < its.length := by simpa using j1
              have hj2 : j < its2.length := by simpa using j2
              obtain ⟨x1, ex⟩ : ∃ z, xs[j]? = some z := ⟨_, List.getElem?_eq_getElem (by omega)⟩
              obtain ⟨y1, ey⟩ : ∃ z, ys[j]? = some z := ⟨_, List.getElem?_eq_getElem (by omega)⟩
              obtain ⟨v1, k1, t1⟩ := h2.get ex
              obtain ⟨u1, k2, t2⟩ := h4.get ey
              obtain ⟨w1, m1, g1⟩ := Vals.get r1 k1
              obtain ⟨w2, m2, g2⟩ := Vals.get r2 k2
              have i1 : its.toArray[j] = w1 := by
                simp
                obtain ⟨_, z⟩ := List.getElem?_eq_some_iff.mp m1
                exact z
              have i2 : its2.toArray[j] = w2 := by
                simp
                obtain ⟨_, z⟩ := List.getElem?_eq_some_iff.mp m2
                exact z
              rw [i1, i2, at_ j x1 y1 ex ey]
              have f1 := List.all_eq_true.mp hf.1 _ (List.mem_of_getElem? ex)
              have f2 := List.all_eq_true.mp hf.2 _ (List.mem_of_getElem? ey)
              have p1 := rep_flat (H := H) t1 f1
              have q1 := rep_flat (H := H) t2 f2
              rw [eqFl_V p1 q1 f1 f2]
              exact eqAt_V g1 g2 (flatV_of p1 f1).1 (flatV_of q1 f2).1
          · cases h
      | _ => simp [eqN] at h
    | dct ks =>
      cases y with
      | dct ls =>
        simp only [Rep] at p q
        obtain ⟨a, vs, rfl, h1, h2⟩ := id p
        obtain ⟨c, ws, rfl, h3, h4⟩ := id q
        by_cases e : a = c
        · subst e; exact same a rfl rfl
        · cases (show vv = Value.ref a from rv)
          cases (show uu = Value.ref c from ru)
          simp only [eqN] at h
          split at h
          · rename_i hf
            simp only [Bool.and_eq_true] at hf
            cases h
            obtain ⟨ka, kb, m1, m2, da, dc, l1, l2, hits⟩ := dct_run (A := A.in1) I (l _ _ h1) (l _ _ h3) h2 h4 hf.1 hf.2
            refine SeqAt.eqP_refs e fun E Q hq => PySem.W.rcP_dicts m1 m2 da dc (by omega) (fun _ => keqHitsP hits) E Q ?_
            rw [l1, l2]
            have : (ks.length == ls.length) = decide (ks.length = ls.length) := by rw [Bool.eq_iff_iff]; simp
            rw [this]; exact hq
          · cases h
      | _ => simp [eqN] at h
end
end Fm

/-! FI: == and != at the top. -/
namespace PySem.SeqAt
open AutoSeq1 (wpAny_loadPart')
open MeetsSeq MeetsSeq2 MeetsSeq3 SeqRoads2
section
variable {prog : Program} {w : World}
/-- the loop of != over two lists of one length, within one model -/
theorem fm_ne_loop (p q : Addr) (xs ys : Array Value) (n m : Nat) (d1 d2 : Option Addr) (s1 s2 : Array (Option Value)) (hsz : xs.size = ys.size) (e : Nat → Bool) (k : Nat) : ∀ i : Nat, xs.size - i = k →
    MeetsIn prog w (Builtin.«list.__eq__.loop» ⟨[.ref p, .ref q, rawInt i, rawInt 3], []⟩) (fun A R s =>
      s.heap.get? p = some { cls := .type "list", dict := d1, data := .seq xs n, slots := s1 } ∧ s.heap.get? q = some { cls := .type "list", dict := d2, data := .seq ys m, slots := s2 } ∧
      (∀ j (h1 : j < xs.size) (h2 : j < ys.size), EqP prog w A.in1 s xs[j] ys[j] (e j)) ∧ R (.ok (.ret (.bool (!((List.range xs.size).drop i).all e)))) s) := by
  induction k with
  | zero =>
    intro i hk A R s hyp
    obtain ⟨hp, g, d, tk, os⟩ := s
    obtain ⟨a1, a2, _, a4⟩ := hyp
    wp_walk using wpAny_loadPart' a1, wpAny_loadPart' a2
    rw [show xs[((i : Nat) : Int).toNat]? = none from by simp; omega, show ys[((i : Nat) : Int).toNat]? = none from by simp; omega]
    rw [show (List.range xs.size).drop i = [] from by simp; omega] at a4
    wp_walk using wpAny_loadPart' a1, wpAny_loadPart' a2
    show R (.ok (.ret (.bool (xs.size != ys.size)))) _
    rw [hsz]; simpa using a4
  | succ k ih =>
    intro i hk A R s hyp
    obtain ⟨hp, g, d, tk, os⟩ := s
    obtain ⟨a1, a2, a3, a4⟩ := hyp
    wp_walk using wpAny_loadPart' a1, wpAny_loadPart' a2
    have b1 : i < xs.size := by omega
    have b2 : i < ys.size := by omega
    rw [show (List.range xs.size).drop i = i :: (List.range xs.size).drop (i + 1) from by simp [List.drop_eq_getElem_cons, b1], List.all_cons] at a4
    rw [show xs[((i : Nat) : Int).toNat]? = some xs[i] from by simp [b1], show ys[((i : Nat) : Int).toNat]? = some ys[i] from by simp [b2]]
    refine wpAny_bind (a3 i b1 b2 _ _ ?_)
    cases c : e i with
    | true =>
      rw [c] at a4
      wp_walk
      rw [show ((i : Int) + 1) = ((i + 1 : Nat) : Int) from by push_cast; rfl]
      refine ⟨plainId_quiet plain_eq_loop _, codeAny_builtin entry_eq_loop ?_⟩
      rw [Around.under_plainId plain_eq_loop _]
      exact ih (i + 1) (by omega) A R _ ⟨a1, a2, a3, by simpa using a4⟩
    | false =>
      rw [c] at a4
      wp_walk using wpAny_loadPart' a1, wpAny_loadPart' a2
      rw [show xs[((i : Nat) : Int).toNat]? = some xs[i] from by simp [b1], show ys[((i : Nat) : Int).toNat]? = some ys[i] from by simp [b2]]
      wp_walk
      simpa using a4
theorem fm_list_ne (p q : Addr) (xs ys : Array Value) (n m : Nat) (d1 d2 : Option Addr) (s1 s2 : Array (Option Value)) (hsz : xs.size = ys.size) (e : Nat → Bool) :
    MeetsIn prog w (Builtin.«list.__ne__» ⟨[.ref p, .ref q], []⟩) (fun A R s =>
      s.heap.get? p = some { cls := .type "list", dict := d1, data := .seq xs n, slots := s1 } ∧ s.heap.get? q = some { cls := .type "list", dict := d2, data := .seq ys m, slots := s2 } ∧
      (∀ j (h1 : j < xs.size) (h2 : j < ys.size), EqP prog w A.in1 s xs[j] ys[j] (e j)) ∧ R (.ok (.ret (.bool (!(List.range xs.size).all e)))) s) := by
  intro A R s hyp
  obtain ⟨hp, g, d, tk, os⟩ := s
  obtain ⟨a1, a2, a3, a4⟩ := hyp
  have f3 := AutoSeq1.sub_list_list
  have hne : ¬ (xs.size != ys.size) = true := by simp [hsz]
  wp_walk using wpAny_loadPart' a1, wpAny_loadPart' a2
  refine ⟨plainId_quiet plain_eq_loop _, codeAny_builtin entry_eq_loop ?_⟩
  rw [Around.under_plainId plain_eq_loop _]
  exact fm_ne_loop p q xs ys n m d1 d2 s1 s2 hsz e _ 0 rfl A R _ ⟨a1, a2, a3, by simpa using a4⟩
theorem fm_rcNe_lists {A : Around} {s : Shared} {p q : Addr} {xs ys : Array Value} {e : Nat → Bool} (hp : s.heap.IsList p xs) (hq : s.heap.IsList q ys) (hsz : xs.size = ys.size) (hu : A.units < cLine)
    (he : ∀ j (h1 : j < xs.size) (h2 : j < ys.size), EqP prog w A.in1 s xs[j] ys[j] (e j)) (E Q : Value → Shared → Prop) (h : Q (.bool (!(List.range xs.size).all e)) s) : wpAny (model prog w) A (richCompare .NotEq (.ref p) (.ref q)) Q E s := by
  obtain ⟨⟨c1, d1, t1, s1⟩, o1, k1, n, m1⟩ := id hp
  obtain ⟨⟨c2, d2, t2, s2⟩, o2, k2, m, m2⟩ := id hq
  dsimp only at k1 k2 m1 m2
  subst k1 k2 m1 m2
  have ta : s.TypeIs (.ref p) "list" := ⟨_, o1, rfl⟩
  have tb : s.TypeIs (.ref q) "list" := ⟨_, o2, rfl⟩
  refine wpAny_richCompare_same_room (op := .NotEq) ta tb F.slot_list_ne (call_meetsIn F.slot_list_ne ta F.entry_list_ne (F.args_list_ne_2 _ _) (fm_list_ne p q xs ys n m d1 d2 s1 s2 hsz e) ?_) hu
  exact ⟨o1, o2, he, (fun z => nomatch z : Value.bool (!(List.range xs.size).all e) ≠ Value.notImplemented), h⟩
end
end PySem.SeqAt
namespace Fm
open PySem L2
section
variable {X : Cx} {pins : List (Addr × Obj)} {σ : St} {H S : Hp} {s : Shared}
/-- two lists of one length that can be compared: their items, and how each pair compares -/
theorem lst_pairs (I : Inv X pins σ H s) (l : Lk S H) {n : Nat} {A : Around} (hu : A.units + n < cLine) {xs ys : List F} {a c : Addr} {vs ws : List V} (h1 : H a = some (.lst vs)) (h2 : Reps X.K S xs vs) (h3 : H c = some (.lst ws)) (h4 : Reps X.K S ys ws) (hl : xs.length = ys.length) {b : Bool} (h : allO (List.zipWith (eqN n) xs ys) = some b) :
    ∃ (its its2 : Array Value) (bs : List Bool), s.heap.IsList a its ∧ s.heap.IsList c its2 ∧ its.size = its2.size ∧ bs.length = its.size ∧ b = bs.all id ∧ ∀ j (j1 : j < its.size) (j2 : j < its2.size), SeqAt.EqP X.prog X.w A s its[j] its2[j] ((bs[j]?).getD false) := by
  obtain ⟨its, r1, p1, _⟩ := I.list (SqL.of h1)
  obtain ⟨its2, r2, p2, _⟩ := I.list (SqL.of h3)
  have n1 : xs.length = its.length := h2.length.trans r1.length
  have n2 : ys.length = its2.length := h4.length.trans r2.length
  obtain ⟨bs, e1, rfl⟩ := allO_some h
  have hbl : bs.length = its.toArray.size := by
    have := congrArg List.length e1
    simp at this
    simp; omega
  refine ⟨its.toArray, its2.toArray, bs, p1.isList, p2.isList, by simp; omega, hbl, rfl, fun j j1 j2 => ?_⟩
  have hj1 : j < its.length := by simpa using j1
  have hj2 : j < its2.length := by simpa using j2
  obtain ⟨x1, ex⟩ : ∃ z, xs[j]? = some z := ⟨_, List.getElem?_eq_getElem (by omega)⟩
  obtain ⟨y1, ey⟩ : ∃ z, ys[j]? = some z := ⟨_, List.getElem?_eq_getElem (by omega)⟩
  obtain ⟨v1, k1, t1⟩ := h2.get ex
  obtain ⟨u1, k2, t2⟩ := h4.get ey
  obtain ⟨w1, m1, g1⟩ := Vals.get r1 k1
  obtain ⟨w2, m2, g2⟩ := Vals.get r2 k2
  have z := zip_at (f := eqN n) ex ey
  rw [e1, List.getElem?_map] at z
  cases eb : bs[j]? with
  | none => rw [eb] at z; cases z
  | some bj =>
    rw [eb] at z
    have ez : eqN n x1 y1 = some bj := (Option.some.inj z).symm
    have i1 : its.toArray[j] = w1 := by
      simp
      obtain ⟨_, z⟩ := List.getElem?_eq_some_iff.mp m1
      exact z
    have i2 : its2.toArray[j] = w2 := by
      simp
      obtain ⟨_, z⟩ := List.getElem?_eq_some_iff.mp m2
      exact z
    rw [i1, i2]
    exact eq_run I l n A hu x1 y1 v1 u1 w1 w2 bj t1 t2 g1 g2 ez
theorem tup_pairs (I : Inv X pins σ H s) (l : Lk S H) {A : Around} {xs ys : List F} {a c : Addr} {vs ws : List V} (h1 : H a = some (.tup vs)) (h2 : Reps X.K S xs vs) (h3 : H c = some (.tup ws)) (h4 : Reps X.K S ys ws) (fx : xs.all flatF = true) (fy : ys.all flatF = true) :
    ∃ (its its2 : Array Value), s.heap.IsTuple a its ∧ s.heap.IsTuple c its2 ∧ (List.zipWith eqFl xs ys).length = min its.size its2.size ∧ ((List.zipWith eqFl xs ys).all id && its.size == its2.size) = (decide (xs.length = ys.length) && (List.zipWith eqFl xs ys).all id) ∧
      ∀ j (j1 : j < its.size) (j2 : j < its2.size), SeqAt.EqAt A s its[j] its2[j] (((List.zipWith eqFl xs ys)[j]?).getD false) := by
  obtain ⟨its, r1, p1, _⟩ := I.tuple (SqT.of h1)
  obtain ⟨its2, r2, p2, _⟩ := I.tuple (SqT.of h3)
  have n1 : xs.length = its.length := h2.length.trans r1.length
  have n2 : ys.length = its2.length := h4.length.trans r2.length
  refine ⟨its.toArray, its2.toArray, p1, p2, by simp; omega, ?_, fun j j1 j2 => ?_⟩
  · rw [Bool.and_comm]
    congr 1
    rw [Bool.eq_iff_iff]; simp; omega
  have hj1 : j < its.length := by simpa using j1
  have hj2 : j < its2.length := by simpa using j2
  obtain ⟨x1, ex⟩ : ∃ z, xs[j]? = some z := ⟨_, List.getElem?_eq_getElem (by omega)⟩
  obtain ⟨y1, ey⟩ : ∃ z, ys[j]? = some z := ⟨_, List.getElem?_eq_getElem (by omega)⟩
  obtain ⟨v1, k1, t1⟩ := h2.get ex
  obtain ⟨u1, k2, t2⟩ := h4.get ey
  obtain ⟨w1, m1, g1⟩ := Vals.get r1 k1
  obtain ⟨w2, m2, g2⟩ := Vals.get r2 k2
  have i1 : its.toArray[j] = w1 := by
    simp
    obtain ⟨_, z⟩ := List.getElem?_eq_some_iff.mp m1
    exact z
  have i2 : its2.toArray[j] = w2 := by
    simp
    obtain ⟨_, z⟩ := List.getElem?_eq_some_iff.mp m2
    exact z
  rw [i1, i2, zip_at ex ey]
  have f1 := List.all_eq_true.mp fx _ (List.mem_of_getElem? ex)
  have f2 := List.all_eq_true.mp fy _ (List.mem_of_getElem? ey)
  have p1 := rep_flat (H := H) t1 f1
  have q1 := rep_flat (H := H) t2 f2
  show SeqAt.EqAt A s w1 w2 (eqFl x1 y1)
  rw [eqFl_V p1 q1 f1 f2]
  exact eqAt_V g1 g2 (flatV_of p1 f1).1 (flatV_of q1 f2).1
/-- flat values that are no texts, as the library's data -/
def datF : F → PyData
  | .bl b => .bool b
  | .int i => .int i
  | _ => .none
theorem datF_dp {K : PySem.W.Frag} {x : F} {v : V} (p : RepP K S H x v) (f : flatF x = true) (hs : ∀ a, x ≠ .str a) : Dp K H v (datF x) ∧ SeqAt.shaped (datF x) = true := by
  cases x with
  | non => have p : v = .non := p; subst p; exact ⟨.non, by decide⟩
  | bl b => have p : v = .bl b := p; subst p; exact ⟨.bl b, by cases b <;> decide⟩
  | int i => have p : v = .int i := p; subst p; exact ⟨.int i, rfl⟩
  | str a => exact absurd rfl (hs a)
  | _ => exact absurd f Bool.false_ne_true
theorem datF_eqv {x y : F} (fx : flatF x = true) (fy : flatF y = true) (hx : ∀ a, x ≠ .str a) (hy : ∀ a, y ≠ .str a) : PyData.eqv (datF x) (datF y) = eqFl x y := by
  cases x with
  | lst _ => exact absurd fx Bool.false_ne_true
  | tup _ => exact absurd fx Bool.false_ne_true
  | dct _ => exact absurd fx Bool.false_ne_true
  | scr _ => exact absurd fx Bool.false_ne_true
  | str a => exact absurd rfl (hx a)
  | _ =>
    cases y with
    | lst _ => exact absurd fy Bool.false_ne_true
    | tup _ => exact absurd fy Bool.false_ne_true
    | dct _ => exact absurd fy Bool.false_ne_true
    | scr _ => exact absurd fy Bool.false_ne_true
    | str a => exact absurd rfl (hy a)
    | _ => simp [datF, PyData.eqv]
end
/-- == by data: what is to be shown of the machine for each shape; neg: != -/
theorem eqT_cases {x y : F} {b : Bool} (h : eqT x y = some b) : (∃ a c, x = .str a ∧ y = .str c ∧ b = (a == c)) ∨ ((∀ a, x ≠ .str a) ∧ (∀ a, y ≠ .str a) ∧ eqN 6 x y = some b) := by
  unfold eqT at h
  split at h
  · rename_i a c; cases h; exact .inl ⟨a, c, rfl, rfl, rfl⟩
  · cases h
  · cases h
  · rename_i h1 h2 h3
    refine .inr ⟨fun a z => ?_, fun a z => ?_, h⟩
    · subst z; first | exact absurd rfl (h2 a) | exact absurd rfl (h1 a) | exact absurd rfl (h3 a)
    · subst z; first | exact absurd rfl (h2 a) | exact absurd rfl (h1 a) | exact absurd rfl (h3 a)
section
variable {X : Cx}
theorem od_eq (hu : X.A.units + 64 < cLine) : OpR X (compareOp .Eq) (rD2 X.K eqF) := OpR.ofD fun S x y pins s σ H v u vv uu Q I rv ru l p q t => by
  simp only [eqF] at t
  cases e : eqT x y with
  | none => rw [e] at t; exact t.elim
  | some b =>
    rw [e] at t
    have fin : EP X pins σ Q (.bool b) s := ⟨.bl b, H, I, rfl, t _ rep_bl⟩
    rcases eqT_cases e with ⟨a, c, rfl, rfl, rfl⟩ | ⟨hx, hy, h⟩
    · have p : v = .str a := p
      have q : u = .str c := q
      subst p q
      exact op_eq pins s σ H _ _ vv uu Q I rv ru ⟨rfl, by rw [dec_str]; exact t _ rep_bl⟩
    · have flatc : flatF x = true → wpAny (model X.prog X.w) X.A (compareOp .Eq vv uu) (EP X pins σ Q) X.xe s := fun fx => by
        obtain ⟨fy, rfl⟩ := eqN_flat fx h
        obtain ⟨d1, s1⟩ := datF_dp p fx hx
        obtain ⟨d2, s2⟩ := datF_dp q fy hy
        exact op_eqD hu pins s σ H _ _ vv uu Q I rv ru ⟨_, _, d1, d2, s1, s2, by rw [datF_eqv fx fy hx hy]; exact t _ rep_bl⟩
      cases x with
      | non => exact flatc rfl
      | bl _ => exact flatc rfl
      | int _ => exact flatc rfl
      | str _ => exact flatc rfl
      | scr ns => cases y <;> simp [eqN] at h
      | lst xs =>
        cases y with
        | lst ys =>
          obtain ⟨a, vs, rfl, h1, h2⟩ := p
          obtain ⟨c, ws, rfl, h3, h4⟩ := q
          cases (show vv = Value.ref a from rv)
          cases (show uu = Value.ref c from ru)
          simp only [eqN] at h
          split at h
          · rename_i hl
            obtain ⟨its, its2, bs, q1, q2, q3, q4, rfl, q5⟩ := lst_pairs (A := X.A.in1) I l (by show X.A.units + 1 + 5 < cLine; omega) h1 h2 h3 h4 hl h
            exact SeqAt.rcP_lists (e := fun j => (bs[j]?).getD false) q1 q2 q3 (by omega) q5 _ _ (by rw [range_all q4]; exact fin)
          · rename_i hl
            cases h
            obtain ⟨its, r1, p1, _⟩ := I.list (SqL.of h1)
            obtain ⟨its2, r2, p2, _⟩ := I.list (SqL.of h3)
            exact SeqAt.RcAt.lists_lengths p1.isList p2.isList (by have := h2.length; have := h4.length; have := r1.length; have := r2.length; simp; omega) (by omega) X.prog X.w _ _ fin
        | _ => simp [eqN] at h
      | tup xs =>
        cases y with
        | tup ys =>
          obtain ⟨a, vs, rfl, h1, h2⟩ := p
          obtain ⟨c, ws, rfl, h3, h4⟩ := q
          cases (show vv = Value.ref a from rv)
          cases (show uu = Value.ref c from ru)
          simp only [eqN] at h
          split at h
          · rename_i hf
            simp only [Bool.and_eq_true] at hf
            cases h
            obtain ⟨its, its2, q1, q2, q3, q4, q5⟩ := tup_pairs (A := X.A.in1) I l h1 h2 h3 h4 hf.1 hf.2
            exact SeqAt.RcAt.tuples (e := fun j => ((List.zipWith eqFl xs ys)[j]?).getD false) q1 q2 (by omega) q5 X.prog X.w _ _ (by rw [range_all q3, q4]; exact fin)
          · cases h
        | _ => simp [eqN] at h
      | dct ks =>
        cases y with
        | dct ls =>
          obtain ⟨a, vs, rfl, h1, h2⟩ := p
          obtain ⟨c, ws, rfl, h3, h4⟩ := q
          cases (show vv = Value.ref a from rv)
          cases (show uu = Value.ref c from ru)
          simp only [eqN] at h
          split at h
          · rename_i hf
            simp only [Bool.and_eq_true] at hf
            cases h
            obtain ⟨ka, kb, m1, m2, da, dc, l1, l2, hits⟩ := dct_run (A := X.A.in1) I h1 h3 h2 h4 hf.1 hf.2
            refine PySem.W.keq_eq m1 m2 da dc (by omega) (fun _ => hits) ?_
            rw [l1, l2]
            have : (ks.length == ls.length) = decide (ks.length = ls.length) := by rw [Bool.eq_iff_iff]; simp
            rw [this]; exact fin
          · cases h
        | _ => simp [eqN] at h
theorem od_ne (hu : X.A.units + 64 < cLine) : OpR X (compareOp .NotEq) (rD2 X.K neF) := OpR.ofD fun S x y pins s σ H v u vv uu Q I rv ru l p q t => by
  simp only [neF] at t
  cases e : eqT x y with
  | none => rw [e] at t; exact t.elim
  | some b =>
    rw [e] at t
    have fin : EP X pins σ Q (.bool (!b)) s := ⟨.bl (!b), H, I, rfl, t _ rep_bl⟩
    rcases eqT_cases e with ⟨a, c, rfl, rfl, rfl⟩ | ⟨hx, hy, h⟩
    · have p : v = .str a := p
      have q : u = .str c := q
      subst p q
      exact op_ne pins s σ H _ _ vv uu Q I rv ru ⟨rfl, by rw [dec_str]; exact t _ rep_bl⟩
    · have flatc : flatF x = true → wpAny (model X.prog X.w) X.A (compareOp .NotEq vv uu) (EP X pins σ Q) X.xe s := fun fx => by
        obtain ⟨fy, rfl⟩ := eqN_flat fx h
        obtain ⟨d1, s1⟩ := datF_dp p fx hx
        obtain ⟨d2, s2⟩ := datF_dp q fy hy
        exact op_neD hu pins s σ H _ _ vv uu Q I rv ru ⟨_, _, d1, d2, s1, s2, by rw [datF_eqv fx fy hx hy]; exact t _ rep_bl⟩
      cases x with
      | non => exact flatc rfl
      | bl _ => exact flatc rfl
      | int _ => exact flatc rfl
      | str _ => exact flatc rfl
      | scr ns => cases y <;> simp [eqN] at h
      | lst xs =>
        cases y with
        | lst ys =>
          obtain ⟨a, vs, rfl, h1, h2⟩ := p
          obtain ⟨c, ws, rfl, h3, h4⟩ := q
          cases (show vv = Value.ref a from rv)
          cases (show uu = Value.ref c from ru)
          simp only [eqN] at h
          split at h
          · rename_i hl
            obtain ⟨its, its2, bs, q1, q2, q3, q4, rfl, q5⟩ := lst_pairs (A := X.A.in1) I l (by show X.A.units + 1 + 5 < cLine; omega) h1 h2 h3 h4 hl h
            exact SeqAt.fm_rcNe_lists (e := fun j => (bs[j]?).getD false) q1 q2 q3 (by omega) q5 _ _ (by rw [range_all q4]; exact fin)
          · rename_i hl
            cases h
            obtain ⟨its, r1, p1, _⟩ := I.list (SqL.of h1)
            obtain ⟨its2, r2, p2, _⟩ := I.list (SqL.of h3)
            exact SeqAt.RcNeAt.lists_lengths p1.isList p2.isList (by have := h2.length; have := h4.length; have := r1.length; have := r2.length; simp; omega) (by omega) X.prog X.w _ _ fin
        | _ => simp [eqN] at h
      | tup xs =>
        cases y with
        | tup ys =>
          obtain ⟨a, vs, rfl, h1, h2⟩ := p
          obtain ⟨c, ws, rfl, h3, h4⟩ := q
          cases (show vv = Value.ref a from rv)
          cases (show uu = Value.ref c from ru)
          simp only [eqN] at h
          split at h
          · rename_i hf
            simp only [Bool.and_eq_true] at hf
            cases h
            obtain ⟨its, its2, q1, q2, q3, q4, q5⟩ := tup_pairs (A := X.A.in1) I l h1 h2 h3 h4 hf.1 hf.2
            exact SeqAt.RcNeAt.tuples (e := fun j => ((List.zipWith eqFl xs ys)[j]?).getD false) q1 q2 (by omega) q5 X.prog X.w _ _ (by rw [range_all q3, q4]; exact fin)
          · cases h
        | _ => simp [eqN] at h
      | dct ks =>
        cases y with
        | dct ls =>
          obtain ⟨a, vs, rfl, h1, h2⟩ := p
          obtain ⟨c, ws, rfl, h3, h4⟩ := q
          cases (show vv = Value.ref a from rv)
          cases (show uu = Value.ref c from ru)
          simp only [eqN] at h
          split at h
          · rename_i hf
            simp only [Bool.and_eq_true] at hf
            cases h
            obtain ⟨ka, kb, m1, m2, da, dc, l1, l2, hits⟩ := dct_run (A := X.A.in1) I h1 h3 h2 h4 hf.1 hf.2
            refine PySem.W.keq_ne m1 m2 da dc (by omega) (fun _ => hits) ?_
            rw [l1, l2]
            have : (ks.length == ls.length) = decide (ks.length = ls.length) := by rw [Bool.eq_iff_iff]; simp
            rw [this]; exact fin
          · cases h
        | _ => simp [eqN] at h
end
end Fm

/-! FJ: in, items, slices, built-ins. -/
namespace Fm
open PySem L2

@[simp] def inF : F → F → Op
  | x, .lst xs => if flatF x && xs.all flatF then .val (.bl (xs.any fun y => eqFl y x)) else .bad
  | x, .tup xs => if flatF x && xs.all flatF then .val (.bl (xs.any fun y => eqFl y x)) else .bad
  | .str c, .str z => match c.cps.toList with
    | [n] => .val (.bl (decide (n ∈ z.cps.toList)))
    | _ => .bad
  | _, _ => .bad
@[simp] def ninF : F → F → Op
  | x, .lst xs => if flatF x && xs.all flatF then .val (.bl (!xs.any fun y => eqFl y x)) else .bad
  | x, .tup xs => if flatF x && xs.all flatF then .val (.bl (!xs.any fun y => eqFl y x)) else .bad
  | .str c, .str z => match c.cps.toList with
    | [n] => .val (.bl (!decide (n ∈ z.cps.toList)))
    | _ => .bad
  | _, _ => .bad
@[simp] def ixF : F → F → Op
  | .lst xs, .int i => match atI xs i with
    | some x => .val x
    | none => .bad
  | .tup xs, .int i => match atI xs i with
    | some x => .val x
    | none => .bad
  | .scr ns, .int i => match atI ns i with
    | some n => .val (.int n)
    | none => .bad
  | .str z, .int i => if z.length ≤ sizeLine then (match atI z.cps.toList i with
    | some c => .val (.str ⟨#[c]⟩)
    | none => .bad) else .bad
  | _, _ => .bad
def cutF {α : Type} (xs : List α) (lo hi : Option Int) : List α := (xs.drop (HT.sIx xs.length 0 lo)).take (HT.sIx xs.length xs.length hi - HT.sIx xs.length 0 lo)
@[simp] def slF : F → Option Int → Option Int → Op
  | .lst xs, i, j => .new (.lst (cutF xs i j))
  | .scr ns, i, j => .new (.lst (cutF (ns.map F.int) i j))
  | .tup xs, i, j => if HT.sIx xs.length 0 i = 0 ∧ HT.sIx xs.length xs.length j = xs.length then .bad else .ntup (cutF xs i j)
  | .str z, i, j => if z.length ≤ sizeLine then .val (.str (cutS z i j)) else .bad
  | _, _, _ => .bad
@[simp] def lenF : List F → Op
  | [.lst xs] => .val (.int xs.length)
  | [.tup xs] => .val (.int xs.length)
  | [.scr ns] => .val (.int ns.length)
  | [.dct kvs] => .val (.int kvs.length)
  | [.str z] => if z.length ≤ sizeLine then .val (.int z.length) else .bad
  | _ => .bad
@[simp] def intF : List F → Op
  | [.int i] => .val (.int i)
  | [.bl b] => .val (.int (if b then 1 else 0))
  | _ => .bad
@[simp] def absF : List F → Op
  | [.int i] => .val (.int (if i < 0 then -i else i))
  | _ => .bad
@[simp] def minF : List F → Op
  | [.int i, .int j] => .val (.int (if j < i then j else i))
  | _ => .bad
@[simp] def strF : List F → Op
  | [.int i] => if i.natAbs.log2 < 1920 then .val (.str (toString i)) else .bad
  | _ => .bad
def kF : Key → F
  | .inl i => .int i
  | .inr x => .str x
@[simp] def listF : List F → Op
  | [.lst xs] => .new (.lst xs)
  | [.tup xs] => .new (.lst xs)
  | [.dct kvs] => .new (.lst (kvs.map fun p => kF p.1))
  | _ => .bad
@[simp] def tupF : List F → Op
  | [.lst xs] => .ntup xs
  | _ => .bad
/-- a list of pairs, as a dict's -/
def pairsF : List F → Option (List (Key × F))
  | [] => some []
  | .tup [.str k, v] :: r => match pairsF r with
    | some kvs => some ((.inr k, v) :: kvs)
    | none => none
  | .tup [.int k, v] :: r => match pairsF r with
    | some kvs => some ((.inl k, v) :: kvs)
    | none => none
  | _ :: _ => none
@[simp] def dictF : List F → Op
  | [.dct kvs] => .new (.dct kvs)
  | [.lst xs] => match pairsF xs with
    | some kvs => .new (.dct (mK [] kvs))
    | none => .bad
  | _ => .bad
def strsF : List F → Option (List Str)
  | [] => some []
  | .str x :: r => match strsF r with
    | some xs => some (x :: xs)
    | none => none
  | _ :: _ => none
@[simp] def joinF : List F → Op
  | [.str a, .lst xs] => match strsF xs with
    | some ys => if (ys.map (·.length)).sum + ys.length * a.length ≤ 16777216 then .val (.str (Txt.join a ys)) else .bad
    | none => .bad
  | _ => .bad
def findF (y : F) : List F → Option Nat
  | [] => none
  | x :: xs => if eqFl x y then some 0 else (findF y xs).map (· + 1)
@[simp] def indexF : List F → Op
  | [.lst xs, y] => if flatF y && xs.all flatF then (match findF y xs with
    | some j => .val (.int (j : Nat))
    | none => .bad) else .bad
  | _ => .bad

theorem Reps.flat {K : PySem.W.Frag} {S H : Hp} : ∀ {xs : List F} {vs : List V}, Reps K S xs vs → xs.all flatF = true → vs.all flatV = true
  | [], _, h, _ => by simp only [Reps] at h; subst h; rfl
  | x :: xs, _, h, f => by
    simp only [Reps] at h
    obtain ⟨v, r, rfl, q, t⟩ := h
    rw [List.all_cons] at f ⊢
    simp only [Bool.and_eq_true] at f
    rw [(flatV_of (rep_flat (H := S) q f.1) f.1).1, Bool.true_and]
    exact Reps.flat (H := H) t f.2
theorem Reps.anyEq {K : PySem.W.Frag} {S : Hp} {y : F} {u : V} (hy : RepP K S S y u) (fy : flatF y = true) : ∀ {xs : List F} {vs : List V}, Reps K S xs vs → xs.all flatF = true → (vs.any fun z => eqV z u) = xs.any fun z => eqFl z y
  | [], _, h, _ => by simp only [Reps] at h; subst h; rfl
  | x :: xs, _, h, f => by
    simp only [Reps] at h
    obtain ⟨v, r, rfl, q, t⟩ := h
    rw [List.all_cons] at f
    simp only [Bool.and_eq_true] at f
    rw [List.any_cons, List.any_cons, eqFl_V (rep_flat (H := S) q f.1) hy f.1 fy, Reps.anyEq hy fy t f.2]
theorem Reps.atI {K : PySem.W.Frag} {S : Hp} {xs : List F} {vs : List V} {i : Int} {x : F} (h : Reps K S xs vs) (e : L2.atI xs i = some x) : ∃ v, L2.atI vs i = some v ∧ Rep K S x v := by
  unfold L2.atI at e ⊢
  rw [← h.length]
  cases q : ixN xs.length i with
  | none => rw [q] at e; cases e
  | some j => rw [q] at e; exact h.get e
theorem Reps.cut {K : PySem.W.Frag} {S : Hp} {xs : List F} {vs : List V} (h : Reps K S xs vs) (lo hi : Option Int) : Reps K S (cutF xs lo hi) (cutV vs lo hi) := by
  unfold cutF cutV
  rw [← h.length]
  exact (h.drop _).take _
theorem Reps.ints {K : PySem.W.Frag} {S : Hp} : ∀ ns : List Int, Reps K S (ns.map F.int) (ns.map V.int)
  | [] => .nil
  | n :: ns => .cons rep_int (Reps.ints ns)
theorem Reps.keys {K : PySem.W.Frag} {S : Hp} : ∀ (kvs : List (Key × V)), Reps K S (kvs.map fun p => kF p.1) (kvs.map fun p => kV p.1)
  | [] => .nil
  | (k, _) :: r => .cons (by cases k <;> simp only [kF, kV, Rep]) (Reps.keys r)
section
variable {X : Cx}
theorem sign_of {c : Str} {n : Nat} (h : c.cps.toList = [n]) : c = ⟨#[n]⟩ := by
  obtain ⟨a⟩ := c
  simp at h
  obtain ⟨l⟩ := a
  simp at h
  rw [h]
theorem od_in : OpR X (compareOp .In) (rD2 X.K inF) := OpR.ofD fun S x y pins s σ H v u vv uu Q I rv ru l p q t => by
  cases y with
  | lst xs =>
    simp only [inF] at t
    split at t
    · rename_i hf
      simp only [Bool.and_eq_true] at hf
      obtain ⟨d, vs, rfl, hd, hr⟩ := q
      have fx := flatV_of p hf.1
      exact op_in_seq pins s σ H _ _ vv uu Q I rv ru ⟨d, vs, rfl, .inl (.of hd), fx.1, hr.flat (H := H) hf.2, by
        have := hr.anyEq (rep_flat (H := S) fx.2 hf.1) hf.1 hf.2
        show Q (.bl (inV v vs)) H
        unfold inV
        rw [this]; exact t _ rep_bl⟩
    · exact t.elim
  | tup xs =>
    simp only [inF] at t
    split at t
    · rename_i hf
      simp only [Bool.and_eq_true] at hf
      obtain ⟨d, vs, rfl, hd, hr⟩ := q
      have fx := flatV_of p hf.1
      exact op_in_seq pins s σ H _ _ vv uu Q I rv ru ⟨d, vs, rfl, .inr (.of hd), fx.1, hr.flat (H := H) hf.2, by
        have := hr.anyEq (rep_flat (H := S) fx.2 hf.1) hf.1 hf.2
        show Q (.bl (inV v vs)) H
        unfold inV
        rw [this]; exact t _ rep_bl⟩
    · exact t.elim
  | str z =>
    cases x <;> simp only [inF] at t <;> try exact t.elim
    rename_i c
    split at t
    · rename_i n e
      have p : v = .str c := p
      have q : u = .str z := q
      subst p q
      exact op_in_sign pins s σ H _ _ vv uu Q I rv ru ⟨n, z, by rw [sign_of e], rfl, t _ rep_bl⟩
    · exact t.elim
  | _ => cases x <;> exact t.elim
theorem od_nin : OpR X (compareOp .NotIn) (rD2 X.K ninF) := OpR.ofD fun S x y pins s σ H v u vv uu Q I rv ru l p q t => by
  cases y with
  | lst xs =>
    simp only [ninF] at t
    split at t
    · rename_i hf
      simp only [Bool.and_eq_true] at hf
      obtain ⟨d, vs, rfl, hd, hr⟩ := q
      have fx := flatV_of p hf.1
      exact op_notIn_seq pins s σ H _ _ vv uu Q I rv ru ⟨d, vs, rfl, .inl (.of hd), fx.1, hr.flat (H := H) hf.2, by
        have := hr.anyEq (rep_flat (H := S) fx.2 hf.1) hf.1 hf.2
        show Q (.bl (!inV v vs)) H
        unfold inV
        rw [this]; exact t _ rep_bl⟩
    · exact t.elim
  | tup xs =>
    simp only [ninF] at t
    split at t
    · rename_i hf
      simp only [Bool.and_eq_true] at hf
      obtain ⟨d, vs, rfl, hd, hr⟩ := q
      have fx := flatV_of p hf.1
      exact op_notIn_seq pins s σ H _ _ vv uu Q I rv ru ⟨d, vs, rfl, .inr (.of hd), fx.1, hr.flat (H := H) hf.2, by
        have := hr.anyEq (rep_flat (H := S) fx.2 hf.1) hf.1 hf.2
        show Q (.bl (!inV v vs)) H
        unfold inV
        rw [this]; exact t _ rep_bl⟩
    · exact t.elim
  | str z =>
    cases x <;> simp only [ninF] at t <;> try exact t.elim
    rename_i c
    split at t
    · rename_i n e
      have p : v = .str c := p
      have q : u = .str z := q
      subst p q
      exact op_notIn_sign pins s σ H _ _ vv uu Q I rv ru ⟨n, z, by rw [sign_of e], rfl, t _ rep_bl⟩
    · exact t.elim
  | _ => cases x <;> exact t.elim
theorem od_ix : IxR X (rD2 X.K ixF) := fun value slice pins s σ H x y v u Q I rx ry ⟨S, a, b, l, p, q, t⟩ hs => by
  refine ix_seq value slice pins s σ H x y v u Q I rx ry ?_ hs
  cases a <;> cases b <;> try exact t.elim
  · rename_i z i
    simp only [ixF] at t
    split at t
    · rename_i hl
      split at t
      · rename_i c e
        exact .inr (.inr ⟨z, i, c, p, q, hl, e, t _ rep_str⟩)
      · exact t.elim
    · exact t.elim
  · rename_i xs i
    simp only [ixF] at t
    split at t
    · rename_i w e
      obtain ⟨d, vs, rfl, hd, hr⟩ := p
      obtain ⟨v1, e1, r1⟩ := hr.atI e
      exact .inl ⟨d, vs, i, v1, rfl, q, .of hd, e1, t _ r1⟩
    · exact t.elim
  · rename_i xs i
    simp only [ixF] at t
    split at t
    · rename_i w e
      obtain ⟨d, vs, rfl, hd, hr⟩ := p
      obtain ⟨v1, e1, r1⟩ := hr.atI e
      exact .inr (.inl ⟨d, vs, i, v1, rfl, q, .of hd, e1, t _ r1⟩)
    · exact t.elim
  · rename_i ns i
    simp only [ixF] at t
    split at t
    · rename_i n e
      obtain ⟨d, rfl, hd⟩ := p
      refine .inl ⟨d, _, i, .int n, rfl, q, hd, ?_, t _ rep_int⟩
      unfold L2.atI at e ⊢
      rw [List.length_map]
      cases e1 : ixN ns.length i with
      | none => rw [e1] at e; cases e
      | some j =>
        rw [e1] at e
        have e : ns[j]? = some n := e
        show (ns.map V.int)[j]? = _
        rw [List.getElem?_map, e]; rfl
    · exact t.elim
def rSlD (K : PySem.W.Frag) : V → Option Int → Option Int → Hp → VK → Prop := fun x lo hi H Q => rSlL K x lo hi H Q ∨ rSlT K x lo hi H Q ∨ rSlS x lo hi H Q
theorem sl_any : SlR X (rSlD X.K) := sl_list.or (sl_tup.or sl_str)
theorem sl_go (K : PySem.W.Frag) (S : Hp) (a : F) (x : V) (i j : Option Int) (H : Hp) (Q : VK) (l : Lk S H) (p : RepP K S H a x) (t : Post K S H Q (slF a i j)) : rSlD K x i j H Q := by
  cases a <;> try exact t.elim
  · rename_i z
    simp only [slF] at t
    split at t
    · rename_i hl; exact .inr (.inr ⟨z, p, hl, t _ rep_str⟩)
    · exact t.elim
  · obtain ⟨d, vs, rfl, hd, hr⟩ := p
    exact .inl ⟨d, vs, rfl, .of hd, fun p hp => t p _ hp (hr.cut i j)⟩
  · obtain ⟨d, vs, rfl, hd, hr⟩ := p
    simp only [slF] at t
    split at t
    · exact t.elim
    · rename_i hl
      exact .inr (.inl ⟨d, vs, rfl, .of hd, by rw [← hr.length]; exact hl, fun p hp => t p _ hp (hr.cut i j)⟩)
  · rename_i ns
    obtain ⟨d, rfl, hd⟩ := p
    exact .inl ⟨d, _, rfl, hd, fun p hp => t p _ hp ((Reps.ints ns).cut i j)⟩
theorem CallR.ofD {f : Value} {g : List F → Op} (h : ∀ S xs, ∀ (pins : List (Addr × Obj)) (s : Shared) (σ : St) (H : Hp) (vs : List V) (us : List Value) (Q : VK), Inv X pins σ H s → Vals vs us → Lk S H → RepPs X.K S H xs vs → Post X.K S H Q (g xs) →
    wpAny (model X.prog X.w) X.A (call f us) (EP X pins σ Q) X.xe s) : CallR X f (rDn X.K g) := fun pins s σ H vs us Q I r ⟨S, xs, l, p, t⟩ => h S xs pins s σ H vs us Q I r l p t
theorem ps1 {K : PySem.W.Frag} {S H : Hp} {x : F} {vs : List V} (h : RepPs K S H [x] vs) : ∃ v, vs = [v] ∧ RepP K S H x v := by
  cases h with
  | cons h t => cases t; exact ⟨_, rfl, h⟩
theorem ps2 {K : PySem.W.Frag} {S H : Hp} {x y : F} {vs : List V} (h : RepPs K S H [x, y] vs) : ∃ v u, vs = [v, u] ∧ RepP K S H x v ∧ RepP K S H y u := by
  cases h with
  | cons h t =>
    obtain ⟨u, rfl, q⟩ := ps1 t
    exact ⟨_, u, rfl, h, q⟩
theorem cd_len : CallR X (.builtin "len") (rDn X.K lenF) := CallR.ofD fun S xs pins s σ H vs us Q I r l p t => by
  unfold lenF at t
  split at t
  · obtain ⟨v, rfl, d, ws, rfl, hd, hr⟩ := ps1 p
    exact call_len pins s σ H _ us Q I r ⟨_, _, rfl, .inl ⟨ws, .of hd, rfl⟩, by rw [← hr.length]; exact t _ rep_int⟩
  · obtain ⟨v, rfl, d, ws, rfl, hd, hr⟩ := ps1 p
    exact call_len pins s σ H _ us Q I r ⟨_, _, rfl, .inr ⟨ws, .of hd, rfl⟩, by rw [← hr.length]; exact t _ rep_int⟩
  · obtain ⟨v, rfl, d, rfl, hd⟩ := ps1 p
    exact call_len pins s σ H _ us Q I r ⟨_, _, rfl, .inl ⟨_, hd, rfl⟩, by rw [List.length_map]; exact t _ rep_int⟩
  · obtain ⟨v, rfl, d, ws, rfl, hd, hr⟩ := ps1 p
    obtain ⟨u, rfl, ru⟩ := vals1 r
    cases ru
    exact d_len I hd fun tk s' I' => ⟨.int ws.length, H, I', ⟨tk, rfl⟩, by rw [← hr.length]; exact t _ rep_int⟩
  · obtain ⟨v, rfl, e⟩ := ps1 p
    have e : v = .str _ := e
    subst e
    split at t
    · rename_i hl; exact call_len pins s σ H _ us Q I r ⟨_, _, rfl, ⟨hl, rfl⟩, t _ rep_int⟩
    · exact t.elim
  · exact t.elim
theorem cd_int : CallR X (.type "int") (rDn X.K intF) := CallR.ofD fun S xs pins s σ H vs us Q I r l p t => by
  unfold intF at t
  split at t
  · rename_i i
    obtain ⟨v, rfl, e⟩ := ps1 p
    exact call_int1 pins s σ H _ us Q I r (.inl ⟨i, by rw [show v = .int i from e], t _ rep_int⟩)
  · rename_i b
    obtain ⟨v, rfl, e⟩ := ps1 p
    exact call_int1 pins s σ H _ us Q I r (.inr ⟨b, by rw [show v = .bl b from e], t _ rep_int⟩)
  · exact t.elim
theorem cd_abs : CallR X (.builtin "abs") (rDn X.K absF) := CallR.ofD fun S xs pins s σ H vs us Q I r l p t => by
  unfold absF at t
  split at t
  · rename_i i
    obtain ⟨v, rfl, e⟩ := ps1 p
    exact call_abs pins s σ H _ us Q I r ⟨i, by rw [show v = .int i from e], t _ rep_int⟩
  · exact t.elim
theorem cd_min (hc : X.calm = true) : CallR X (.builtin "min") (rDn X.K minF) := CallR.ofD fun S xs pins s σ H vs us Q I r l p t => by
  unfold minF at t
  split at t
  · rename_i i j
    obtain ⟨v, u, rfl, e, e2⟩ := ps2 p
    exact call_min2 hc pins s σ H _ us Q I r ⟨i, j, by rw [show v = .int i from e, show u = .int j from e2], t _ rep_int⟩
  · exact t.elim
theorem cd_str : CallR X (.type "str") (rDn X.K strF) := CallR.ofD fun S xs pins s σ H vs us Q I r l p t => by
  unfold strF at t
  split at t
  · rename_i i
    obtain ⟨v, rfl, e⟩ := ps1 p
    split at t
    · rename_i hl
      exact call_str_int pins s σ H _ us Q I r ⟨i, by rw [show v = .int i from e], hl, t _ rep_str⟩
    · exact t.elim
  · exact t.elim
theorem cd_list (hc : X.calm = true) : CallR X (.type "list") (rDn X.K listF) := CallR.ofD fun S xs pins s σ H vs us Q I r l p t => by
  unfold listF at t
  split at t
  · obtain ⟨v, rfl, d, ws, rfl, hd, hr⟩ := ps1 p
    exact call_list_of pins s σ H _ us Q I r ⟨d, ws, rfl, .inl (.of hd), fun p hp => t p ws hp hr⟩
  · obtain ⟨v, rfl, d, ws, rfl, hd, hr⟩ := ps1 p
    exact call_list_of pins s σ H _ us Q I r ⟨d, ws, rfl, .inr (.of hd), fun p hp => t p ws hp hr⟩
  · rename_i kvs
    obtain ⟨v, rfl, d, ws, rfl, hd, hr⟩ := ps1 p
    refine call_listD hc pins s σ H _ us Q I r ⟨d, ws, rfl, hd, fun p hp => t p _ hp ?_⟩
    have e : (kvs.map fun p => kF p.1) = ws.map fun p => kF p.1 := by
      have := congrArg (List.map kF) hr.keys
      rw [List.map_map, List.map_map] at this
      exact this
    rw [e]; exact Reps.keys ws
  · exact t.elim
theorem cd_tup : CallR X (.type "tuple") (rDn X.K tupF) := CallR.ofD fun S xs pins s σ H vs us Q I r l p t => by
  unfold tupF at t
  split at t
  · obtain ⟨v, rfl, d, ws, rfl, hd, hr⟩ := ps1 p
    exact call_tuple_of pins s σ H _ us Q I r ⟨d, ws, rfl, .inl ⟨.of hd, fun p hp => t p ws hp hr⟩⟩
  · exact t.elim
end
end Fm

/-! FK: isinstance, join, dict(..), sorted, index; dict lookups; displays. -/
namespace Fm
open PySem L2

/-! ### isinstance of data, built-in types -/
inductive Ty where | str | int | bl | tup | lst | dct
inductive Tg where | non | bl | int | str | lst | tup | dct
@[simp] def Ty.nm : Ty → String
  | .str => "str" | .int => "int" | .bl => "bool" | .tup => "tuple" | .lst => "list" | .dct => "dict"
def Tg.nm : Tg → String
  | .non => "NoneType" | .bl => "bool" | .int => "int" | .str => "str" | .lst => "list" | .tup => "tuple" | .dct => "dict"
@[simp] def isiT : Ty → Tg → Bool
  | .str, .str => true
  | .int, .int => true
  | .int, .bl => true
  | .bl, .bl => true
  | .tup, .tup => true
  | .lst, .lst => true
  | .dct, .dct => true
  | _, _ => false
@[simp] def F.tag : F → Tg
  | .non => .non | .bl _ => .bl | .int _ => .int | .str _ => .str | .lst _ => .lst | .tup _ => .tup | .dct _ => .dct | .scr _ => .lst
@[simp] def isiF (t : Ty) (x : F) : Op := .val (.bl (isiT t x.tag))
theorem kit_all : ∀ (t : Ty) (x : Tg), kitB x.nm t.nm = some (isiT t x)
  | .str, .non | .str, .bl | .str, .int | .str, .str | .str, .lst | .str, .tup | .str, .dct => by decide +kernel
  | .int, .non | .int, .bl | .int, .int | .int, .str | .int, .lst | .int, .tup | .int, .dct => by decide +kernel
  | .bl, .non | .bl, .bl | .bl, .int | .bl, .str | .bl, .lst | .bl, .tup | .bl, .dct => by decide +kernel
  | .tup, .non | .tup, .bl | .tup, .int | .tup, .str | .tup, .lst | .tup, .tup | .tup, .dct => by decide +kernel
  | .lst, .non | .lst, .bl | .lst, .int | .lst, .str | .lst, .lst | .lst, .tup | .lst, .dct => by decide +kernel
  | .dct, .non | .dct, .bl | .dct, .int | .dct, .str | .dct, .lst | .dct, .tup | .dct, .dct => by decide +kernel
theorem tyX_of {K : PySem.W.Frag} {S H : Hp} {x : F} {v : V} (p : RepP K S H x v) : TyX K H v (.type x.tag.nm) := by
  cases x with
  | non => have p : v = .non := p; subst p; exact .base .non
  | bl b => have p : v = .bl b := p; subst p; exact .base (.bl b)
  | int b => have p : v = .int b := p; subst p; exact .base (.int b)
  | str b => have p : v = .str b := p; subst p; exact .base (.str b)
  | lst xs => obtain ⟨a, vs, rfl, h, _⟩ := p; exact .base (.lst h)
  | tup xs => obtain ⟨a, vs, rfl, h, _⟩ := p; exact .base (.tup h)
  | dct xs =>
    obtain ⟨a, vs, rfl, h | ⟨o, h⟩, _⟩ := p
    · exact .base (.dK h)
    · exact .fDict h
  | scr ns =>
    obtain ⟨a, rfl, (h | ⟨o, h⟩) | ⟨o, us, n, h1, h2, _⟩⟩ := p
    · exact .base (.lst h)
    · exact .base (.frz h)
    · exact .kList h1 h2
section
variable {X : Cx} {G : Gc} {a b e o : Expr} {es : List Expr} {ma mb mo me : M} {pos p p2 apos : Pos}
theorem de_isi {t : Ty} {x : Str} (hg : Gl X "isinstance") (hm : X.mg "isinstance" = none) (hg2 : Gl X x) (hm2 : X.mg x = none) (hv : bootBuiltins x = some (.type t.nm)) (ha : DE X G a ma) (hn : x ≠ "__name__" := by decide) (hdb : (x == ("__debug__" : Str)) = false := by decide)
    (hs1 : starEach [a, .Name x p2] X.env = (false, eval a X.env) :: starEach [.Name x p2] X.env := by rfl) (hs2 : starEach [.Name x p2] X.env = (false, eval (.Name x p2) X.env) :: starEach [] X.env := by rfl) (hpl : (backTo pos (starEach [.Name x p2] X.env)).any (·.1) = false := by rfl) :
    DE X G (.Call (.Name "isinstance" p) [a, .Name x p2] [] pos) (mU (isiF t) ma) :=
  (pe_callB call_isi hg hm rfl (pa_cons ha (pa_cons (pe_bltn (v := .ty t.nm) hg2 hm2 hv rfl hn hdb) pa_nil hs2) hs1) (by decide) (by decide) hs1 hpl).wk fun σ H Q ⟨g, sl, s, R, h⟩ => tD.first R h fun v w g1 s1 H1 l1 n1 R1 r1 h1 => by
    obtain ⟨S, x, lk, p, q⟩ := op1_post R1 r1 h1
    exact ⟨v, .ty t.nm, _, _, _, rfl, .ty _, tyX_of p, kit_ty (kit_all t x.tag), q _ rep_bl⟩

/-! ### join -/
@[simp] def joinA (a : Str) : F → Op
  | .lst xs => match strsF xs with
    | some ys => if (ys.map (·.length)).sum + ys.length * a.length ≤ 16777216 then .val (.str (Txt.join a ys)) else .bad
    | none => .bad
  | _ => .bad
theorem strsF_rep {K : PySem.W.Frag} {S : Hp} : ∀ {xs : List F} {ys : List Str} {vs : List V}, strsF xs = some ys → Reps K S xs vs → vs = ys.map V.str
  | [], ys, vs, e, r => by
    simp only [Reps] at r
    subst r
    unfold strsF at e; cases e; rfl
  | .str x :: xs, ys, vs, e, r => by
    unfold strsF at e
    split at e
    · rename_i zs ez
      cases e
      simp only [Reps, Rep] at r
      obtain ⟨v, t, rfl, rfl, r⟩ := r
      rw [strsF_rep ez r]; rfl
    · cases e
  | .non :: xs, ys, vs, e, r => by unfold strsF at e; cases e
  | .bl _ :: xs, ys, vs, e, r => by unfold strsF at e; cases e
  | .int _ :: xs, ys, vs, e, r => by unfold strsF at e; cases e
  | .lst _ :: xs, ys, vs, e, r => by unfold strsF at e; cases e
  | .tup _ :: xs, ys, vs, e, r => by unfold strsF at e; cases e
  | .dct _ :: xs, ys, vs, e, r => by unfold strsF at e; cases e
  | .scr _ :: xs, ys, vs, e, r => by unfold strsF at e; cases e
theorem de_join {x : Str} {j : Nat} (he : DE X G e me) (hs : starEach [e] X.env = [(false, eval e X.env)] := by rfl) (hbase : attributeBase (.Constant (.str x) j p) "join" X.env (eval (.Constant (.str x) j p) X.env) = eval (.Constant (.str x) j p) X.env := by rfl) (hline : (apos.endLine == pos.line) = true := by rfl) :
    DE X G (.Call (.Attribute (.Constant (.str x) j p) "join" apos) [e] [] pos) (mU (joinA x) me) :=
  (pe_join pe_str he hs hbase hline).wk fun σ H Q ⟨g, sl, s, R, h⟩ => ⟨⟨x, rfl⟩, tD.first R h fun v w g1 s1 H1 l1 n1 R1 r1 h1 => by
    obtain ⟨S, y, lk, q, t⟩ := op1_post R1 r1 h1
    cases y <;> try exact t.elim
    rename_i xs
    simp only [joinA] at t
    split at t
    · rename_i ys ey
      split at t
      · rename_i hl
        obtain ⟨d, vs, rfl, hd, hr⟩ := q
        have := strsF_rep ey hr
        subst this
        exact ⟨x, d, ys, rfl, rfl, .inl (.of hd), hl, t _ rep_str⟩
      · exact t.elim
    · exact t.elim⟩
/-! ### dict(..) -/
theorem pairsF_rep {K : PySem.W.Frag} {S H : Hp} (lk : Lk S H) : ∀ {xs : List F} {kvs : List (Key × F)} {vs : List V}, pairsF xs = some kvs → Reps K S xs vs → ∃ (ps : List Addr) (ws : List (Key × V)), vs = ps.map V.ref ∧ Paired (fun p kv => SqT K H p [kV kv.1, kv.2]) ps ws ∧ RepK K S kvs ws
  | [], kvs, vs, e, r => by
    simp only [Reps] at r
    subst r
    unfold pairsF at e; cases e
    exact ⟨[], [], rfl, .nil, .nil⟩
  | x :: xs, kvs, vs, e, r => by
    unfold pairsF at e
    split at e
    · rename_i q; cases q
    · rename_i k v rr q
      cases q
      split at e
      · rename_i ks ek
        cases e
        simp only [Reps, Rep] at r
        obtain ⟨v, t, rfl, ⟨a, us, rfl, ha, v1, t1, rfl, rfl, v2, t2, rfl, h2, rfl⟩, r⟩ := r
        obtain ⟨ps, ws, rfl, h3, h4⟩ := pairsF_rep lk ek r
        exact ⟨a :: ps, (.inr k, v2) :: ws, rfl, .cons (.of (lk _ _ ha)) h3, .cons h2 h4⟩
      · cases e
    · rename_i k v rr q
      cases q
      split at e
      · rename_i ks ek
        cases e
        simp only [Reps, Rep] at r
        obtain ⟨v, t, rfl, ⟨a, us, rfl, ha, v1, t1, rfl, rfl, v2, t2, rfl, h2, rfl⟩, r⟩ := r
        obtain ⟨ps, ws, rfl, h3, h4⟩ := pairsF_rep lk ek r
        exact ⟨a :: ps, (.inl k, v2) :: ws, rfl, .cons (.of (lk _ _ ha)) h3, .cons h2 h4⟩
      · cases e
    · cases e
theorem cd_dict (hc : X.calm = true) : CallR X (.type "dict") (rDn X.K dictF) := CallR.ofD fun S xs pins s σ H vs us Q I r l p t => by
  unfold dictF at t
  split at t
  · obtain ⟨v, rfl, d, ws, rfl, hd, hr⟩ := ps1 p
    exact call_dictD pins s σ H _ us Q I r ⟨d, ws, rfl, hd, fun p hp => t p ws hp hr⟩
  · split at t
    · rename_i kvs ek
      obtain ⟨v, rfl, d, ws, rfl, hd, hr⟩ := ps1 p
      obtain ⟨ps, ks, rfl, h3, h4⟩ := pairsF_rep l ek hr
      exact call_dictP hc pins s σ H _ us Q I r ⟨d, ps, ks, rfl, .of hd, h3, fun p hp => t p _ hp (RepK.merge .nil h4)⟩
    · exact t.elim
  · exact t.elim

/-! ### sorted -/
def leS (a b : Str) : Bool := !Spec.ltCps b.cps.toList a.cps.toList
theorem leS_iff {a b : Str} : leS a b = true ↔ a.cps.toList ≤ b.cps.toList := by
  unfold leS
  rw [PyProof.Rows.ltCps_eq]
  simp
theorem leS_trans {a b c : Str} (h : leS a b = true) (k : leS b c = true) : leS a c = true := leS_iff.mpr (List.le_trans (leS_iff.mp h) (leS_iff.mp k))
theorem leS_total (a b : Str) : (leS a b || leS b a) = true := by
  rw [Bool.or_eq_true, leS_iff, leS_iff]
  exact List.le_total _ _
theorem leS_anti {a b : Str} (h : leS a b = true) (k : leS b a = true) : a = b := by
  have := List.le_antisymm (leS_iff.mp h) (leS_iff.mp k)
  obtain ⟨⟨a⟩⟩ := a
  obtain ⟨⟨b⟩⟩ := b
  simp at this
  rw [this]
def sortS (xs : List Str) : List Str := xs.mergeSort leS
theorem rising_pw : ∀ (p : Str) (l : List Str), PyProof.Rows.risingS p l = true → (p :: l).Pairwise fun a b => leS a b = true
  | p, [], _ => by simp
  | p, x :: r, h => by
    unfold PyProof.Rows.risingS at h
    rw [Bool.and_eq_true] at h
    have ih := rising_pw x r h.2
    refine .cons (fun y hy => ?_) ih
    rcases List.mem_cons.mp hy with rfl | hy
    · exact h.1
    · exact leS_trans h.1 (List.rel_of_pairwise_cons ih hy)
theorem sorted_pw {l : List Str} (h : PyProof.Rows.sortedS l = true) : l.Pairwise fun a b => leS a b = true := by
  cases l with
  | nil => exact .nil
  | cons x r => exact rising_pw x r h
theorem sortS_perm (xs : List Str) : (sortS xs).Perm xs := List.mergeSort_perm xs leS
theorem sortS_pw (xs : List Str) : (sortS xs).Pairwise fun a b => leS a b = true := List.pairwise_mergeSort (le := leS) (fun _ _ _ h k => leS_trans h k) (fun a b => leS_total a b) xs
theorem sortS_uniq {xs ys : List Str} (p : ys.Perm xs) (h : PyProof.Rows.sortedS ys = true) : ys = sortS xs :=
  List.Perm.eq_of_pairwise (fun _ _ _ _ a b => leS_anti a b) (sorted_pw h) (sortS_pw xs) (p.trans (sortS_perm xs).symm)
theorem sortS_eq {xs ys : List Str} : sortS xs = sortS ys ↔ xs.Perm ys :=
  ⟨fun h => (sortS_perm xs).symm.trans (h ▸ sortS_perm ys), fun h => List.Perm.eq_of_pairwise (fun _ _ _ _ a b => leS_anti a b) (sortS_pw xs) (sortS_pw ys) ((sortS_perm xs).trans (h.trans (sortS_perm ys).symm))⟩
def keysS {α : Type} : List (Key × α) → Option (List Str)
  | [] => some []
  | (.inr x, _) :: r => match keysS r with
    | some xs => some (x :: xs)
    | none => none
  | _ :: _ => none
theorem keysS_map {α : Type} : ∀ {kvs : List (Key × α)} {ks : List Str}, keysS kvs = some ks → kvs.map (·.1) = ks.map Sum.inr
  | [], ks, e => by unfold keysS at e; cases e; rfl
  | (.inr x, _) :: r, ks, e => by
    unfold keysS at e
    split at e
    · rename_i xs ex
      cases e
      rw [List.map_cons, keysS_map ex]; rfl
    · cases e
  | (.inl x, _) :: r, ks, e => by unfold keysS at e; cases e
@[simp] def sortF : List F → Op
  | [.lst xs] => match strsF xs with
    | some ys => if ys.length < 64 then .new (.lst ((sortS ys).map F.str)) else .bad
    | none => .bad
  | [.dct kvs] => match keysS kvs with
    | some ys => if ys.length < 64 then .new (.lst ((sortS ys).map F.str)) else .bad
    | none => .bad
  | _ => .bad
theorem Reps.strs {K : PySem.W.Frag} {S : Hp} : ∀ ns : List Str, Reps K S (ns.map F.str) (ns.map V.str)
  | [] => .nil
  | n :: ns => .cons rep_str (Reps.strs ns)
theorem cd_sorted (hc : X.calm = true) : CallR X (.builtin "sorted") (rDn X.K sortF) := CallR.ofD fun S xs pins s σ H vs us Q I r l p t => by
  unfold sortF at t
  split at t
  · split at t
    · rename_i ys ey
      split at t
      · rename_i h64
        obtain ⟨v, rfl, d, ws, rfl, hd, hr⟩ := ps1 p
        have := strsF_rep ey hr
        subst this
        exact cr_sortedS pins s σ H _ us Q I r ⟨d, ys, rfl, .of hd, h64, fun zs p h1 h2 hp => by
          have := sortS_uniq h1 h2
          subst this
          exact t p _ hp (Reps.strs _)⟩
      · exact t.elim
    · exact t.elim
  · split at t
    · rename_i ys ey
      split at t
      · rename_i h64
        obtain ⟨v, rfl, d, ws, rfl, hd, hr⟩ := ps1 p
        exact call_sortedD hc pins s σ H _ us Q I r ⟨d, ws, ys, rfl, hd, by rw [← hr.keys, keysS_map ey], h64, fun zs p h1 h2 hp => by
          have := sortS_uniq h1 h2
          subst this
          exact t p _ hp (Reps.strs _)⟩
      · exact t.elim
    · exact t.elim
  · exact t.elim

/-! ### dict lookups -/
@[simp] def kOf : F → Option Key
  | .int i => some (.inl i)
  | .str x => some (.inr x)
  | _ => none
theorem kOf_rep {K : PySem.W.Frag} {S H : Hp} {x : F} {v : V} {k : Key} (h : kOf x = some k) (r : RepP K S H x v) : v = kV k := by
  cases x <;> simp only [kOf] at h <;> first | (cases h; exact r) | cases h
@[simp] def dgetF : F → F → Op
  | .dct kvs, k => match kOf k with
    | some k => match vK kvs k with
      | some x => .val x
      | none => .bad
    | none => .bad
  | _, _ => .bad
@[simp] def dinF : F → F → Op
  | k, .dct kvs => match kOf k with
    | some k => .val (.bl (vK kvs k).isSome)
    | none => .bad
  | _, _ => .bad
@[simp] def dninF : F → F → Op
  | k, .dct kvs => match kOf k with
    | some k => .val (.bl (!(vK kvs k).isSome))
    | none => .bad
  | _, _ => .bad
theorem _root_.Fm.RepK.valS {K : PySem.W.Frag} {S : Hp} {k : Key} {xs : List (Key × F)} {vs : List (Key × V)} {x : F} (r : RepK K S xs vs) (e : vK xs k = some x) : ∃ v, valV vs k = some v ∧ Rep K S x v := by
  rcases r.val k with ⟨y, v, h1, h2, h3⟩ | ⟨h1, _⟩
  · rw [e] at h1; cases h1; exact ⟨v, h2, h3⟩
  · rw [e] at h1; cases h1
theorem _root_.Fm.RepK.isS {K : PySem.W.Frag} {S : Hp} {k : Key} {xs : List (Key × F)} {vs : List (Key × V)} (r : RepK K S xs vs) : (vK xs k).isSome = (valV vs k).isSome := by
  rcases r.val k with ⟨y, v, h1, h2, h3⟩ | ⟨h1, h2⟩ <;> rw [h1, h2] <;> rfl
theorem de_dget (hu : X.A.units + 1 < cLine) (ho : DE X G a ma) (hi : DE X G b mb) (hs : NoSl b) : DE X G (.Subscript a b pos) (mB dgetF ma mb) :=
  (pe_dget hu ho hi hs).wk fun σ H Q ⟨g, sl, s, R, h⟩ => tD.first R h fun v w g1 s1 H1 l1 n1 R1 r1 h1 => tD.first R1 h1 fun u w2 g2 s2 H2 l2 n2 R2 r2 h2 => by
    obtain ⟨S, x, y, lk, p, q, t⟩ := op2_post R2 (r1.le l2 n2) r2 h2
    cases x <;> try exact t.elim
    rename_i kvs
    simp only [dgetF] at t
    split at t
    · rename_i k ek
      split at t
      · rename_i z ez
        obtain ⟨d, vs, rfl, hd, hr⟩ := p
        obtain ⟨z1, e1, e2⟩ := hr.valS ez
        exact ⟨d, z1, rfl, .inl ⟨vs, k, hd, kOf_rep ek q, e1.symm⟩, t _ e2⟩
      · exact t.elim
    · exact t.elim

theorem rd_din {S H : Hp} {x y : F} {v u : V} {Q : VK} {K : PySem.W.Frag} (p : RepP K S H x v) (q : RepP K S H y u) (t : Post K S H Q (dinF x y)) : ∃ a o, u = .ref a ∧ DGet H a v o ∧ Q (.bl o.isSome) H := by
  cases y <;> try exact t.elim
  rename_i kvs
  simp only [dinF] at t
  split at t
  · rename_i k ek
    obtain ⟨d, vs, rfl, hd, hr⟩ := q
    exact ⟨d, valV vs k, rfl, .inl ⟨vs, k, hd, kOf_rep ek p, rfl⟩, by rw [← hr.isS]; exact t _ rep_bl⟩
  · exact t.elim
theorem rd_dnin {S H : Hp} {x y : F} {v u : V} {Q : VK} {K : PySem.W.Frag} (p : RepP K S H x v) (q : RepP K S H y u) (t : Post K S H Q (dninF x y)) : ∃ a o, u = .ref a ∧ DGet H a v o ∧ Q (.bl (!o.isSome)) H := by
  cases y <;> try exact t.elim
  rename_i kvs
  simp only [dninF] at t
  split at t
  · rename_i k ek
    obtain ⟨d, vs, rfl, hd, hr⟩ := q
    exact ⟨d, valV vs k, rfl, .inl ⟨vs, k, hd, kOf_rep ek p, rfl⟩, by rw [← hr.isS]; exact t _ rep_bl⟩
  · exact t.elim
theorem tdin_go {K : PySem.W.Frag} {σ : St} {H : Hp} {Q : VK} (h : tD K G (mB dinF ma mb) σ H Q) : tDIn (tD K G ma) (tD K G mb) σ H Q := by
  obtain ⟨g, sl, s, R, h⟩ := h
  exact tD.first R h fun v w g1 s1 H1 l1 n1 R1 r1 h1 => tD.first R1 h1 fun u w2 g2 s2 H2 l2 n2 R2 r2 h2 => by
    obtain ⟨S, x, y, lk, p, q, t⟩ := op2_post R2 (r1.le l2 n2) r2 h2
    exact rd_din p q t
theorem tdnin_go {K : PySem.W.Frag} {σ : St} {H : Hp} {Q : VK} (h : tD K G (mB dninF ma mb) σ H Q) : tDNotIn (tD K G ma) (tD K G mb) σ H Q := by
  obtain ⟨g, sl, s, R, h⟩ := h
  exact tD.first R h fun v w g1 s1 H1 l1 n1 R1 r1 h1 => tD.first R1 h1 fun u w2 g2 s2 H2 l2 n2 R2 r2 h2 => by
    obtain ⟨S, x, y, lk, p, q, t⟩ := op2_post R2 (r1.le l2 n2) r2 h2
    exact rd_dnin p q t
theorem de_din (hu : X.A.units + 1 < cLine) (hi : DE X G a ma) (ho : DE X G b mb) (h1 : behindInMarks .In b = false := by rfl) : DE X G (.Compare a [.In] [b] pos) (mB dinF ma mb) := (pe_cmp (pc_din hu hi ho) h1).wk fun σ H Q h => tdin_go h
theorem de_dnin (hu : X.A.units + 1 < cLine) (hi : DE X G a ma) (ho : DE X G b mb) (h1 : behindInMarks .NotIn b = false := by rfl) : DE X G (.Compare a [.NotIn] [b] pos) (mB dninF ma mb) := (pe_cmp (pc_dnotin hu hi ho) h1).wk fun σ H Q h => tdnin_go h
theorem dt_of_bl {e : Expr} {m : M} (h : PT X e (tB (tD X.K G m))) (hb : ∀ sl s y s', m sl s = .ok y s' → ∃ b, y = .w (.f (.bl b))) : DT X G e m := h.wk fun σ H Q ⟨g, sl, s, R, h⟩ => ⟨g, sl, s, R, (OkT.e h)⟩
theorem dt_din (hu : X.A.units + 1 < cLine) (hi : DE X G a ma) (ho : DE X G b mb) (h1 : behindInMarks .In b = false := by rfl) : DT X G (.Compare a [.In] [b] pos) (mB dinF ma mb) := (pt_cmp (pc_din hu hi ho) h1).wk fun σ H Q ⟨g, sl, s, R, h⟩ => tdin_go ⟨g, sl, s, R, h.e⟩
theorem dt_dnin (hu : X.A.units + 1 < cLine) (hi : DE X G a ma) (ho : DE X G b mb) (h1 : behindInMarks .NotIn b = false := by rfl) : DT X G (.Compare a [.NotIn] [b] pos) (mB dninF ma mb) := (pt_cmp (pc_dnotin hu hi ho) h1).wk fun σ H Q ⟨g, sl, s, R, h⟩ => tdnin_go ⟨g, sl, s, R, h.e⟩
/-- d.get(k, x) -/
@[simp] def mGet (md mk mx : M) : M := fun sl s => mW md (fun w => fun sl s => match pk sl s w with
  | some (.dct _) => mW mk (fun u => mW mx fun z => fun sl s => match pk sl s w, pk sl s u with
    | some (.dct kvs), some k => match kOf k with
      | some k => match vK kvs k with
        | some x => .ok (.w (.f x)) s
        | none => .ok (.w z) s
      | none => .bad
    | _, _ => .bad) sl s
  | _ => .bad) sl s
theorem de_dget2 {md mk mx : M} {d k x : Expr} (hu : X.A.units + 1 < cLine) (ho : DE X G d md) (he : DE X G k mk) (hf : DE X G x mx) (m : M2 X d "get" apos k x pos) : DE X G (.Call (.Attribute d "get" apos) [k, x] [] pos) (mGet md mk mx) :=
  (pe_dget2 hu ho he hf m).wk fun σ H Q ⟨g, sl, s, R, h⟩ => tD.first R h fun v w g1 s1 H1 l1 n1 R1 r1 h1 => by
    split at h1
    · rename_i kvs0 e0
      obtain ⟨d0, vs0, rfl, hd0, _⟩ := R1.peek r1 e0
      refine ⟨d0, rfl, .inl ⟨vs0, hd0⟩, tD.first R1 h1 fun u w2 g2 s2 H2 l2 n2 R2 r2 h2 => tD.first R2 h2 fun z w3 g3 s3 H3 l3 n3 R3 r3 h3 => ?_⟩
      split at h3
      · rename_i kvs kf e1 e2
        have p1 := R3.peek ((r1.le l2 n2).le l3 n3) e1
        have p2 := R3.peek (r2.le l3 n3) e2
        obtain ⟨d1, vs, ed, hd, hr⟩ := p1
        cases ed
        split at h3
        · rename_i ky ek
          split at h3
          · rename_i x1 ex
            obtain ⟨v1, q1, q2⟩ := hr.valS ex
            exact ⟨some v1, .inl ⟨vs, ky, hd, kOf_rep ek p2, q1.symm⟩, h3 v1 g3 H3 .rfl (Nat.le_refl _) R3 q2⟩
          · rename_i ex
            rcases hr.val ky with ⟨_, _, q, _⟩ | ⟨_, q⟩
            · rw [ex] at q; cases q
            · exact ⟨none, .inl ⟨vs, ky, hd, kOf_rep ek p2, q.symm⟩, h3 z g3 H3 .rfl (Nat.le_refl _) R3 r3⟩
        · exact h3.elim
      · exact h3.elim
    · exact h1.elim
end
end Fm

/-! FL: objects beside; displays; comprehensions. -/
namespace Fm
open PySem L2

/-- what a derivation asks of G -/
structure GOk (X : Cx) (C : Addr) (cls : Str → Addr) (G : Gc) : Prop where
  c : G.C = C
  l : G.cls = cls
  xs : G.xs = none
  tk : Takes X G.W
section
variable {K : PySem.W.Frag} {G : Gc} {g g' : Gh} {sl : List Sl} {s s' : Sto} {σ : St} {H H' : Hp} {n m : Nat} {C a p : Addr} {c : Ct} {u : HO}
theorem RlH.la_ne' (R : RlH K C g s H) (h1 : g.S p = none) (h2 : ∀ k, k < s.O.length → g.rc k ≠ p) : ∀ x ∈ g.La, x.1 ≠ p := fun x hx e => by
  obtain ⟨w, _, z⟩ := paired_mem R.lkw x hx
  unfold LkW at z
  split at z
  · obtain ⟨z1, _⟩ := z
    rw [e, h1] at z1; cases z1
  · exact h2 _ z.1 (z.2.trans e)
  · exact z
/-- an object that is told to nobody changes -/
theorem RlH.free (R : RlH K C g s H) (h1 : g.S p = none) (h2 : ∀ k, k < s.O.length → g.rc k ≠ p) : RlH K C g s (upd H p u) := by
  have la := R.la_ne' h1 h2
  have nS : ∀ {a w}, g.S a = some w → a ≠ p := fun {a w} e z => by rw [z, h1] at e; cases e
  refine ⟨fun a w e => ?_, fun a kvs e hl => by rw [upd_ne (nS e)]; exact R.exa a kvs e hl, fun k c e => ⟨(R.cel k c e).1, (R.cel k c e).2.heap fun w hw => by rw [upd_ne (h2 k (List.getElem?_eq_some_iff.mp e).1)]; exact hw⟩, R.cin, fun x hx => by rw [upd_ne (la x hx)]; exact R.lck x hx, R.lkw, R.lnd⟩
  have z := R.see a w e
  have q : upd H p u a = H a := upd_ne (nS e)
  unfold Sees Rd at z ⊢
  rw [q]
  exact z
theorem Rl.free (R : Rl K G g sl s σ H) (h1 : g.S p = none) (h2 : ∀ k, k < s.O.length → g.rc k ≠ p) (h3 : ∀ (i : Nat) (d : Ct), sl[i]? = some (Sl.own d) → g.ro i ≠ p) (h4 : G.H0 p = none) : Rl K G g sl s σ (upd H p u) := by
  refine { toRlH := R.toRlH.free h1 h2, len := R.len, sok := R.sok, exs := R.exs, val := R.val, own := fun i c e => ?_, oni := R.oni, oin := R.oin, frm := fun a w f => ?_, newS := R.newS, newC := R.newC, oldC := R.oldC, n0le := R.n0le, newO := R.newO, dom := fun a h => ?_, subS := R.subS }
  · obtain ⟨q1, q2, q3, q4⟩ := R.own i c e
    exact ⟨q1, q2, q3, q4.heap fun w hw => by rw [upd_ne (h3 i c e)]; exact hw⟩
  · obtain ⟨q1, q2⟩ := R.frm a w f
    have : a ≠ p := fun z => by have q := f.1; rw [z, h4] at q; cases q
    exact ⟨by rw [upd_ne this]; exact q1, q2⟩
  · by_cases e : a = p
    · subst e; rw [upd_same]; simp
    · rw [upd_ne e]; exact R.dom a h
def Gc.hide (G : Gc) (p : Addr) (u : HO) : Gc := { G with H0 := upd G.H0 p u }
/-- an object of nobody's is watched -/
theorem Rl.watch (R : Rl K G g sl s σ H) (q1 : g.S p = none) (q2 : ∀ k, k < s.O.length → g.rc k ≠ p) (q3 : ∀ (i : Nat) (d : Ct), sl[i]? = some (Sl.own d) → g.ro i ≠ p) (q0 : G.H0 p = none) : Rl K (G.hide p u) g sl s σ (upd H p u) := by
  have R1 := R.free (u := u) q1 q2 q3 q0
  have ne : ∀ a, a ≠ p → (G.hide p u).H0 a = G.H0 a := fun a h => upd_ne h
  refine { toRlH := R1.toRlH, len := R.len, sok := R.sok, exs := R.exs, val := R.val, own := R1.own, oni := R.oni, oin := R.oin, frm := fun a w f => ?_, newS := fun a w e => ?_, newC := fun k h1 h2 => ?_, oldC := R.oldC, n0le := R.n0le, newO := fun i c e => ?_, dom := fun a h => ?_, subS := R.subS }
  · by_cases e : a = p
    · subst e
      have f1 : upd G.H0 a u a = some w := f.1
      rw [upd_same] at f1
      cases f1
      exact ⟨upd_same, q1, q2, q3⟩
    · exact R1.frm a w ⟨by rw [← ne a e]; exact f.1, f.2⟩
  · rcases R.newS a w e with z | z
    · exact .inl z
    · refine .inr ?_
      rw [ne a fun q => by rw [q, q1] at e; cases e]; exact z
  · rw [ne _ (q2 k h2)]; exact R.newC k h1 h2
  · rw [ne _ (q3 i c e)]; exact R.newO i c e
  · by_cases e : a = p
    · subst e; rw [upd_same]; simp
    · rw [ne a e] at h; exact R1.dom a h
/-- a new object stands beside -/
theorem Rl.hide (R : Rl K G g sl s σ H) (hp : H p = none) : Rl K (G.hide p u) g sl s σ (upd H p u) := R.watch (R.S_none hp) (R.rc_ne hp) (R.ro_ne hp) (R.H0_none hp)
/-- .. and is looked at again -/
theorem Rl.bare (R : Rl K (G.hide p u) g sl s σ H) (h0 : G.H0 p = none) (hS : G.S0 p = none) (hc : ∀ k, k < G.n0 → G.rc0 k ≠ p) : Rl K G g sl s σ H ∧ H p = some u ∧ g.S p = none ∧ (∀ k, k < s.O.length → g.rc k ≠ p) ∧ ∀ (i : Nat) (c : Ct), sl[i]? = some (Sl.own c) → g.ro i ≠ p := by
  have ne : ∀ a, a ≠ p → (G.hide p u).H0 a = G.H0 a := fun a h => upd_ne h
  have imp : ∀ a, (G.hide p u).H0 a = none → G.H0 a = none := fun a h => by
    by_cases e : a = p
    · subst e; exact h0
    · rw [← ne a e]; exact h
  refine ⟨{ toRlH := R.toRlH, len := R.len, sok := R.sok, exs := R.exs, val := R.val, own := R.own, oni := R.oni, oin := R.oin, frm := fun a w f => ?_, newS := fun a w e => ?_, newC := fun k h1 h2 => imp _ (R.newC k h1 h2), oldC := R.oldC, n0le := R.n0le, newO := fun i c e => imp _ (R.newO i c e), dom := fun a h => ?_, subS := R.subS }, R.frm p u ⟨upd_same, hS, hc⟩⟩
  · have : a ≠ p := fun z => by have q := f.1; rw [z, h0] at q; cases q
    exact R.frm a w ⟨by rw [ne a this]; exact f.1, f.2⟩
  · rcases R.newS a w e with z | z
    · exact .inl z
    · exact .inr (imp _ z)
  · have : a ≠ p := fun z => by rw [z] at h; exact h h0
    exact R.dom a (by rw [ne a this]; exact h)
theorem Rl.S0_none (R : Rl K G g sl s σ H) (h : g.S p = none) : G.S0 p = none := by
  cases e : G.S0 p with
  | none => rfl
  | some w => rw [R.subS _ _ e] at h; cases h
theorem Rl.rc0_ne (R : Rl K G g sl s σ H) (h : ∀ k, k < s.O.length → g.rc k ≠ p) : ∀ k, k < G.n0 → G.rc0 k ≠ p := fun k hk => by
  rw [← R.oldC k hk]; exact h k (Nat.lt_of_lt_of_le hk R.n0le)
end

/-! ### displays of dicts -/
@[simp] def kM : List (M × M) → List Sl → Sto → R (List (Key × F))
  | [], _, s => .ok [] s
  | (mk, mv) :: r, sl, s => (mk sl s).bind fun y s1 => (mv sl s1).bind fun z s2 => (kM r sl s2).bind fun kvs s3 => match frz y, frz z with
    | .f k, .f x => match kOf k with
      | some k => .ok ((k, x) :: kvs) s3
      | none => .bad
    | _, _ => .bad
@[simp] def mDct (ms : List (M × M)) : M := fun sl s => (kM ms sl s).bind fun kvs s1 => if kvs.length ≤ 15 then .ok (.fr (.dct (mK [] kvs))) s1 else .bad
def OkK (K : PySem.W.Frag) (G : Gc) (g : Gh) (sl : List Sl) (s : Sto) (σ : St) (Q : List (V × V) → Hp → Prop) : R (List (Key × F)) → Prop
  | .ok kvs s' => ∀ ps g' H', LeO g g' s.O.length → s.O.length ≤ s'.O.length → Rl K G g' sl s' σ H' → (∃ ws : List (Key × V), ps = ws.map (fun kv => (kV kv.1, kv.2)) ∧ RepK K g'.S kvs ws) → Q ps H'
  | .exc c s' => ∀ g' H', LeO g g' s.O.length → s.O.length ≤ s'.O.length → Rl K G g' sl s' σ H' → G.W (.ref (G.cls c)) none σ H'
  | .bad => False
theorem kOf_rep' {K : PySem.W.Frag} {S : Hp} {x : F} {v : V} {k : Key} (h : kOf x = some k) (r : Rep K S x v) : v = kV k := by
  cases x <;> simp only [kOf] at h <;> first | (cases h; simp only [Rep] at r; exact r) | cases h
/-- an expression under any G like this one -/
def tX (X : Cx) (C : Addr) (cls : Str → Addr) (W : WX) (m : M) : TE := fun σ H Q => ∃ G, GOk X C cls G ∧ G.W = W ∧ tD X.K G m σ H Q
theorem pe_tX {X : Cx} {C : Addr} {cls : Str → Addr} {W : WX} {e : Expr} {m : M} (h : ∀ G, GOk X C cls G → DE X G e m) : PE X e (tX X C cls W m) := ⟨fun pins s σ H Q I ⟨G, o, _, q⟩ => (h G o).run pins s σ H Q I q⟩
theorem pairs_go {X : Cx} {C : Addr} {cls : Str → Addr} {G : Gc} (o : GOk X C cls G) : ∀ (ms : List (M × M)) {g : Gh} {sl : List Sl} {s : Sto} {σ : St} {H : Hp} {Q : List (V × V) → Hp → Prop}, Rl X.K G g sl s σ H → OkK X.K G g sl s σ Q (kM ms sl s) →
    tPairs (ms.map fun p => (tX X C cls G.W p.1, tX X C cls G.W p.2)) σ H Q
  | [], g, sl, s, σ, H, Q, R, h => h [] g H .rfl (Nat.le_refl _) R ⟨[], rfl, .nil⟩
  | (mk, mv) :: r, g, sl, s, σ, H, Q, R, h => by
    refine ⟨G, o, rfl, g, sl, s, R, ?_⟩
    show OkE X.K G g sl s σ _ (mk sl s)
    simp only [kM] at h
    cases e : mk sl s with
    | bad => rw [e] at h; exact h
    | exc c s' => rw [e] at h; exact h
    | ok y s1 =>
      rw [e] at h
      simp only [Fm.R.bind_ok] at h
      intro v g1 H1 l1 n1 R1 r1
      obtain ⟨g2, l2, R2, r2⟩ := R1.freeze r1
      have l12 := l1.trans l2 n1
      refine ⟨G, o, rfl, g2, sl, s1, R2, ?_⟩
      show OkE X.K G g2 sl s1 σ _ (mv sl s1)
      cases e2 : mv sl s1 with
      | bad => rw [e2] at h; exact h
      | exc c s' => rw [e2] at h; exact fun g' H' a b c => h g' H' (l12.trans a n1) (Nat.le_trans n1 b) c
      | ok z s2 =>
        rw [e2] at h
        simp only [Fm.R.bind_ok] at h
        intro u g3 H3 l3 n3 R3 r3
        obtain ⟨g4, l4, R4, r4⟩ := R3.freeze r3
        have l34 := l3.trans l4 n3
        have l14 := l12.trans l34 n1
        have n13 := Nat.le_trans n1 n3
        refine pairs_go o r R4 ?_
        cases e3 : kM r sl s2 with
        | bad => rw [e3] at h; exact h
        | exc c s' => rw [e3] at h; exact fun g' H' a b c => h g' H' (l14.trans a n13) (Nat.le_trans n13 b) c
        | ok kvs s3 =>
          rw [e3] at h
          simp only [Fm.R.bind_ok] at h
          intro ps g5 H5 l5 n5 R5 r5
          split at h
          · rename_i k x ek ex
            split at h
            · rename_i ky eky
              obtain ⟨ws, rfl, r5⟩ := r5
              rw [ek] at r2
              rw [ex] at r4
              have q1 := kOf_rep' eky (S := g2.S) (K := X.K) r2
              subst q1
              exact h _ g5 H5 (l14.trans l5 n13) (Nat.le_trans n13 n5) R5 ⟨(ky, u) :: ws, rfl, .cons (Rep.sub l5.sub _ _ r4) r5⟩
            · exact h.elim
          · exact h.elim
/-- the pairs' derivations -/
inductive DK (X : Cx) (C : Addr) (cls : Str → Addr) : List (Option Expr) → List Expr → List (M × M) → Prop where
  | nil : DK X C cls [] [] []
  | cons {k v : Expr} {ks : List (Option Expr)} {vs : List Expr} {mk mv : M} {ms : List (M × M)} (hk : ∀ G, GOk X C cls G → DE X G k mk) (hv : ∀ G, GOk X C cls G → DE X G v mv) (r : DK X C cls ks vs ms) : DK X C cls (some k :: ks) (v :: vs) ((mk, mv) :: ms)
theorem DK.pps {X : Cx} {C : Addr} {cls : Str → Addr} {W : WX} {pos : Pos} {ks : List (Option Expr)} {vs : List Expr} {ms : List (M × M)} (h : DK X C cls ks vs ms) : PPs X pos ks vs (ms.map fun p => (tX X C cls W p.1, tX X C cls W p.2)) := by
  induction h with
  | nil => exact pps_nil
  | cons hk hv r ih => exact pps_cons (pe_tX hk) (pe_tX hv) ih
section
variable {X : Cx} {G : Gc} {C : Addr} {cls : Str → Addr} {pos : Pos}
theorem GOk.hide {p : Addr} {u : HO} (o : GOk X C cls G) : GOk X C cls (G.hide p u) := ⟨o.c, o.l, o.xs, o.tk⟩
theorem de_dct {ks : List (Option Expr)} {vs : List Expr} {ms : List (M × M)} (o : GOk X C cls G) (h : DK X C cls ks vs ms) (hall : ks.all (·.isSome) = true := by rfl) (hl : ks.length = vs.length := by rfl) (h0 : ks ≠ [] := by intro z; cases z) (h15 : ks.length ≤ 15 := by decide) : DE X G (.Dict ks vs pos) (mDct ms) :=
  (pe_disp (h.pps (W := G.W)) hall hl h0 h15).wk fun σ H Q ⟨g, sl, s, R, h⟩ p hp => by
    have R1 := R.hide (u := .dK []) hp
    have q0 := R.H0_none hp
    have qS := R.S0_none (R.S_none hp)
    have qc := R.rc0_ne (R.rc_ne hp)
    refine pairs_go (G := G.hide p (.dK [])) o.hide ms R1 ?_
    simp only [mDct] at h
    cases e : kM ms sl s with
    | bad => rw [e] at h; exact h
    | exc c s' =>
      rw [e] at h
      exact fun g' H' a b c => h g' H' a b (c.bare q0 qS qc).1
    | ok kvs s1 =>
      rw [e] at h
      simp only [Fm.R.bind_ok] at h
      intro ps g1 H1 l1 n1 R2 r2
      obtain ⟨R3, hH, hS, hrc, hro⟩ := R2.bare q0 qS qc
      obtain ⟨ws, rfl, r2⟩ := r2
      split at h
      · rename_i h15
        refine ⟨hH, ws, rfl, by rw [← RepK.length r2]; exact h15, ?_⟩
        have R4 := R3.free (u := .dK (mergeK [] ws)) hS hrc hro q0
        exact h (.ref p) g1 _ l1 n1 R4 ⟨p, rfl, hS, hrc, hro, q0, R3.toRlH.la_ne' hS hrc, ⟨_, RepK.merge .nil r2, .inl upd_same⟩, fun fs z => by cases z⟩
      · exact h.elim
@[simp] def mDnew : M := fun _ s => .ok (.fr (.dct [])) s
theorem de_dnew : DE X G (.Dict [] [] pos) mDnew :=
  pe_dnewK.wk fun σ H Q ⟨g, sl, s, R, h⟩ p hp => by
    have q0 := R.H0_none hp
    exact h (.ref p) g _ .rfl (Nat.le_refl _) (R.new hp) ⟨p, rfl, R.S_none hp, R.rc_ne hp, R.ro_ne hp, q0, R.toRlH.la_ne' (R.S_none hp) (R.rc_ne hp), ⟨[], .nil, .inl upd_same⟩, fun fs z => by cases z⟩
end
end Fm

/-! FM: comprehensions. -/
namespace Fm
open PySem L2
def compF (i : Nat) (t e : M) : List F → List Sl → Sto → R (List F)
  | [], _, s => .ok [] s
  | x :: xs, sl, s => (t (sl.set i (.v (.f x))) s).bind fun y s1 => match y with
    | .w (.f (.bl true)) => (e (sl.set i (.v (.f x))) s1).bind fun z s2 => match frz z with
      | .f z => (compF i t e xs sl s2).bind fun zs s3 => .ok (z :: zs) s3
      | _ => .bad
    | .w (.f (.bl false)) => compF i t e xs sl s1
    | _ => .bad
@[simp] def slNoOwn : Option Sl → Bool
  | some (.own _) => false
  | some _ => true
  | none => false
def mLc (i : Nat) (it : MI) (t e : M) : M := fun sl s => if slNoOwn sl[i]? then (it sl s).bind fun xs s1 => match compF i t e xs (sl.set i .no) s1 with
    | .ok zs s2 => if zs.length ≤ sizeLine then .ok (.fr (.lst zs)) s2 else .bad
    | _ => .bad
  else .bad
theorem bind_ok {α β : Type} {r : R α} {k : α → Sto → R β} {b : β} {s : Sto} (h : r.bind k = .ok b s) : ∃ a s1, r = .ok a s1 ∧ k a s1 = .ok b s := by
  cases r with
  | ok a s1 => exact ⟨a, s1, rfl, h⟩
  | exc c s1 => cases h
  | bad => cases h
theorem compF_cons {i : Nat} {t e : M} {x : F} {xs : List F} {sl : List Sl} {s s2 : Sto} {zs : List F} (h : compF i t e (x :: xs) sl s = .ok zs s2) : (∃ s1, t (sl.set i (.v (.f x))) s = .ok (.w (.f (.bl false))) s1 ∧ compF i t e xs sl s1 = .ok zs s2) ∨
    ∃ s1 z s3 zf zr, t (sl.set i (.v (.f x))) s = .ok (.w (.f (.bl true))) s1 ∧ e (sl.set i (.v (.f x))) s1 = .ok z s3 ∧ frz z = .f zf ∧ compF i t e xs sl s3 = .ok zr s2 ∧ zs = zf :: zr := by
  unfold compF at h
  obtain ⟨y, s1, h1, h⟩ := bind_ok h
  split at h
  · obtain ⟨z, s3, h2, h⟩ := bind_ok h
    split at h
    · rename_i zf hz
      obtain ⟨zr, s4, h3, h⟩ := bind_ok h
      cases h
      exact .inr ⟨s1, z, s3, zf, zr, h1, h2, hz, h3, rfl⟩
    · cases h
  · exact .inl ⟨s1, h1, h⟩
  · cases h
section
variable {K : PySem.W.Frag} {G : Gc} {g g' : Gh} {sl : List Sl} {s s' : Sto} {σ : St} {H H' : Hp} {i : Nat} {W : WX}
theorem Rl.wish (R : Rl K G g sl s σ H) : Rl K { G with W := W } g sl s σ H :=
  { toRlH := R.toRlH, len := R.len, sok := R.sok, exs := R.exs, val := R.val, own := R.own, oni := R.oni, oin := R.oin, frm := R.frm, newS := R.newS, newC := R.newC, oldC := R.oldC, n0le := R.n0le, newO := R.newO, dom := R.dom, subS := R.subS }
theorem Rl.wish' (R : Rl K { G with W := W } g sl s σ H) : Rl K G g sl s σ H :=
  { toRlH := R.toRlH, len := R.len, sok := R.sok, exs := R.exs, val := R.val, own := R.own, oni := R.oni, oin := R.oin, frm := R.frm, newS := R.newS, newC := R.newC, oldC := R.oldC, n0le := R.n0le, newO := R.newO, dom := R.dom, subS := R.subS }
/-- the slot that was wiped is as ahead -/
theorem Rl.unwipe (R0 : Rl K G g sl s σ H) (no : slNoOwn sl[i]? = true) (l : LeO g g' s.O.length) (hn : s.O.length ≤ s'.O.length) (R : Rl K G g' (sl.set i .no) s' (σ.set i none) H') : Rl K G g' sl s' σ H' := by
  have ne : ∀ {j : Nat} {c : Ct}, sl[j]? = some (Sl.own c) → j ≠ i := fun {j c} e z => by rw [z] at e; rw [e] at no; cases no
  have up : ∀ {j : Nat} {c : Ct}, sl[j]? = some (Sl.own c) → (sl.set i .no)[j]? = some (Sl.own c) := fun {j c} e => by
    rw [List.getElem?_set_ne (fun z => ne e z.symm)]; exact e
  refine { toRlH := R.toRlH, len := R0.len, sok := R0.sok, exs := R0.exs, val := fun j w e => ?_, own := fun j c e => ?_, oni := R0.oni, oin := fun j k c d e e' => R.oin j k c d (up e) (up e'), frm := fun a u f => ?_, newS := R.newS, newC := R.newC, oldC := R.oldC, n0le := R.n0le, newO := fun j c e => R.newO j c (up e), dom := R.dom, subS := R.subS }
  · obtain ⟨v, e1, r1⟩ := R0.val j w e
    exact ⟨v, e1, r1.le l hn⟩
  · obtain ⟨h1, h2, h3, h4⟩ := R.own j c (up e)
    rw [List.getElem?_set_ne (fun z => ne e z.symm)] at h3
    exact ⟨h1, h2, h3, h4⟩
  · obtain ⟨h1, h2, h3, h4⟩ := R.frm a u f
    exact ⟨h1, h2, h3, fun j c e => h4 j c (up e)⟩
end
abbrev W0 : WX := fun _ _ _ _ => False
/-- under any G that wishes nothing of errors -/
def tE0 (K : PySem.W.Frag) (C : Addr) (cls : Str → Addr) (m : M) : TE := fun σ H Q => ∃ G : Gc, G.C = C ∧ G.cls = cls ∧ G.xs = none ∧ G.W = W0 ∧ tD K G m σ H Q
def tT0 (K : PySem.W.Frag) (C : Addr) (cls : Str → Addr) (m : M) : TT := fun σ H Q => ∃ G : Gc, G.C = C ∧ G.cls = cls ∧ G.xs = none ∧ G.W = W0 ∧ tDT K G m σ H Q
theorem gok0 {X : Cx} {C : Addr} {cls : Str → Addr} {G : Gc} (h1 : G.C = C) (h2 : G.cls = cls) (h3 : G.xs = none) (h4 : G.W = W0) : GOk X C cls G := ⟨h1, h2, h3, by rw [h4]; exact takes0⟩
theorem pe_tE0 {X : Cx} {C : Addr} {cls : Str → Addr} {e : Expr} {m : M} (h : ∀ G, GOk X C cls G → DE X G e m) : PE X e (tE0 X.K C cls m) := ⟨fun pins s σ H Q I ⟨G, a, b, c, d, q⟩ => (h G (gok0 a b c d)).run pins s σ H Q I q⟩
theorem pt_tT0 {X : Cx} {C : Addr} {cls : Str → Addr} {e : Expr} {m : M} (h : ∀ G, GOk X C cls G → DT X G e m) : PT X e (tT0 X.K C cls m) := ⟨fun pins s σ H Q I ⟨G, a, b, c, d, q⟩ => (h G (gok0 a b c d)).run pins s σ H Q I q⟩
/-- a clause's tests -/
def DTs (X : Cx) (C : Addr) (cls : Str → Addr) (ifs : List Expr) (m : M) : Prop := PTs X ifs (tT0 X.K C cls m)
theorem dts_nil {X : Cx} {C : Addr} {cls : Str → Addr} : DTs X C cls [] (mC (.bl true)) := ⟨fun pins s σ H Q I ⟨G, a, b, c, d, g, sl, s1, R, h⟩ => pts_nil.run pins s σ H Q I (h g H .rfl (Nat.le_refl _) R)⟩
theorem dts_one {X : Cx} {C : Addr} {cls : Str → Addr} {e : Expr} {m : M} (h : ∀ G, GOk X C cls G → DT X G e m) : DTs X C cls [e] m := pts_one (pt_tT0 h)
section
variable {X : Cx} {G : Gc} {C : Addr} {cls : Str → Addr}
theorem set_get {α : Type} {l : List α} {i : Nat} {x y : α} : (l.set i x).set i y = l.set i y := List.set_set ..
theorem lc_go {tg iter : Expr} {it : MI} {mt me : M} {i : Nat} (o : GOk X C cls G) {σ : St} {H : Hp} {Q : VK} (h : tD X.K G (mLc i it mt me) σ H Q) : tLc (tDI X.K G it) (gName i) (tT0 X.K C cls mt) (tE0 X.K C cls me) [i] σ H Q := by
  obtain ⟨g, sl, s, R, h⟩ := h
  simp only [mLc] at h
  split at h
  case isFalse => exact h.elim
  rename_i no
  refine ⟨g, sl, s, R, ?_⟩
  cases e : it sl s with
  | bad => rw [e] at h; exact h
  | exc c s' => rw [e] at h; exact h
  | ok items s1 =>
    rw [e] at h
    simp only [Fm.R.bind_ok] at h
    intro J g1 H1 l1 n1 R1 ok D hD
    split at h
    case h_2 => exact h.elim
    rename_i zs s2 ez
    split at h
    case isFalse => exact h.elim
    rename_i hz
    have q0 := R1.H0_none hD
    have qS := R1.S0_none (R1.S_none hD)
    have qc := R1.rc0_ne (R1.rc_ne hD)
    have Rb : Rl X.K ({ G with W := W0 }.hide D (.lst [])) g1 (sl.set i .no) s1 (σ.set i none) (upd H1 D (.lst [])) := ((R1.setNo (i := i) (v := none) o.xs).wish (W := W0)).hide hD
    refine ⟨fun n m H => m = items.length - n ∧ n ≤ items.length ∧ ∃ g' s' acc as zs', LeO g1 g' s1.O.length ∧ s1.O.length ≤ s'.O.length ∧ Rl X.K ({ G with W := W0 }.hide D (.lst acc)) g' (sl.set i .no) s' (σ.set i none) H ∧ Reps X.K g'.S as acc ∧
      compF i mt me (items.drop n) (sl.set i .no) s' = .ok zs' s2 ∧ as ++ zs' = zs, ⟨items.length, by simp, Nat.zero_le _, g1, s1, [], [], zs, .rfl, Nat.le_refl _, Rb, .nil, by simpa using ez, rfl⟩, ?_⟩
    rintro n m H ⟨rfl, hn, g', s', acc, as, zs', l', n', R', ra, ec, ea⟩
    have ex := R'.ex l'.toLe
    by_cases hlt : n < items.length
    · refine .inr ⟨ok.go n g' H hlt ex, fun H => n + 1 ≤ items.length ∧ ∃ g' s' acc as zs', LeO g1 g' s1.O.length ∧ s1.O.length ≤ s'.O.length ∧ Rl X.K ({ G with W := W0 }.hide D (.lst acc)) g' (sl.set i .no) s' (σ.set i none) H ∧ Reps X.K g'.S as acc ∧
        compF i mt me (items.drop (n + 1)) (sl.set i .no) s' = .ok zs' s2 ∧ as ++ zs' = zs, fun H' z => ⟨items.length - (n + 1), by omega, rfl, z.1, z.2⟩, fun x H' y => ?_⟩
      obtain ⟨rfl, y, hy, ry⟩ := ok.yld n g' H x H' hlt ex y
      rw [drop_get hy] at ec
      have Rt : Rl X.K ({ G with W := W0 }.hide D (.lst acc)) g' ((sl.set i .no).set i (Sl.v (.f y))) s' ((σ.set i none).set i (some x)) H' := R'.setV (w := .f y) (Rep.sub l'.sub _ _ ry) rfl o.xs
      refine ⟨by show ((σ.set i none).set i (some x)).set i none = σ.set i none; rw [set_get, set_get], ({ G with W := W0 }.hide D (.lst acc)), o.c, o.l, o.xs, rfl, g', _, s', Rt, ?_⟩
      rcases compF_cons ec with ⟨s3, et, er⟩ | ⟨s3, z, s4, zf, zr, et, ee, ef, er, rfl⟩
      · rw [et]
        intro g2 H2 l2 n2 R2
        refine iteF ⟨hlt, g2, s3, acc, as, zs', l'.trans l2 n', Nat.le_trans n' n2, ?_, Reps.sub l2.sub _ _ ra, er, ea⟩
        have := R2.setNo (i := i) (v := none) o.xs
        rw [set_get, set_get, set_get, show List.set (wipe σ [i]) i none = σ.set i none from set_get] at this
        exact this
      · rw [et]
        intro g2 H2 l2 n2 R2
        refine iteT ⟨({ G with W := W0 }.hide D (.lst acc)), o.c, o.l, o.xs, rfl, g2, _, s3, R2, ?_⟩
        rw [ee]
        intro v g3 H3 l3 n3 R3 r3
        obtain ⟨g4, l4, R4, r4⟩ := R3.freeze r3
        rw [ef] at r4
        have R5 := R4.setNo (i := i) (v := none) o.xs
        rw [set_get, set_get, set_get, show List.set (wipe σ [i]) i none = σ.set i none from set_get] at R5
        obtain ⟨R6, hH, hS, hrc, hro⟩ := R5.bare q0 qS qc
        have l24 := l2.trans (l3.trans l4 n3) n2
        refine ⟨acc, hH, ?_, hlt, g4, s4, acc ++ [v], as ++ [zf], zr, l'.trans l24 n', Nat.le_trans n' (Nat.le_trans n2 n3), R6.watch hS hrc hro q0, (Reps.sub l24.sub _ _ ra).append (.one r4), er, by rw [← ea, List.append_assoc]; rfl⟩
        have : zs.length = as.length + (zr.length + 1) := by rw [← ea, List.length_append, List.length_cons]
        rw [← ra.length]; omega
    · have e9 : n = items.length := by omega
      subst e9
      rw [List.drop_length] at ec
      unfold compF at ec
      cases ec
      rw [List.append_nil] at ea
      subst ea
      obtain ⟨R6, hH, hS, hrc, hro⟩ := R'.bare q0 qS qc
      have R7 := R1.unwipe no l' n' (R6.wish')
      refine .inl ⟨ok.stop g' H ex, h (.ref D) g' H (l1.trans l' n1) (Nat.le_trans n1 n') R7 ⟨D, rfl, hS, hrc, ?_, q0, R6.toRlH.la_ne' hS hrc, ⟨acc, ra, hH⟩, fun fs z => by cases z⟩⟩
      intro j d ej
      have ne : j ≠ i := fun z => by rw [z] at ej; rw [ej] at no; cases no
      exact hro j d (by rw [List.getElem?_set_ne (fun z => ne z.symm)]; exact ej)
theorem de_lc {x : Str} {elt tg iter : Expr} {ifs : List Expr} {scope : Scope} {pos : Pos} {it : MI} {mt me : M} (i : Nat) (o : GOk X C cls G) (hc : X.calm = true) (hN : X.N.Nodup) (hi : DI X G tg iter it) (ok : BlkOk X.N X.env.scope scope [(x, i)])
    (hg : ∀ (s : Shared) (H : Hp) (Ca : Addr) (cl : List (Str × Addr)) (fp : List Addr), PG (X.blk s H scope (compEnvC scope cl Ca X.env) fp) tg (gName i))
    (ht : ∀ (s : Shared) (H : Hp) (Ca : Addr) (cl : List (Str × Addr)) (fp : List Addr), DTs (X.blk s H scope (compEnvC scope cl Ca X.env) fp) C cls ifs mt)
    (he : ∀ (s : Shared) (H : Hp) (Ca : Addr) (cl : List (Str × Addr)) (fp : List Addr) (G : Gc), GOk (X.blk s H scope (compEnvC scope cl Ca X.env) fp) C cls G → DE (X.blk s H scope (compEnvC scope cl Ca X.env) fp) G elt me)
    (hs : ∀ x, foldedSetIterable iter X.env x = pure x := by intro _; rfl) : DE X G (.ListComp elt [⟨tg, iter, ifs, 0⟩] scope pos) (mLc i it mt me) :=
  (pe_lc (tt := tT0 X.K C cls mt) (te := tE0 X.K C cls me) hc hN hi ok hg ht (fun s H Ca cl fp => pe_tE0 (he s H Ca cl fp)) hs).wk fun σ H Q h => lc_go (tg := tg) (iter := iter) o h
end
end Fm

/-! FN: objects change. -/
namespace Fm
open PySem L2
@[simp] def lkd (k : Nat) : List W → Bool
  | [] => false
  | .c j :: r => j == k || lkd k r
  | _ :: r => lkd k r
/-- the object of w has other content -/
@[simp] def poke (w : W) (c : Ct) (sl : List Sl) (s : Sto) : Option (List Sl × Sto) := match w with
  | .o i => match sl[i]? with
    | some (.own _) => some (sl.set i (.own c), s)
    | _ => none
  | .c k => if k < s.O.length && !lkd k s.lk then some (sl, { s with O := s.O.set k c }) else none
  | _ => none
section
variable {K : PySem.W.Frag} {G : Gc} {g g' : Gh} {sl sl' : List Sl} {s s' : Sto} {σ : St} {H H' : Hp} {n m : Nat} {C a p : Addr} {c c' : Ct} {u : HO} {i k : Nat} {w : W} {v : V}
theorem Rl.la_own (R : Rl K G g sl s σ H) (e : sl[i]? = some (.own c)) : ∀ x ∈ g.La, x.1 ≠ g.ro i := R.toRlH.la_ne' (R.own i c e).1 (R.own i c e).2.1
/-- what slot i owns changes -/
theorem Rl.pokeO (R : Rl K G g sl s σ H) (e : sl[i]? = some (.own c)) (hc : CelAt K G.C g s.O.length (upd H (g.ro i) u) (g.ro i) c') (hi : ∀ fs, c' ≠ .ins fs) : Rl K G g (sl.set i (.own c')) s σ (upd H (g.ro i) u) := by
  obtain ⟨h1, h2, h3, h4⟩ := R.own i c e
  have lt := (List.getElem?_eq_some_iff.mp e).1
  have dn : ∀ a, G.H0 a ≠ none → a ≠ g.ro i := fun a h z => by rw [z, R.newO i c e] at h; exact h rfl
  refine { toRlH := R.toRlH.free h1 h2, len := by simpa using R.len, sok := fun j w q => ?_, exs := R.exs, val := fun j w q => ?_, own := fun j d q => ?_, oni := fun j fs q => ?_, oin := fun j k d d' q q' => ?_, frm := fun a w f => ?_, newS := R.newS, newC := R.newC, oldC := R.oldC, n0le := R.n0le, newO := fun j d q => ?_, dom := fun a h => ?_, subS := R.subS }
  · rcases slv q with ⟨_, _, z⟩ | ⟨_, z⟩
    · cases z
    · exact R.sok j w z
  · rcases slv q with ⟨_, _, z⟩ | ⟨_, z⟩
    · cases z
    · exact R.val j w z
  · rcases slv q with ⟨rfl, _, z⟩ | ⟨ne, z⟩
    · cases z; exact ⟨h1, h2, h3, hc⟩
    · obtain ⟨q1, q2, q3, q4⟩ := R.own j d z
      exact ⟨q1, q2, q3, q4.heap fun w hw => by rw [upd_ne fun t => ne (R.oin j i d c z e t)]; exact hw⟩
  · rcases slv q with ⟨_, _, z⟩ | ⟨_, z⟩
    · exact hi fs (Sl.own.inj z).symm
    · exact R.oni j fs z
  · rcases slv q with ⟨rfl, _, _⟩ | ⟨ne, z⟩
    · rcases slv q' with ⟨rfl, _, _⟩ | ⟨ne', z'⟩
      · intro _; rfl
      · exact R.oin j k c d' e z'
    · rcases slv q' with ⟨rfl, _, _⟩ | ⟨ne', z'⟩
      · exact R.oin j k d c z e
      · exact R.oin j k d d' z z'
  · obtain ⟨q1, q2, q3, q4⟩ := R.frm a w f
    have : a ≠ g.ro i := dn a (by rw [f.1]; simp)
    refine ⟨by rw [upd_ne this]; exact q1, q2, q3, fun j d q => ?_⟩
    rcases slv q with ⟨rfl, _, _⟩ | ⟨ne, z⟩
    · exact this.symm
    · exact q4 j d z
  · rcases slv q with ⟨rfl, _, _⟩ | ⟨ne, z⟩
    · exact R.newO j c e
    · exact R.newO j d z
  · rw [upd_ne (dn a h)]; exact R.dom a h
theorem lkd_mem : ∀ {l : List W}, lkd k l = false → W.c k ∉ l
  | [], _, h => by cases h
  | .c j :: r, e, h => by
    simp only [lkd, Bool.or_eq_false_iff] at e
    rcases List.mem_cons.mp h with h | h
    · cases h; simp at e
    · exact lkd_mem e.2 h
  | .f _ :: r, e, h => by
    rcases List.mem_cons.mp h with h | h
    · cases h
    · exact lkd_mem (l := r) e h
  | .o _ :: r, e, h => by
    rcases List.mem_cons.mp h with h | h
    · cases h
    · exact lkd_mem (l := r) e h
  | .x _ :: r, e, h => by
    rcases List.mem_cons.mp h with h | h
    · cases h
    · exact lkd_mem (l := r) e h
theorem RlH.la_cel (R : RlH K C g s H) (e : s.O[k]? = some c) (hl : lkd k s.lk = false) : ∀ x ∈ g.La, x.1 ≠ g.rc k := fun x hx z => by
  obtain ⟨w, hw, q⟩ := paired_mem R.lkw x hx
  unfold LkW at q
  split at q
  · obtain ⟨q1, _⟩ := q
    rw [z, (R.cel k c e).1] at q1; cases q1
  · rename_i j
    have := R.cin j k q.1 (List.getElem?_eq_some_iff.mp e).1 (q.2.trans z)
    subst this
    exact lkd_mem hl hw
  · exact q
/-- a cell changes -/
theorem Rl.pokeC (R : Rl K G g sl s σ H) (e : s.O[k]? = some c) (hl : lkd k s.lk = false) (hc : CelAt K G.C g s.O.length (upd H (g.rc k) u) (g.rc k) c') : Rl K G g sl { s with O := s.O.set k c' } σ (upd H (g.rc k) u) := by
  obtain ⟨h1, h4⟩ := R.cel k c e
  have lt := (List.getElem?_eq_some_iff.mp e).1
  have la := R.toRlH.la_cel e hl
  have nS : ∀ {a w}, g.S a = some w → a ≠ g.rc k := fun {a w} e z => by rw [z, h1] at e; cases e
  have ln : (s.O.set k c').length = s.O.length := List.length_set
  have hk : ∀ {j : Nat} {d : Ct}, (s.O.set k c')[j]? = some d → (j = k ∧ d = c') ∨ (j ≠ k ∧ s.O[j]? = some d) := fun {j d} q => by
    by_cases z : j = k
    · subst z
      rw [List.getElem?_set_self lt] at q; cases q; exact .inl ⟨rfl, rfl⟩
    · rw [List.getElem?_set_ne (fun t => z t.symm)] at q; exact .inr ⟨z, q⟩
  have hne : ∀ a, H a ≠ none → a = a := fun a _ => rfl
  refine { see := fun a w e => ?_, exa := fun a kvs e hl => by rw [upd_ne (nS e)]; exact R.exa a kvs e hl, cel := fun j d q => ?_, cin := fun j l hj hl => by rw [ln] at hj hl; exact R.cin j l hj hl, lck := fun x hx => by rw [upd_ne (la x hx)]; exact R.lck x hx, lkw := paired_imp R.lkw fun w x z => ?_, lnd := R.lnd, len := R.len, sok := R.sok, exs := R.exs, val := fun j w q => ?_, own := fun j d q => ?_, oni := R.oni, oin := R.oin, frm := fun a w f => ?_, newS := R.newS, newC := fun j a b => R.newC j a (by rw [ln] at b; exact b), oldC := R.oldC, n0le := by rw [ln]; exact R.n0le, newO := R.newO, dom := fun a h => ?_, subS := R.subS }
  · have z := R.see a w e
    have q : upd H (g.rc k) u a = H a := upd_ne (nS e)
    unfold Sees Rd at z ⊢
    rw [q]; exact z
  · rw [ln]
    rcases hk q with ⟨rfl, rfl⟩ | ⟨ne, q⟩
    · exact ⟨h1, hc⟩
    · obtain ⟨q1, q2⟩ := R.cel j d q
      exact ⟨q1, q2.heap fun w hw => by rw [upd_ne fun t => ne (R.cin j k (List.getElem?_eq_some_iff.mp q).1 lt t)]; exact hw⟩
  · rw [ln]; exact z
  · rw [ln]; exact R.val j w q
  · rw [ln]
    obtain ⟨q1, q2, q3, q4⟩ := R.own j d q
    exact ⟨q1, q2, q3, q4.heap fun w hw => by rw [upd_ne fun t => q2 k lt t.symm]; exact hw⟩
  · obtain ⟨q1, q2, q3, q4⟩ := R.frm a w f
    exact ⟨by rw [upd_ne (q3 k lt).symm]; exact q1, q2, fun j hj => q3 j (by rw [ln] at hj; exact hj), q4⟩
  · by_cases z : a = g.rc k
    · subst z; rw [upd_same]; simp
    · rw [upd_ne z]; exact R.dom a h
/-- .. of a value -/
theorem Rl.poke_lst {xs xs' : List F} {vs' : List V} (R : Rl K G g sl s σ H) (r : RepW K g s.O.length w v) (e : pk sl s w = some (.lst xs)) (h : poke w (.lst xs') sl s = some (sl', s')) (r' : Reps K g.S xs' vs') : ∃ a vs, v = .ref a ∧ H a = some (.lst vs) ∧ Reps K g.S xs vs ∧ Rl K G g sl' s' σ (upd H a (.lst vs')) ∧ s'.O.length = s.O.length := by
  obtain ⟨a, vs, rfl, ha, hr⟩ := R.peek r e
  cases w with
  | f y => cases h
  | x y => cases h
  | o i =>
    simp only [poke] at h
    split at h
    · rename_i d ed
      cases h
      cases (show V.ref a = .ref (g.ro i) from r)
      exact ⟨_, vs, rfl, ha, hr, R.pokeO ed ⟨vs', r', upd_same⟩ (fun fs z => by cases z), rfl⟩
    · cases h
  | c k =>
    simp only [poke] at h
    split at h
    · rename_i hh
      cases h
      simp only [Bool.and_eq_true, decide_eq_true_eq, Bool.not_eq_true'] at hh
      cases (show V.ref a = .ref (g.rc k) from r.2)
      exact ⟨_, vs, rfl, ha, hr, R.pokeC (List.getElem?_eq_getElem hh.1) hh.2 ⟨vs', r', upd_same⟩, List.length_set⟩
    · cases h
theorem Rl.poke_dct {xs xs' : List (Key × F)} {vs' : List (Key × V)} (R : Rl K G g sl s σ H) (r : RepW K g s.O.length w v) (e : pk sl s w = some (.dct xs)) (h : poke w (.dct xs') sl s = some (sl', s')) (r' : RepK K g.S xs' vs') : ∃ a, v = .ref a ∧ Rl K G g sl' s' σ (upd H a (.dK vs')) ∧ s'.O.length = s.O.length := by
  cases w with
  | f y => cases h
  | x y => cases h
  | o i =>
    simp only [poke] at h
    split at h
    · rename_i d ed
      cases h
      exact ⟨_, r, R.pokeO ed ⟨vs', r', .inl upd_same⟩ (fun fs z => by cases z), rfl⟩
    · cases h
  | c k =>
    simp only [poke] at h
    split at h
    · rename_i hh
      cases h
      simp only [Bool.and_eq_true, decide_eq_true_eq, Bool.not_eq_true'] at hh
      exact ⟨_, r.2, R.pokeC (List.getElem?_eq_getElem hh.1) hh.2 ⟨vs', r', .inl upd_same⟩, List.length_set⟩
    · cases h
/-- a dict that may change is not locked -/
theorem Rl.plain_dct {xs : List (Key × F)} {c' : Ct} (R : Rl K G g sl s σ H) (r : RepW K g s.O.length w v) (e : pk sl s w = some (.dct xs)) (h : poke w c' sl s = some (sl', s')) : ∃ a vs, v = .ref a ∧ H a = some (.dK vs) ∧ RepK K g.S xs vs := by
  cases w with
  | f y => cases h
  | x y => cases h
  | o i =>
    simp only [pk] at e
    split at e
    · cases e
    · rename_i d ed
      cases e
      obtain ⟨_, _, _, vs, hr, hd | ⟨od, hd⟩⟩ := R.own i _ ed
      · exact ⟨_, vs, r, hd, hr⟩
      · exact absurd rfl (R.la_own ed _ hd)
    · cases e
  | c k =>
    simp only [poke] at h
    split at h
    · rename_i hh
      simp only [Bool.and_eq_true, decide_eq_true_eq, Bool.not_eq_true'] at hh
      simp only [pk] at e
      split at e
      · cases e
      · rename_i d ed
        cases e
        obtain ⟨_, vs, hr, hd | ⟨od, hd⟩⟩ := R.cel k _ ed
        · exact ⟨_, vs, r.2, hd, hr⟩
        · exact absurd rfl (R.toRlH.la_cel ed hh.2 _ hd)
      · cases e
    · cases h
end
/-! ### statements that change an object -/
@[simp] def nxP : Option (List Sl × Sto) → RS
  | some (sl, s) => .nx sl s
  | none => .bad
/-- a value, then more of the statement -/
@[simp] def sW (m : M) (k : W → MS) : MS := fun sl s => (m sl s).st sl fun y s1 => k (frz y) sl s1
@[simp] def putL (wo wi wv : W) : MS := fun sl s => match wv, wi, pk sl s wo with
  | .f x, .f (.int i), some (.lst xs) => match ixN xs.length i with
    | some j => nxP (poke wo (.lst (xs.set j x)) sl s)
    | none => .bad
  | _, _, _ => .bad
/-- o[i] = v, o a list -/
@[simp] def sPutL (mo mi mv : M) : MS := fun sl s => (sW mv fun wv => sW mo fun wo => sW mi fun wi => putL wo wi wv) sl s
@[simp] def putD (wo wi wv : W) : MS := fun sl s => match wv, wi, pk sl s wo with
  | .f x, .f y, some (.dct kvs) => match kOf y with
    | some k => if kvs.length < sizeLine then nxP (poke wo (.dct (pK kvs k x)) sl s) else .bad
    | none => .bad
  | _, _, _ => .bad
/-- o[i] = v, o a dict -/
@[simp] def sPutD (mo mi mv : M) : MS := fun sl s => (sW mv fun wv => sW mo fun wo => sW mi fun wi => putD wo wi wv) sl s
@[simp] def chkL (w : W) (m : MS) : MS := fun sl s => match pk sl s w with
  | some (.lst _) => m sl s
  | _ => .bad
@[simp] def chkD (w : W) (m : MS) : MS := fun sl s => match pk sl s w with
  | some (.dct _) => m sl s
  | _ => .bad
@[simp] def appL (wo we : W) : MS := fun sl s => match we, pk sl s wo with
  | .f x, some (.lst xs) => if xs.length < sizeLine then nxP (poke wo (.lst (xs ++ [x])) sl s) else .bad
  | _, _ => .bad
/-- o.append(e) -/
@[simp] def sAppL (mo me : M) : MS := fun sl s => (sW mo fun wo => chkL wo (sW me fun we => appL wo we)) sl s
@[simp] def popD (wo wk : W) : MS := fun sl s => match wk, pk sl s wo with
  | .f y, some (.dct kvs) => match kOf y with
    | some k => if (vK kvs k).isSome then nxP (poke wo (.dct (dK kvs k)) sl s) else .bad
    | none => .bad
  | _, _ => .bad
/-- o.pop(k) -/
@[simp] def sPopD (mo mk : M) : MS := fun sl s => (sW mo fun wo => chkD wo (sW mk fun wk => popD wo wk)) sl s
/-- o.clear(), a dict; a list -/
@[simp] def sClrD (mo : M) : MS := fun sl s => sW mo (fun wo sl s => match pk sl s wo with
  | some (.dct _) => nxP (poke wo (.dct []) sl s)
  | _ => .bad) sl s
@[simp] def sClrL (mo : M) : MS := fun sl s => sW mo (fun wo sl s => match pk sl s wo with
  | some (.lst _) => nxP (poke wo (.lst []) sl s)
  | _ => .bad) sl s
section
variable {K : PySem.W.Frag} {G : Gc} {g : Gh} {sl : List Sl} {s : Sto} {σ : St} {H : Hp} {D : Ends} {w : W} {v : V}
theorem tD.sw {m : M} {k : W → MS} (R : Rl K G g sl s σ H) (h : OkS K G g s D (sW m k sl s)) {P : VK}
    (hk : ∀ v w g' s' H', LeO g g' s.O.length → s.O.length ≤ s'.O.length → Rl K G g' sl s' σ H' → RepW K g' s'.O.length w v → OkS K G g' s' D (k w sl s') → P v H') : tD K G m σ H P :=
  tD.st R h fun v y g1 s1 H1 l1 n1 R1 r1 h1 => by
    obtain ⟨g2, l2, R2, r2⟩ := R1.freeze r1
    exact hk v (frz y) g2 s1 H1 (l1.trans l2 n1) n1 R2 r2 (OkS.back h1 l2.toLe (Nat.le_refl _))
theorem okS_poke {c : Ct} {P : Hp → Prop} {H' : Hp} (h : OkS K G g s D (nxP (poke w c sl s))) (k : ∀ sl' s', poke w c sl s = some (sl', s') → Rl K G g sl' s' σ H' ∧ s'.O.length = s.O.length) : D.nx σ H' := by
  cases e : poke w c sl s with
  | none => rw [e] at h; exact h.elim
  | some p =>
    obtain ⟨sl', s'⟩ := p
    rw [e] at h
    obtain ⟨R, hl⟩ := k sl' s' e
    exact h g σ H' .rfl (Nat.le_of_eq hl.symm) R
theorem nx_some {c : Ct} (h : OkS K G g s D (nxP (poke w c sl s))) : ∃ sl' s', poke w c sl s = some (sl', s') := by
  cases e : poke w c sl s with
  | none => rw [e] at h; exact h.elim
  | some p => exact ⟨_, _, rfl⟩
end
section
variable {X : Cx} {G : Gc} {o i e : Expr} {mo mi me : M} {pos p2 apos cpos : Pos}
theorem ds_putL (ho : DE X G o mo) (hi : DE X G i mi) (he : DE X G e me)
    (ha : ∀ v, assign (.Subscript o i p2) X.env v = (do
      let ov ← holding [v] (eval o X.env)
      let iv ← holding [v, ov] (eval i X.env)
      standAt p2
      holding [v, ov, iv] (setItem ov iv v)
      release [v, ov, iv] []) := by intro _; rfl)
    (hs : swapsWithSole [.Subscript o i p2] e pos.line X.env = pure false := by rfl) (hw : swappedStores [.Subscript o i p2] e X.env = pure none := by rfl)
    (h1 : (assignEach [.Subscript o i p2] X.env).map (·.2) = [assign (.Subscript o i p2) X.env] := by rfl) : DS X G (.Assign [.Subscript o i p2] e pos) (sPutL mo mi me) :=
  (ps_asg he (pg_sub ho hi set_list ha) hs hw h1).wk fun D σ H ⟨g, sl, s, R, h⟩ => tD.sw R h fun v wv g1 s1 H1 l1 n1 R1 r1 h1 => tD.sw R1 h1 fun ov wo g2 s2 H2 l2 n2 R2 r2 h2 => tD.sw R2 h2 fun iv wi g3 s3 H3 l3 n3 R3 r3 h3 => by
    simp only [putL] at h3
    split at h3
    · rename_i x i xs e1
      split at h3
      · rename_i j ej
        obtain ⟨sl', s', ep⟩ := nx_some h3
        have rv := (r1.le l2 n2).le l3 n3
        have ro := r2.le l3 n3
        obtain ⟨a, vs, rfl, ha, hr⟩ := R3.peek ro e1
        obtain ⟨a', vs', ea, ha', _, R4, hl⟩ := R3.poke_lst ro e1 ep (Reps.set (v := v) rv j hr)
        cases ea
        rw [ha] at ha'; cases ha'
        rw [ep] at h3
        refine ⟨a, vs, i, j, rfl, int_of r3, ha, by rw [← hr.length]; exact ej, ?_⟩
        exact h3 g3 σ _ .rfl (Nat.le_of_eq hl.symm) R4
      · exact h3.elim
    · exact h3.elim
theorem ds_putD (hu : X.A.units + 1 < cLine) (ho : DE X G o mo) (hi : DE X G i mi) (he : DE X G e me) (hs : swapsWith e (some (.Subscript o i p2)) pos.line X.env = pure false := by rfl) : DS X G (.Assign [.Subscript o i p2] e pos) (sPutD mo mi me) :=
  (ps_dput hu ho hi he hs).wk fun D σ H ⟨g, sl, s, R, h⟩ => tD.sw R h fun v wv g1 s1 H1 l1 n1 R1 r1 h1 => tD.sw R1 h1 fun ov wo g2 s2 H2 l2 n2 R2 r2 h2 => tD.sw R2 h2 fun iv wi g3 s3 H3 l3 n3 R3 r3 h3 => by
    simp only [putD] at h3
    split at h3
    · rename_i x y kvs e1
      split at h3
      · rename_i k ek
        split at h3
        · rename_i hz
          obtain ⟨sl', s', ep⟩ := nx_some h3
          have rv : RepW X.K g3 s3.O.length (.f x) v := (r1.le l2 n2).le l3 n3
          have ro := r2.le l3 n3
          obtain ⟨a, vs, rfl, ha, hr⟩ := R3.plain_dct ro e1 ep
          obtain ⟨a', ea, R4, hl⟩ := R3.poke_dct ro e1 ep (RepK.put k rv hr)
          cases ea
          rw [ep] at h3
          have ey := kOf_rep' ek (S := g3.S) (K := X.K) r3
          exact ⟨a, _, rfl, .inl ⟨vs, k, ha, ey, by rw [← hr.length]; exact hz, rfl⟩, h3 g3 σ _ .rfl (Nat.le_of_eq hl.symm) R4⟩
        · exact h3.elim
      · exact h3.elim
    · exact h3.elim
theorem ds_appL (ho : DE X G o mo) (he : DE X G e me) (hbase : attributeBase o "append" X.env (eval o X.env) = eval o X.env := by rfl)
    (hfew : ((backTo cpos (starEach [e] X.env)).all (fun x => !x.1) && (backToKw cpos (keywordEach [] X.env)).all (fun x => x.1.isSome)
      && decide (([e] : List Expr).length + ([] : List Keyword).length + (if ([] : List Keyword).isEmpty then 0 else 1) < 30)) = true := by rfl)
    (hline : (apos.endLine == cpos.line) = true := by rfl) (hs : starEach [e] X.env = (false, eval e X.env) :: starEach [] X.env := by rfl) (hsw : swapsWith (.Call (.Attribute o "append" apos) [e] [] cpos) none pos.line X.env = pure false := by rfl) :
    DS X G (.Expr (.Call (.Attribute o "append" apos) [e] [] cpos) pos) (sAppL mo me) :=
  (ps_expr (pe_bm PySem.F.plainAttrs_list PySem.F.slot_list_append PySem.F.type_list_append mt_append ho (pa_cons he pa_nil hs) hbase hfew hline hs rfl) hsw).wk fun D σ H ⟨g, sl, s, R, h⟩ => tD.sw R h fun v wo g1 s1 H1 l1 n1 R1 r1 h1 => by
    simp only [chkL] at h1
    split at h1
    · rename_i xs0 e0
      obtain ⟨a, vs0, rfl, ha0, _⟩ := R1.peek r1 e0
      refine ⟨.inl ⟨rfl, _, .of ha0⟩, tD.sw R1 h1 fun u we g2 s2 H2 l2 n2 R2 r2 h2 => ?_⟩
      simp only [appL] at h2
      split at h2
      · rename_i x xs e1
        split at h2
        · rename_i hz
          obtain ⟨sl', s', ep⟩ := nx_some h2
          have ro := r1.le l2 n2
          obtain ⟨a', vs, ea, ha, hr⟩ := R2.peek ro e1
          cases ea
          obtain ⟨a', vs', ea, ha', _, R4, hl⟩ := R2.poke_lst ro e1 ep (Reps.append hr (.one r2))
          cases ea
          rw [ep] at h2
          exact ⟨a, vs, u, rfl, rfl, ha, by rw [← hr.length]; exact hz, h2 g2 σ _ .rfl (Nat.le_of_eq hl.symm) R4⟩
        · exact h2.elim
      · exact h2.elim
    · exact h1.elim
theorem ds_popD {k : Expr} {mk : M} (ho : DE X G o mo) (he : DE X G k mk) (m : M1 X o "pop" apos k cpos) (hsw : swapsWith (.Call (.Attribute o "pop" apos) [k] [] cpos) none pos.line X.env = pure false := by rfl) :
    DS X G (.Expr (.Call (.Attribute o "pop" apos) [k] [] cpos) pos) (sPopD mo mk) :=
  (ps_expr (pe_dpop1 ho he m) hsw).wk fun D σ H ⟨g, sl, s, R, h⟩ => tD.sw R h fun v wo g1 s1 H1 l1 n1 R1 r1 h1 => by
    simp only [chkD] at h1
    split at h1
    · rename_i xs0 e0
      obtain ⟨a, vs0, rfl, ha0, _⟩ := R1.peek r1 e0
      refine ⟨a, rfl, .inl ⟨_, ha0⟩, tD.sw R1 h1 fun u wk g2 s2 H2 l2 n2 R2 r2 h2 => ?_⟩
      simp only [popD] at h2
      split at h2
      · rename_i y kvs e1
        split at h2
        · rename_i k ek
          split at h2
          · rename_i hz
            obtain ⟨sl', s', ep⟩ := nx_some h2
            have ro := r1.le l2 n2
            obtain ⟨a', vs, ea, ha, hr⟩ := R2.plain_dct ro e1 ep
            cases ea
            obtain ⟨a', ea, R4, hl⟩ := R2.poke_dct ro e1 ep (RepK.drp k hr)
            cases ea
            rw [ep] at h2
            rw [hr.isS] at hz
            obtain ⟨z, hz⟩ := Option.isSome_iff_exists.mp hz
            exact ⟨vs, k, z, ha, kOf_rep' ek (S := g2.S) (K := X.K) r2, hz, h2 g2 σ _ .rfl (Nat.le_of_eq hl.symm) R4⟩
          · exact h2.elim
        · exact h2.elim
      · exact h2.elim
    · exact h1.elim
theorem ds_clrD (ho : DE X G o mo) (hbase : attributeBase o "clear" X.env (eval o X.env) = eval o X.env := by rfl) (hline : (apos.endLine == cpos.line) = true := by rfl) (hsw : swapsWith (.Call (.Attribute o "clear" apos) [] [] cpos) none pos.line X.env = pure false := by rfl) :
    DS X G (.Expr (.Call (.Attribute o "clear" apos) [] [] cpos) pos) (sClrD mo) :=
  (ps_expr (pe_dclear ho hbase hline) hsw).wk fun D σ H ⟨g, sl, s, R, h⟩ => tD.sw R h fun v wo g1 s1 H1 l1 n1 R1 r1 h1 => by
    split at h1
    · rename_i xs0 e0
      obtain ⟨sl', s', ep⟩ := nx_some h1
      obtain ⟨a, vs, rfl, ha, hr⟩ := R1.plain_dct r1 e0 ep
      obtain ⟨a', ea, R4, hl⟩ := R1.poke_dct r1 e0 ep .nil
      cases ea
      rw [ep] at h1
      exact ⟨.inr (.inr (.inl ⟨rfl, .inl ⟨_, ha⟩⟩)), a, vs, rfl, rfl, ha, h1 g1 σ _ .rfl (Nat.le_of_eq hl.symm) R4⟩
    · exact h1.elim
theorem ds_clrL (ho : DE X G o mo) (hbase : attributeBase o "clear" X.env (eval o X.env) = eval o X.env := by rfl) (hline : (apos.endLine == cpos.line) = true := by rfl) (hsw : swapsWith (.Call (.Attribute o "clear" apos) [] [] cpos) none pos.line X.env = pure false := by rfl) :
    DS X G (.Expr (.Call (.Attribute o "clear" apos) [] [] cpos) pos) (sClrL mo) :=
  (ps_expr (pe_bm0 PySem.F.plainAttrs_list PySem.F.slot_list_clear PySem.F.type_list_clear mt_clear ho hbase hline) hsw).wk fun D σ H ⟨g, sl, s, R, h⟩ => tD.sw R h fun v wo g1 s1 H1 l1 n1 R1 r1 h1 => by
    split at h1
    · rename_i xs0 e0
      obtain ⟨sl', s', ep⟩ := nx_some h1
      obtain ⟨a', vs', rfl, ha', _, R4, hl⟩ := R1.poke_lst r1 e0 ep .nil
      rw [ep] at h1
      exact ⟨.inl ⟨rfl, _, .of ha'⟩, a', vs', rfl, rfl, ha', h1 g1 σ _ .rfl (Nat.le_of_eq hl.symm) R4⟩
    · exact h1.elim
end
end Fm

/-! FO: the derivations' frame; the end. -/
namespace Fm
open PySem L2
section
variable {X : Cx} {G : Gc} {C : Addr} {cls : Str → Addr} {k : Nat} {f : Addr} {ps : List Str} {psi : Psi} {x m : Str} {p pos apos : Pos} {e o : Expr} {es : List Expr} {ma : MA} {mo : M}
theorem xe_call (k : Nat) {k0 : Nat} (r : GOk X C cls G) (D : Dfn X.prog X.w X.K X.mg X.base C cls k f ps psi) (hr : Room k0 X.A) (hk0 : k ≤ k0) (hg : Gl X x) (hm : X.mg x = some (.ref f)) (hk : PySem.W.keepIn X.K (.ref f) = true) (hl : (e :: es).length = ps.length) (ha : DA X G (e :: es) ma)
    (hdb : (x == ("__debug__" : Str)) = false := by decide) (he : starEach (e :: es) X.env = (false, eval e X.env) :: starEach es X.env := by rfl) (hpl : (backTo pos (starEach es X.env)).any (·.1) = false := by rfl) (hla : LA ma ps.length := by repeat (first | exact la_nil | refine la_cons ?_)) : DE X G (.Call (.Name x p) (e :: es) [] pos) (mCall psi ma) := by
  obtain ⟨rfl, rfl, _, tk⟩ := r
  exact de_call D (hr.mono hk0) tk hg hm hk hl ha hdb he hpl hla
theorem xe_call0 (k : Nat) {k0 : Nat} (r : GOk X C cls G) (D : Dfn X.prog X.w X.K X.mg X.base C cls k f ps psi) (hr : Room k0 X.A) (hk0 : k ≤ k0) (hg : Gl X x) (hm : X.mg x = some (.ref f)) (hk : PySem.W.keepIn X.K (.ref f) = true) (hl : 0 = ps.length)
    (hdb : (x == ("__debug__" : Str)) = false := by decide) : DE X G (.Call (.Name x p) [] [] pos) (mCall psi aNil) := by
  obtain ⟨rfl, rfl, _, tk⟩ := r
  exact de_call0 D (hr.mono hk0) tk hg hm hk hl hdb
end
/-- a def's body, read -/
def BodyK (P : Program) (w : World) (K : PySem.W.Frag) (mg : Str → Option Value) (base : Heap) (C : Addr) (cls : Str → Addr) (k : Nat) (f : Addr) (N : List Str) (qual : Str) (st : Stmt) (body : MS) : Prop :=
  ∀ (cdv : Value) (A : Around) (outer : List Env) (s : Shared) (H : Hp) (E : XK) (G : Gc), GOk (cxOf (L2.CX P w) P w K mg base N qual (defScope st) f cdv A outer s H E) C cls G → Room k (A.deeper (PyProof.Rows.envOfC qual (defScope st) s.heap.objs.size f cdv)) →
    PassesOwn (model P w) (A.deeper (PyProof.Rows.envOfC qual (defScope st) s.heap.objs.size f cdv)) (PyProof.Rows.envOfC qual (defScope st) s.heap.objs.size f cdv) (cxOf (L2.CX P w) P w K mg base N qual (defScope st) f cdv A outer s H E).xe →
    DSs (cxOf (L2.CX P w) P w K mg base N qual (defScope st) f cdv A outer s H E) G (defBody st) body
section
variable {P : Program} {w : World} {K : PySem.W.Frag} {mg : Str → Option Value} {base : Heap} {C f : Addr} {cls : Str → Addr} {k : Nat} {x qual : Str} {st : Stmt} {N ps : List Str} {body : MS} {fd : FuncData}
theorem BodyK.ok (B : BodyK P w K mg base C cls k f N qual st body) : BodyOk P w K mg base C cls k f N qual st body := fun cdv A outer s H E G h1 h2 h3 hr tk hp => B cdv A outer s H E G ⟨h1, h2, h3, tk⟩ hr hp
theorem fnA (F : Fun K x qual st f fd) (S : FnScope N ps (defScope st)) (B : BodyK P w K mg base C cls k f N qual st body) : FnOk P w K mg base (L2.CX P w) (k + 1) f fd ps (spD K C cls ps.length (runA N.length body)) := fn_okA0 F S B.ok
theorem dfnA (F : Fun K x qual st f fd) (S : FnScope N ps (defScope st)) (hb : Binds K fd ps []) (B : BodyK P w K mg base C cls k f N qual st body) : Dfn P w K mg base C cls (k + 1) f ps (runA N.length body) := fn_okA F S hb B.ok
theorem dfnB (F : Fun K x qual st f fd) (S : FnScope N ps (defScope st)) (hb : Binds K fd ps []) (B : BodyK P w K mg base C cls k f N qual st body) : Dfn P w K mg base C cls (k + 1) f ps (runB N.length body) := fn_okB F S hb B.ok
end
/-- the script at the start -/
theorem law_start {K : PySem.W.Frag} {C : Addr} {cls : Str → Addr} {psi : Psi} {H : Hp} {a : Addr} {ns : List Int} {s' : Sto} (hS : SqL K H a (ns.map V.int)) (h : psi [.f (.scr ns)] ⟨[], []⟩ = .ok (.w (.f (.bl true))) s') :
    spD K C cls 1 psi [.ref a] H (fun v _ => v = .bl true) fun _ _ _ => False := by
  have go : ∀ S : Hp, Lk S H → (∀ b kvs, S b ≠ some (.dK kvs)) → SqL K S a (ns.map V.int) → spD K C cls 1 psi [.ref a] H (fun v _ => v = .bl true) fun _ _ _ => False := fun S lk nd sq => by
    refine ⟨⟨S, fun _ => 0, fun _ => 0, []⟩, ⟨[], []⟩, [.f (.scr ns)], rfl, ⟨lk, fun b kvs e => absurd e (nd b kvs), fun k c e => (by simp at e), fun j k hj => (by cases hj), fun x hx => (by cases hx), .nil, .nil⟩, .cons ?_ .nil, rfl, ?_⟩
    · show Rep K S (.scr ns) (.ref a)
      simp only [Rep]
      exact ⟨a, rfl, sq⟩
    · rw [h]
      intro v g' H' _ r
      have r : Rep K g'.S (.bl true) v := r
      simp only [Rep] at r
      exact r
  have one : ∀ u, H a = some u → Sees H a u → Lk (fun b => if b = a then some u else none) H := fun u hu z b w e => by
    by_cases q : b = a
    · subst q
      have e : (if b = b then some u else none) = some w := e
      rw [if_pos rfl] at e; cases e; exact z
    · have e : (if b = a then some u else none) = some w := e
      rw [if_neg q] at e; cases e
  rcases hS with (hS | ⟨o, hS⟩) | hS
  · exact go _ (one _ hS hS) (fun b kvs e => by have e : (if b = a then _ else _) = _ := e; split at e <;> cases e) (.inl (.inl (if_pos rfl)))
  · exact go _ (one _ hS hS) (fun b kvs e => by have e : (if b = a then _ else _) = _ := e; split at e <;> cases e) (.inl (.inr ⟨o, if_pos rfl⟩))
  · exact go (fun _ => none) (fun b u e => by cases e) (fun b kvs e => by cases e) (.inr hS)
/-- no error comes out of law -/
theorem cx_no {P : Program} {w : World} {H : Hp} {s : Shared} {e : Value} {s' : Shared} (h : L2.CX P w [] H s (fun _ _ _ => False) e s') : False := by
  obtain ⟨_, _, _, _, _, _, _, _, _, _, _, _, z⟩ := h
  exact z
theorem walk_law {l : PySem.W.OpenLaw} {q : Program} {loose : List Str} {XP : (Str → Option Value) → Heap → Prop} {YP : World → Heap → Prop} {d : DefRec} {K : Params → PySem.W.Frag} {psi : Psi} {x : Str} {k : Nat} (hk : Room k callerA) (hn : l.most = some 63) (hdf : d.params.defaults = [])
    (hY : ∀ (w : World) (h : Heap), YP w h → (K w.params).In h) (hlaw : ∀ ns : List Int, ns.length ≤ 63 → ∃ s', psi [.f (.scr ns)] ⟨[], []⟩ = .ok (.w (.f (.bl true))) s')
    {Cc : World → Addr} {cls : World → Str → Addr}
    (F : ∀ (w : World) (mg : Str → Option Value) (fa : Addr) (h : Heap), (K w.params).In h → h.Ns mainGlobals mg → mg d.name = some (.ref fa) →
      ∃ fd : FuncData, (∀ (s : Shared) (u : Value), BindsTo s fd ⟨[u], []⟩ [(x, u)]) ∧ ∀ base : Heap, (K w.params).In base → base.Ns mainGlobals mg → FnOk l.prog w (K w.params) mg base (L2.CX l.prog w) k fa fd [x] (spD (K w.params) (Cc w) (cls w) 1 psi)) :
    PySem.W.WalkO q loose XP YP l.row.toRowW d [] (fun f vs => PySem.call f vs) :=
  L2.walk_of (n := 63) (k := k) (x := x) (CX := fun w => L2.CX l.prog w) (sp := fun w => spD (K w.params) (Cc w) (cls w) 1 psi) hn (by decide) hdf hk hY F (fun _ _ a ns hl _ hS => let ⟨_, h⟩ := hlaw ns hl; law_start hS h) fun _ _ _ _ _ z => cx_no z
end Fm

/-! FP: y = [.. for ..]. -/
namespace Fm
open PySem L2
section
variable {X : Cx} {G : Gc} {C : Addr} {cls : Str → Addr} {x y : Str} {py : Pos} {elt tg iter : Expr} {ifs : List Expr} {scope : Scope} {pos spos : Pos} {it : MI} {mt me : M}
theorem ds_lcAny {ms : MS} (j i : Nat) (r : GOk X C cls G) (hc : X.calm = true) (hN : X.N.Nodup) (hy : X.N[j]? = some y) (hyl : X.env.scope.names.lookup y = some .local)
    (hsw : swapsWith (.ListComp elt [⟨tg, iter, ifs, 0⟩] scope pos) (some (.Name y py)) spos.line X.env = pure true) (hi : DI X G tg iter it) (ok : BlkOk X.N X.env.scope scope [(x, i)])
    (hg : ∀ (s : Shared) (H : Hp) (Ca : Addr) (cl : List (Str × Addr)) (fp : List Addr), PG (X.blk s H scope (compEnvC scope cl Ca X.env) fp) tg (gName i))
    (ht : ∀ (s : Shared) (H : Hp) (Ca : Addr) (cl : List (Str × Addr)) (fp : List Addr), DTs (X.blk s H scope (compEnvC scope cl Ca X.env) fp) C cls ifs mt)
    (he : ∀ (s : Shared) (H : Hp) (Ca : Addr) (cl : List (Str × Addr)) (fp : List Addr) (G : Gc), GOk (X.blk s H scope (compEnvC scope cl Ca X.env) fp) C cls G → DE (X.blk s H scope (compEnvC scope cl Ca X.env) fp) G elt me)
    (hs : ∀ x, foldedSetIterable iter X.env x = pure x)
    (k : ∀ D σ H, tDS X.K G ms D σ H → tD X.K G (mLc i it mt me) σ H fun v H1 => gName j v σ H1 D.nx) : DS X G (.Assign [.Name y py] (.ListComp elt [⟨tg, iter, ifs, 0⟩] scope pos) spos) ms :=
  (ps_setLc (own := [(x, i)]) (tt := tT0 X.K C cls mt) (te := tE0 X.K C cls me) hc hN hy hyl hsw hi ok hg ht (fun s H Ca cl fp => pe_tE0 (he s H Ca cl fp)) hs).wk fun D σ H h => lc_go (tg := tg) (iter := iter) r (k D σ H h)
theorem ds_setLc (j i : Nat) (r : GOk X C cls G) (hc : X.calm = true) (hN : X.N.Nodup) (hy : X.N[j]? = some y) (hyl : X.env.scope.names.lookup y = some .local)
    (hsw : swapsWith (.ListComp elt [⟨tg, iter, ifs, 0⟩] scope pos) (some (.Name y py)) spos.line X.env = pure true) (hi : DI X G tg iter it) (ok : BlkOk X.N X.env.scope scope [(x, i)])
    (hg : ∀ (s : Shared) (H : Hp) (Ca : Addr) (cl : List (Str × Addr)) (fp : List Addr), PG (X.blk s H scope (compEnvC scope cl Ca X.env) fp) tg (gName i))
    (ht : ∀ (s : Shared) (H : Hp) (Ca : Addr) (cl : List (Str × Addr)) (fp : List Addr), DTs (X.blk s H scope (compEnvC scope cl Ca X.env) fp) C cls ifs mt)
    (he : ∀ (s : Shared) (H : Hp) (Ca : Addr) (cl : List (Str × Addr)) (fp : List Addr) (G : Gc), GOk (X.blk s H scope (compEnvC scope cl Ca X.env) fp) C cls G → DE (X.blk s H scope (compEnvC scope cl Ca X.env) fp) G elt me)
    (hs : ∀ x, foldedSetIterable iter X.env x = pure x := by intro _; rfl) : DS X G (.Assign [.Name y py] (.ListComp elt [⟨tg, iter, ifs, 0⟩] scope pos) spos) (sSet j (mLc i it mt me)) :=
  ds_lcAny j i r hc hN hy hyl hsw hi ok hg ht he hs fun D σ H ⟨g, sl, s, R, h⟩ => tD.st R h fun v y g1 s1 H1 l1 n1 R1 r1 h1 => by
    obtain ⟨g2, l2, R2, r2⟩ := R1.freeze r1
    split at h1
    · rename_i hw
      exact h1 g2 _ H1 l2.toLe (Nat.le_refl _) (R2.setV r2 hw r.xs)
    · exact h1.elim
theorem ds_ownLc (j i : Nat) (r : GOk X C cls G) (hc : X.calm = true) (hN : X.N.Nodup) (hy : X.N[j]? = some y) (hyl : X.env.scope.names.lookup y = some .local)
    (hsw : swapsWith (.ListComp elt [⟨tg, iter, ifs, 0⟩] scope pos) (some (.Name y py)) spos.line X.env = pure true) (hi : DI X G tg iter it) (ok : BlkOk X.N X.env.scope scope [(x, i)])
    (hg : ∀ (s : Shared) (H : Hp) (Ca : Addr) (cl : List (Str × Addr)) (fp : List Addr), PG (X.blk s H scope (compEnvC scope cl Ca X.env) fp) tg (gName i))
    (ht : ∀ (s : Shared) (H : Hp) (Ca : Addr) (cl : List (Str × Addr)) (fp : List Addr), DTs (X.blk s H scope (compEnvC scope cl Ca X.env) fp) C cls ifs mt)
    (he : ∀ (s : Shared) (H : Hp) (Ca : Addr) (cl : List (Str × Addr)) (fp : List Addr) (G : Gc), GOk (X.blk s H scope (compEnvC scope cl Ca X.env) fp) C cls G → DE (X.blk s H scope (compEnvC scope cl Ca X.env) fp) G elt me)
    (hs : ∀ x, foldedSetIterable iter X.env x = pure x := by intro _; rfl) : DS X G (.Assign [.Name y py] (.ListComp elt [⟨tg, iter, ifs, 0⟩] scope pos) spos) (sOwn j (mLc i it mt me)) :=
  ds_lcAny j i r hc hN hy hyl hsw hi ok hg ht he hs fun D σ H ⟨g, sl, s, R, h⟩ => tD.st R h fun v y g1 s1 H1 l1 n1 R1 r1 h1 => by
    split at h1
    · obtain ⟨p, rfl, f⟩ := r1
      exact h1 { g1 with ro := fun k => if k = j then p else g1.ro k } _ H1 ⟨Sub.rfl, fun _ _ => rfl, rfl⟩ (Nat.le_refl _) (R1.setO f r.xs)
    · exact h1.elim
theorem ds_celLc (j i : Nat) (r : GOk X C cls G) (hc : X.calm = true) (hN : X.N.Nodup) (hy : X.N[j]? = some y) (hyl : X.env.scope.names.lookup y = some .local)
    (hsw : swapsWith (.ListComp elt [⟨tg, iter, ifs, 0⟩] scope pos) (some (.Name y py)) spos.line X.env = pure true) (hi : DI X G tg iter it) (ok : BlkOk X.N X.env.scope scope [(x, i)])
    (hg : ∀ (s : Shared) (H : Hp) (Ca : Addr) (cl : List (Str × Addr)) (fp : List Addr), PG (X.blk s H scope (compEnvC scope cl Ca X.env) fp) tg (gName i))
    (ht : ∀ (s : Shared) (H : Hp) (Ca : Addr) (cl : List (Str × Addr)) (fp : List Addr), DTs (X.blk s H scope (compEnvC scope cl Ca X.env) fp) C cls ifs mt)
    (he : ∀ (s : Shared) (H : Hp) (Ca : Addr) (cl : List (Str × Addr)) (fp : List Addr) (G : Gc), GOk (X.blk s H scope (compEnvC scope cl Ca X.env) fp) C cls G → DE (X.blk s H scope (compEnvC scope cl Ca X.env) fp) G elt me)
    (hs : ∀ x, foldedSetIterable iter X.env x = pure x := by intro _; rfl) : DS X G (.Assign [.Name y py] (.ListComp elt [⟨tg, iter, ifs, 0⟩] scope pos) spos) (sCel j (mLc i it mt me)) :=
  ds_lcAny j i r hc hN hy hyl hsw hi ok hg ht he hs fun D σ H ⟨g, sl, s, R, h⟩ => tD.st R h fun v y g1 s1 H1 l1 n1 R1 r1 h1 => by
    split at h1
    · obtain ⟨p, rfl, f⟩ := r1
      obtain ⟨R2, l2⟩ := R1.push f
      refine h1 _ _ H1 l2.toLe (by simp) (R2.setV (w := .c s1.O.length) ⟨by simp, ?_⟩ rfl r.xs)
      show V.ref p = .ref (if s1.O.length = s1.O.length then p else g1.rc s1.O.length)
      rw [if_pos rfl]
    · exact h1.elim
end
/-- what is never reached -/
def sBad : MS := fun _ _ => .bad
theorem ds_bad {X : Cx} {G : Gc} {st : Stmt} : DS X G st sBad := ⟨fun pins s σ H D I ⟨g, sl, s0, R, h⟩ => h.elim⟩
end Fm

/-! FQ: plain facts of the interpreter. -/
namespace Fm
open PySem L2
theorem runA_rt {N : Nat} {body : MS} {ws : List W} {s : Sto} {x : F} (hs : insOk s) (h : body (slots N ws) s = .rt (.w (.f x)) s) : runA N body ws s = .ok (.w (.f x)) s := by
  unfold runA
  rw [h]
  simp [bOk_self hs, back_self]
theorem runA_fr {N : Nat} {body : MS} {ws : List W} {s : Sto} {c : Ct} (hs : insOk s) (h : body (slots N ws) s = .rt (.fr c) s) : runA N body ws s = .ok (.fr c) s := by
  unfold runA
  rw [h]
  simp [bOk_self hs, back_self]
theorem runA_exc {N : Nat} {body : MS} {ws : List W} {s : Sto} {c : Str} {sl : List Sl} (hs : insOk s) (h : body (slots N ws) s = .exc c sl s) : runA N body ws s = .exc c s := by
  unfold runA
  rw [h]
  simp [bOk_self hs, back_self]
theorem runA_nx {N : Nat} {body : MS} {ws : List W} {s : Sto} {sl : List Sl} (hs : insOk s) (h : body (slots N ws) s = .nx sl s) : runA N body ws s = .ok (.w (.f .non)) s := by
  unfold runA
  rw [h]
  simp [bOk_self hs, back_self]
theorem insOk0 {l : List W} : insOk ⟨[], l⟩ := fun k fs h => by simp at h
/-- a loop whose turns all go through -/
theorem loopF_all {i : Nat} {body : MS} {s : Sto} {P : List Sl → Prop} : ∀ (xs : List F) (sl : List Sl), P sl → (∀ x ∈ xs, ∀ sl, P sl → ∃ sl', body (sl.set i (.v (.f x))) s = .nx sl' s ∧ P sl') → ∃ sl', loopF i body xs sl s = .nx sl' s ∧ P sl'
  | [], sl, hp, _ => ⟨sl, rfl, hp⟩
  | x :: xs, sl, hp, h => by
    obtain ⟨sl1, e, h1⟩ := h x List.mem_cons_self sl hp
    obtain ⟨sl2, e2, h2⟩ := loopF_all xs sl1 h1 fun y hy => h y (List.mem_cons_of_mem _ hy)
    exact ⟨sl2, by unfold loopF; rw [e]; exact e2, h2⟩
/-- a loop that tests: through, or out at the first that fails -/
theorem loopF_test {i : Nat} {body : MS} {s : Sto} {P : List Sl → Prop} {p : F → Bool} {y : Y} : ∀ (xs : List F) (sl : List Sl), P sl → (∀ x ∈ xs, ∀ sl, P sl → if p x = true then ∃ sl', body (sl.set i (.v (.f x))) s = .nx sl' s ∧ P sl' else body (sl.set i (.v (.f x))) s = .rt y s) →
    (xs.all p = true ∧ ∃ sl', loopF i body xs sl s = .nx sl' s ∧ P sl') ∨ (xs.all p = false ∧ loopF i body xs sl s = .rt y s)
  | [], sl, hp, _ => .inl ⟨rfl, sl, rfl, hp⟩
  | x :: xs, sl, hp, h => by
    have h0 := h x List.mem_cons_self sl hp
    cases hx : p x with
    | true =>
      rw [if_pos hx] at h0
      obtain ⟨sl1, e, h1⟩ := h0
      rcases loopF_test xs sl1 h1 fun y hy => h y (List.mem_cons_of_mem _ hy) with ⟨q1, sl2, e2, h2⟩ | ⟨q1, e2⟩
      · exact .inl ⟨by rw [List.all_cons, hx, q1]; rfl, sl2, by unfold loopF; rw [e]; exact e2, h2⟩
      · exact .inr ⟨by rw [List.all_cons, hx, q1]; rfl, by unfold loopF; rw [e]; exact e2⟩
    | false =>
      rw [if_neg (by rw [hx]; exact Bool.false_ne_true)] at h0
      exact .inr ⟨by rw [List.all_cons, hx]; rfl, by unfold loopF; rw [h0]⟩
/-- a comprehension of values -/
theorem compF_pure {i : Nat} {t e : M} {s : Sto} {sl : List Sl} {p : F → Bool} {f : F → F} : ∀ (xs : List F), (∀ x ∈ xs, t (sl.set i (.v (.f x))) s = .ok (.w (.f (.bl (p x)))) s) → (∀ x ∈ xs, p x = true → ∃ y, e (sl.set i (.v (.f x))) s = .ok y s ∧ frz y = .f (f x)) →
    compF i t e xs sl s = .ok ((xs.filter p).map f) s
  | [], _, _ => rfl
  | x :: xs, ht, he => by
    have ih := compF_pure xs (fun y hy => ht y (List.mem_cons_of_mem _ hy)) (fun y hy => he y (List.mem_cons_of_mem _ hy))
    unfold compF
    rw [ht x List.mem_cons_self]
    cases hx : p x with
    | true =>
      obtain ⟨y, e1, e2⟩ := he x List.mem_cons_self hx
      simp only [Fm.R.bind_ok, e1, e2, ih, List.filter_cons, hx, if_true, List.map_cons]
    | false => simp [ih, hx]
theorem compF_map {i : Nat} {e : M} {s : Sto} {sl : List Sl} {f : F → F} (xs : List F) (he : ∀ x ∈ xs, ∃ y, e (sl.set i (.v (.f x))) s = .ok y s ∧ frz y = .f (f x)) : compF i (mC (.bl true)) e xs sl s = .ok (xs.map f) s := by
  have := compF_pure (t := mC (.bl true)) (p := fun _ => true) (f := f) (e := e) (s := s) (sl := sl) (i := i) xs (fun x _ => rfl) (fun x hx _ => he x hx)
  rw [this, List.filter_eq_self.mpr fun _ _ => rfl]
theorem rgF_mem {a : Int} {n : Nat} {x : F} (h : x ∈ rgF a 1 n) : ∃ k : Nat, k < n ∧ x = .int (a + k) := by
  unfold rgF at h
  obtain ⟨k, hk, e⟩ := List.mem_map.mp h
  exact ⟨k, List.mem_range.mp hk, by rw [← e, Int.mul_one]⟩
@[simp] theorem strBeq (a b : Str) : (a == b) = decide (a = b) := by
  rw [Bool.eq_iff_iff]; simp
@[simp] theorem intBeq (a b : Int) : (a == b) = decide (a = b) := by
  rw [Bool.eq_iff_iff]; simp
@[simp] theorem eqT_int (i j : Int) : eqT (.int i) (.int j) = some (i == j) := rfl
@[simp] theorem eqT_str (i j : Str) : eqT (.str i) (.str j) = some (i == j) := rfl
@[simp] theorem eqT_bl (i j : Bool) : eqT (.bl i) (.bl j) = some (i == j) := rfl
@[simp] theorem eqT_nil (xs : List F) : eqT (.lst xs) (.lst []) = some xs.isEmpty := by
  cases xs <;> simp [eqT, eqN, allO]
/-- s[i], a sign -/
theorem atI_nat {α : Type} {xs : List α} {k : Nat} (h : k < xs.length) : L2.atI xs (k : Int) = some xs[k] := by
  unfold L2.atI L2.ixN
  simp [h]
theorem atI_in {α : Type} {xs : List α} {i : Int} (h0 : 0 ≤ i) (h : i.toNat < xs.length) : ∃ x, L2.atI xs i = some x ∧ x ∈ xs := by
  obtain ⟨k, rfl⟩ := Int.eq_ofNat_of_zero_le h0
  simp only [Int.toNat_natCast] at h
  exact ⟨_, atI_nat h, List.getElem_mem h⟩
/-- one sign -/
@[simp] def sg (c : Nat) : Str := ⟨#[c]⟩
theorem glued_sg (l : List Nat) : ∀ acc : Array Nat, ((l.map sg).foldl (fun acc p => acc ++ (Str.ofString "").cps ++ p.cps) acc) = acc ++ l.toArray := by
  have z : (Str.ofString "").cps = #[] := by decide
  induction l with
  | nil => intro acc; simp
  | cons c l ih =>
    intro acc
    rw [List.map_cons, List.foldl_cons, ih, z]
    obtain ⟨a⟩ := acc
    simp
theorem join_sg (l : List Nat) : Txt.join (Str.ofString "") (l.map sg) = ⟨l.toArray⟩ := by
  show Builtin.Str.glued _ _ = _
  unfold Builtin.Str.glued
  cases l with
  | nil => rfl
  | cons c l =>
    rw [List.map_cons, List.drop_one, List.tail_cons, glued_sg]
    simp
theorem strsF_map (ys : List Str) : strsF (ys.map F.str) = some ys := by
  induction ys with
  | nil => rfl
  | cons y ys ih => rw [List.map_cons]; unfold strsF; rw [ih]
/-- ''.join of signs -/
theorem joinA_sg (l : List Nat) (h : l.length ≤ 16777216) : joinA (Str.ofString "") (.lst (l.map fun c => F.str ⟨#[c]⟩)) = .val (.str ⟨l.toArray⟩) := by
  have e : (l.map fun c => F.str ⟨#[c]⟩) = (l.map sg).map F.str := by rw [List.map_map]; rfl
  have z : (Str.ofString "").length = 0 := by decide
  have sm : ∀ l : List Nat, ((l.map sg).map (·.length)).sum = l.length := fun l => by
    induction l with
    | nil => rfl
    | cons c l ih =>
      rw [List.map_cons, List.map_cons, List.sum_cons, ih]
      show 1 + l.length = _
      rw [List.length_cons]; omega
  rw [e]
  simp only [joinA, strsF_map, sm, z, Nat.mul_zero, Nat.add_zero, if_pos h, join_sg]
theorem fmod_lt' (i : Int) {n : Int} (h : 0 < n) : 0 ≤ i.fmod n ∧ i.fmod n < n := ⟨Int.fmod_nonneg_of_pos i h, Int.fmod_lt_of_pos i h⟩
theorem mLc_eq {i : Nat} {it : MI} {t e : M} {sl : List Sl} {s s1 s2 : Sto} {xs zs : List F} (no : slNoOwn sl[i]? = true) (hi : it sl s = .ok xs s1) (hc : compF i t e xs (sl.set i .no) s1 = .ok zs s2) (hl : zs.length ≤ sizeLine) : mLc i it t e sl s = .ok (.fr (.lst zs)) s2 := by
  unfold mLc
  rw [if_pos no, hi]
  show (match compF i t e xs (sl.set i .no) s1 with | .ok zs s2 => _ | _ => _) = _
  rw [hc]
  exact if_pos hl
@[simp] theorem at0 {α : Type} {x : α} {xs : List α} : L2.atI (x :: xs) 0 = some x := by
  simp [L2.atI, L2.ixN]
@[simp] theorem at1 {α : Type} {x y : α} {xs : List α} : L2.atI (x :: y :: xs) 1 = some y := by
  have : (1 : Int) < xs.length + 1 + 1 := by omega
  simp [L2.atI, L2.ixN, this]
@[simp] theorem at2 {α : Type} {x y z : α} {xs : List α} : L2.atI (x :: y :: z :: xs) 2 = some z := by
  have : (2 : Int) < xs.length + 1 + 1 + 1 := by omega
  simp [L2.atI, L2.ixN, this]
@[simp] theorem at3 {α : Type} {x y z u : α} {xs : List α} : L2.atI (x :: y :: z :: u :: xs) 3 = some u := by
  have : (3 : Int) < xs.length + 1 + 1 + 1 + 1 := by omega
  simp [L2.atI, L2.ixN, this]
@[simp] theorem at4 {α : Type} {x y z u v : α} {xs : List α} : L2.atI (x :: y :: z :: u :: v :: xs) 4 = some v := by
  have : (4 : Int) < xs.length + 1 + 1 + 1 + 1 + 1 := by omega
  simp [L2.atI, L2.ixN, this]
theorem ne_0_1 : ¬ Str.ofString "drop" = Str.ofString "turn" := by decide +kernel
@[simp] theorem nf_0_1 : (Str.ofString "drop" = Str.ofString "turn") = False := eq_false ne_0_1
theorem ne_0_2 : ¬ Str.ofString "drop" = Str.ofString "add" := by decide +kernel
@[simp] theorem nf_0_2 : (Str.ofString "drop" = Str.ofString "add") = False := eq_false ne_0_2
theorem ne_0_3 : ¬ Str.ofString "drop" = Str.ofString "shift" := by decide +kernel
@[simp] theorem nf_0_3 : (Str.ofString "drop" = Str.ofString "shift") = False := eq_false ne_0_3
theorem ne_0_4 : ¬ Str.ofString "drop" = Str.ofString "name" := by decide +kernel
@[simp] theorem nf_0_4 : (Str.ofString "drop" = Str.ofString "name") = False := eq_false ne_0_4
theorem ne_0_5 : ¬ Str.ofString "drop" = Str.ofString "part" := by decide +kernel
@[simp] theorem nf_0_5 : (Str.ofString "drop" = Str.ofString "part") = False := eq_false ne_0_5
theorem ne_0_6 : ¬ Str.ofString "drop" = Str.ofString "join" := by decide +kernel
@[simp] theorem nf_0_6 : (Str.ofString "drop" = Str.ofString "join") = False := eq_false ne_0_6
theorem ne_0_7 : ¬ Str.ofString "drop" = Str.ofString "n" := by decide +kernel
@[simp] theorem nf_0_7 : (Str.ofString "drop" = Str.ofString "n") = False := eq_false ne_0_7
theorem ne_0_8 : ¬ Str.ofString "drop" = Str.ofString "ni" := by decide +kernel
@[simp] theorem nf_0_8 : (Str.ofString "drop" = Str.ofString "ni") = False := eq_false ne_0_8
theorem ne_0_9 : ¬ Str.ofString "drop" = Str.ofString "nn" := by decide +kernel
@[simp] theorem nf_0_9 : (Str.ofString "drop" = Str.ofString "nn") = False := eq_false ne_0_9
theorem ne_0_10 : ¬ Str.ofString "drop" = Str.ofString "nnns" := by decide +kernel
@[simp] theorem nf_0_10 : (Str.ofString "drop" = Str.ofString "nnns") = False := eq_false ne_0_10
theorem ne_0_11 : ¬ Str.ofString "drop" = Str.ofString "i" := by decide +kernel
@[simp] theorem nf_0_11 : (Str.ofString "drop" = Str.ofString "i") = False := eq_false ne_0_11
theorem ne_0_12 : ¬ Str.ofString "drop" = Str.ofString "s" := by decide +kernel
@[simp] theorem nf_0_12 : (Str.ofString "drop" = Str.ofString "s") = False := eq_false ne_0_12
theorem ne_0_13 : ¬ Str.ofString "drop" = Str.ofString "" := by decide +kernel
@[simp] theorem nf_0_13 : (Str.ofString "drop" = Str.ofString "") = False := eq_false ne_0_13
theorem ne_1_0 : ¬ Str.ofString "turn" = Str.ofString "drop" := by decide +kernel
@[simp] theorem nf_1_0 : (Str.ofString "turn" = Str.ofString "drop") = False := eq_false ne_1_0
theorem ne_1_2 : ¬ Str.ofString "turn" = Str.ofString "add" := by decide +kernel
@[simp] theorem nf_1_2 : (Str.ofString "turn" = Str.ofString "add") = False := eq_false ne_1_2
theorem ne_1_3 : ¬ Str.ofString "turn" = Str.ofString "shift" := by decide +kernel
@[simp] theorem nf_1_3 : (Str.ofString "turn" = Str.ofString "shift") = False := eq_false ne_1_3
theorem ne_1_4 : ¬ Str.ofString "turn" = Str.ofString "name" := by decide +kernel
@[simp] theorem nf_1_4 : (Str.ofString "turn" = Str.ofString "name") = False := eq_false ne_1_4
theorem ne_1_5 : ¬ Str.ofString "turn" = Str.ofString "part" := by decide +kernel
@[simp] theorem nf_1_5 : (Str.ofString "turn" = Str.ofString "part") = False := eq_false ne_1_5
theorem ne_1_6 : ¬ Str.ofString "turn" = Str.ofString "join" := by decide +kernel
@[simp] theorem nf_1_6 : (Str.ofString "turn" = Str.ofString "join") = False := eq_false ne_1_6
theorem ne_1_7 : ¬ Str.ofString "turn" = Str.ofString "n" := by decide +kernel
@[simp] theorem nf_1_7 : (Str.ofString "turn" = Str.ofString "n") = False := eq_false ne_1_7
theorem ne_1_8 : ¬ Str.ofString "turn" = Str.ofString "ni" := by decide +kernel
@[simp] theorem nf_1_8 : (Str.ofString "turn" = Str.ofString "ni") = False := eq_false ne_1_8
theorem ne_1_9 : ¬ Str.ofString "turn" = Str.ofString "nn" := by decide +kernel
@[simp] theorem nf_1_9 : (Str.ofString "turn" = Str.ofString "nn") = False := eq_false ne_1_9
theorem ne_1_10 : ¬ Str.ofString "turn" = Str.ofString "nnns" := by decide +kernel
@[simp] theorem nf_1_10 : (Str.ofString "turn" = Str.ofString "nnns") = False := eq_false ne_1_10
theorem ne_1_11 : ¬ Str.ofString "turn" = Str.ofString "i" := by decide +kernel
@[simp] theorem nf_1_11 : (Str.ofString "turn" = Str.ofString "i") = False := eq_false ne_1_11
theorem ne_1_12 : ¬ Str.ofString "turn" = Str.ofString "s" := by decide +kernel
@[simp] theorem nf_1_12 : (Str.ofString "turn" = Str.ofString "s") = False := eq_false ne_1_12
theorem ne_1_13 : ¬ Str.ofString "turn" = Str.ofString "" := by decide +kernel
@[simp] theorem nf_1_13 : (Str.ofString "turn" = Str.ofString "") = False := eq_false ne_1_13
theorem ne_2_0 : ¬ Str.ofString "add" = Str.ofString "drop" := by decide +kernel
@[simp] theorem nf_2_0 : (Str.ofString "add" = Str.ofString "drop") = False := eq_false ne_2_0
theorem ne_2_1 : ¬ Str.ofString "add" = Str.ofString "turn" := by decide +kernel
@[simp] theorem nf_2_1 : (Str.ofString "add" = Str.ofString "turn") = False := eq_false ne_2_1
theorem ne_2_3 : ¬ Str.ofString "add" = Str.ofString "shift" := by decide +kernel
@[simp] theorem nf_2_3 : (Str.ofString "add" = Str.ofString "shift") = False := eq_false ne_2_3
theorem ne_2_4 : ¬ Str.ofString "add" = Str.ofString "name" := by decide +kernel
@[simp] theorem nf_2_4 : (Str.ofString "add" = Str.ofString "name") = False := eq_false ne_2_4
theorem ne_2_5 : ¬ Str.ofString "add" = Str.ofString "part" := by decide +kernel
@[simp] theorem nf_2_5 : (Str.ofString "add" = Str.ofString "part") = False := eq_false ne_2_5
theorem ne_2_6 : ¬ Str.ofString "add" = Str.ofString "join" := by decide +kernel
@[simp] theorem nf_2_6 : (Str.ofString "add" = Str.ofString "join") = False := eq_false ne_2_6
theorem ne_2_7 : ¬ Str.ofString "add" = Str.ofString "n" := by decide +kernel
@[simp] theorem nf_2_7 : (Str.ofString "add" = Str.ofString "n") = False := eq_false ne_2_7
theorem ne_2_8 : ¬ Str.ofString "add" = Str.ofString "ni" := by decide +kernel
@[simp] theorem nf_2_8 : (Str.ofString "add" = Str.ofString "ni") = False := eq_false ne_2_8
theorem ne_2_9 : ¬ Str.ofString "add" = Str.ofString "nn" := by decide +kernel
@[simp] theorem nf_2_9 : (Str.ofString "add" = Str.ofString "nn") = False := eq_false ne_2_9
theorem ne_2_10 : ¬ Str.ofString "add" = Str.ofString "nnns" := by decide +kernel
@[simp] theorem nf_2_10 : (Str.ofString "add" = Str.ofString "nnns") = False := eq_false ne_2_10
theorem ne_2_11 : ¬ Str.ofString "add" = Str.ofString "i" := by decide +kernel
@[simp] theorem nf_2_11 : (Str.ofString "add" = Str.ofString "i") = False := eq_false ne_2_11
theorem ne_2_12 : ¬ Str.ofString "add" = Str.ofString "s" := by decide +kernel
@[simp] theorem nf_2_12 : (Str.ofString "add" = Str.ofString "s") = False := eq_false ne_2_12
theorem ne_2_13 : ¬ Str.ofString "add" = Str.ofString "" := by decide +kernel
@[simp] theorem nf_2_13 : (Str.ofString "add" = Str.ofString "") = False := eq_false ne_2_13
theorem ne_3_0 : ¬ Str.ofString "shift" = Str.ofString "drop" := by decide +kernel
@[simp] theorem nf_3_0 : (Str.ofString "shift" = Str.ofString "drop") = False := eq_false ne_3_0
theorem ne_3_1 : ¬ Str.ofString "shift" = Str.ofString "turn" := by decide +kernel
@[simp] theorem nf_3_1 : (Str.ofString "shift" = Str.ofString "turn") = False := eq_false ne_3_1
theorem ne_3_2 : ¬ Str.ofString "shift" = Str.ofString "add" := by decide +kernel
@[simp] theorem nf_3_2 : (Str.ofString "shift" = Str.ofString "add") = False := eq_false ne_3_2
theorem ne_3_4 : ¬ Str.ofString "shift" = Str.ofString "name" := by decide +kernel
@[simp] theorem nf_3_4 : (Str.ofString "shift" = Str.ofString "name") = False := eq_false ne_3_4
theorem ne_3_5 : ¬ Str.ofString "shift" = Str.ofString "part" := by decide +kernel
@[simp] theorem nf_3_5 : (Str.ofString "shift" = Str.ofString "part") = False := eq_false ne_3_5
theorem ne_3_6 : ¬ Str.ofString "shift" = Str.ofString "join" := by decide +kernel
@[simp] theorem nf_3_6 : (Str.ofString "shift" = Str.ofString "join") = False := eq_false ne_3_6
theorem ne_3_7 : ¬ Str.ofString "shift" = Str.ofString "n" := by decide +kernel
@[simp] theorem nf_3_7 : (Str.ofString "shift" = Str.ofString "n") = False := eq_false ne_3_7
theorem ne_3_8 : ¬ Str.ofString "shift" = Str.ofString "ni" := by decide +kernel
@[simp] theorem nf_3_8 : (Str.ofString "shift" = Str.ofString "ni") = False := eq_false ne_3_8
theorem ne_3_9 : ¬ Str.ofString "shift" = Str.ofString "nn" := by decide +kernel
@[simp] theorem nf_3_9 : (Str.ofString "shift" = Str.ofString "nn") = False := eq_false ne_3_9
theorem ne_3_10 : ¬ Str.ofString "shift" = Str.ofString "nnns" := by decide +kernel
@[simp] theorem nf_3_10 : (Str.ofString "shift" = Str.ofString "nnns") = False := eq_false ne_3_10
theorem ne_3_11 : ¬ Str.ofString "shift" = Str.ofString "i" := by decide +kernel
@[simp] theorem nf_3_11 : (Str.ofString "shift" = Str.ofString "i") = False := eq_false ne_3_11
theorem ne_3_12 : ¬ Str.ofString "shift" = Str.ofString "s" := by decide +kernel
@[simp] theorem nf_3_12 : (Str.ofString "shift" = Str.ofString "s") = False := eq_false ne_3_12
theorem ne_3_13 : ¬ Str.ofString "shift" = Str.ofString "" := by decide +kernel
@[simp] theorem nf_3_13 : (Str.ofString "shift" = Str.ofString "") = False := eq_false ne_3_13
theorem ne_4_0 : ¬ Str.ofString "name" = Str.ofString "drop" := by decide +kernel
@[simp] theorem nf_4_0 : (Str.ofString "name" = Str.ofString "drop") = False := eq_false ne_4_0
theorem ne_4_1 : ¬ Str.ofString "name" = Str.ofString "turn" := by decide +kernel
@[simp] theorem nf_4_1 : (Str.ofString "name" = Str.ofString "turn") = False := eq_false ne_4_1
theorem ne_4_2 : ¬ Str.ofString "name" = Str.ofString "add" := by decide +kernel
@[simp] theorem nf_4_2 : (Str.ofString "name" = Str.ofString "add") = False := eq_false ne_4_2
theorem ne_4_3 : ¬ Str.ofString "name" = Str.ofString "shift" := by decide +kernel
@[simp] theorem nf_4_3 : (Str.ofString "name" = Str.ofString "shift") = False := eq_false ne_4_3
theorem ne_4_5 : ¬ Str.ofString "name" = Str.ofString "part" := by decide +kernel
@[simp] theorem nf_4_5 : (Str.ofString "name" = Str.ofString "part") = False := eq_false ne_4_5
theorem ne_4_6 : ¬ Str.ofString "name" = Str.ofString "join" := by decide +kernel
@[simp] theorem nf_4_6 : (Str.ofString "name" = Str.ofString "join") = False := eq_false ne_4_6
theorem ne_4_7 : ¬ Str.ofString "name" = Str.ofString "n" := by decide +kernel
@[simp] theorem nf_4_7 : (Str.ofString "name" = Str.ofString "n") = False := eq_false ne_4_7
theorem ne_4_8 : ¬ Str.ofString "name" = Str.ofString "ni" := by decide +kernel
@[simp] theorem nf_4_8 : (Str.ofString "name" = Str.ofString "ni") = False := eq_false ne_4_8
theorem ne_4_9 : ¬ Str.ofString "name" = Str.ofString "nn" := by decide +kernel
@[simp] theorem nf_4_9 : (Str.ofString "name" = Str.ofString "nn") = False := eq_false ne_4_9
theorem ne_4_10 : ¬ Str.ofString "name" = Str.ofString "nnns" := by decide +kernel
@[simp] theorem nf_4_10 : (Str.ofString "name" = Str.ofString "nnns") = False := eq_false ne_4_10
theorem ne_4_11 : ¬ Str.ofString "name" = Str.ofString "i" := by decide +kernel
@[simp] theorem nf_4_11 : (Str.ofString "name" = Str.ofString "i") = False := eq_false ne_4_11
theorem ne_4_12 : ¬ Str.ofString "name" = Str.ofString "s" := by decide +kernel
@[simp] theorem nf_4_12 : (Str.ofString "name" = Str.ofString "s") = False := eq_false ne_4_12
theorem ne_4_13 : ¬ Str.ofString "name" = Str.ofString "" := by decide +kernel
@[simp] theorem nf_4_13 : (Str.ofString "name" = Str.ofString "") = False := eq_false ne_4_13
theorem ne_5_0 : ¬ Str.ofString "part" = Str.ofString "drop" := by decide +kernel
@[simp] theorem nf_5_0 : (Str.ofString "part" = Str.ofString "drop") = False := eq_false ne_5_0
theorem ne_5_1 : ¬ Str.ofString "part" = Str.ofString "turn" := by decide +kernel
@[simp] theorem nf_5_1 : (Str.ofString "part" = Str.ofString "turn") = False := eq_false ne_5_1
theorem ne_5_2 : ¬ Str.ofString "part" = Str.ofString "add" := by decide +kernel
@[simp] theorem nf_5_2 : (Str.ofString "part" = Str.ofString "add") = False := eq_false ne_5_2
theorem ne_5_3 : ¬ Str.ofString "part" = Str.ofString "shift" := by decide +kernel
@[simp] theorem nf_5_3 : (Str.ofString "part" = Str.ofString "shift") = False := eq_false ne_5_3
theorem ne_5_4 : ¬ Str.ofString "part" = Str.ofString "name" := by decide +kernel
@[simp] theorem nf_5_4 : (Str.ofString "part" = Str.ofString "name") = False := eq_false ne_5_4
theorem ne_5_6 : ¬ Str.ofString "part" = Str.ofString "join" := by decide +kernel
@[simp] theorem nf_5_6 : (Str.ofString "part" = Str.ofString "join") = False := eq_false ne_5_6
theorem ne_5_7 : ¬ Str.ofString "part" = Str.ofString "n" := by decide +kernel
@[simp] theorem nf_5_7 : (Str.ofString "part" = Str.ofString "n") = False := eq_false ne_5_7
theorem ne_5_8 : ¬ Str.ofString "part" = Str.ofString "ni" := by decide +kernel
@[simp] theorem nf_5_8 : (Str.ofString "part" = Str.ofString "ni") = False := eq_false ne_5_8
theorem ne_5_9 : ¬ Str.ofString "part" = Str.ofString "nn" := by decide +kernel
@[simp] theorem nf_5_9 : (Str.ofString "part" = Str.ofString "nn") = False := eq_false ne_5_9
theorem ne_5_10 : ¬ Str.ofString "part" = Str.ofString "nnns" := by decide +kernel
@[simp] theorem nf_5_10 : (Str.ofString "part" = Str.ofString "nnns") = False := eq_false ne_5_10
theorem ne_5_11 : ¬ Str.ofString "part" = Str.ofString "i" := by decide +kernel
@[simp] theorem nf_5_11 : (Str.ofString "part" = Str.ofString "i") = False := eq_false ne_5_11
theorem ne_5_12 : ¬ Str.ofString "part" = Str.ofString "s" := by decide +kernel
@[simp] theorem nf_5_12 : (Str.ofString "part" = Str.ofString "s") = False := eq_false ne_5_12
theorem ne_5_13 : ¬ Str.ofString "part" = Str.ofString "" := by decide +kernel
@[simp] theorem nf_5_13 : (Str.ofString "part" = Str.ofString "") = False := eq_false ne_5_13
theorem ne_6_0 : ¬ Str.ofString "join" = Str.ofString "drop" := by decide +kernel
@[simp] theorem nf_6_0 : (Str.ofString "join" = Str.ofString "drop") = False := eq_false ne_6_0
theorem ne_6_1 : ¬ Str.ofString "join" = Str.ofString "turn" := by decide +kernel
@[simp] theorem nf_6_1 : (Str.ofString "join" = Str.ofString "turn") = False := eq_false ne_6_1
theorem ne_6_2 : ¬ Str.ofString "join" = Str.ofString "add" := by decide +kernel
@[simp] theorem nf_6_2 : (Str.ofString "join" = Str.ofString "add") = False := eq_false ne_6_2
theorem ne_6_3 : ¬ Str.ofString "join" = Str.ofString "shift" := by decide +kernel
@[simp] theorem nf_6_3 : (Str.ofString "join" = Str.ofString "shift") = False := eq_false ne_6_3
theorem ne_6_4 : ¬ Str.ofString "join" = Str.ofString "name" := by decide +kernel
@[simp] theorem nf_6_4 : (Str.ofString "join" = Str.ofString "name") = False := eq_false ne_6_4
theorem ne_6_5 : ¬ Str.ofString "join" = Str.ofString "part" := by decide +kernel
@[simp] theorem nf_6_5 : (Str.ofString "join" = Str.ofString "part") = False := eq_false ne_6_5
theorem ne_6_7 : ¬ Str.ofString "join" = Str.ofString "n" := by decide +kernel
@[simp] theorem nf_6_7 : (Str.ofString "join" = Str.ofString "n") = False := eq_false ne_6_7
theorem ne_6_8 : ¬ Str.ofString "join" = Str.ofString "ni" := by decide +kernel
@[simp] theorem nf_6_8 : (Str.ofString "join" = Str.ofString "ni") = False := eq_false ne_6_8
theorem ne_6_9 : ¬ Str.ofString "join" = Str.ofString "nn" := by decide +kernel
@[simp] theorem nf_6_9 : (Str.ofString "join" = Str.ofString "nn") = False := eq_false ne_6_9
theorem ne_6_10 : ¬ Str.ofString "join" = Str.ofString "nnns" := by decide +kernel
@[simp] theorem nf_6_10 : (Str.ofString "join" = Str.ofString "nnns") = False := eq_false ne_6_10
theorem ne_6_11 : ¬ Str.ofString "join" = Str.ofString "i" := by decide +kernel
@[simp] theorem nf_6_11 : (Str.ofString "join" = Str.ofString "i") = False := eq_false ne_6_11
theorem ne_6_12 : ¬ Str.ofString "join" = Str.ofString "s" := by decide +kernel
@[simp] theorem nf_6_12 : (Str.ofString "join" = Str.ofString "s") = False := eq_false ne_6_12
theorem ne_6_13 : ¬ Str.ofString "join" = Str.ofString "" := by decide +kernel
@[simp] theorem nf_6_13 : (Str.ofString "join" = Str.ofString "") = False := eq_false ne_6_13
theorem ne_7_0 : ¬ Str.ofString "n" = Str.ofString "drop" := by decide +kernel
@[simp] theorem nf_7_0 : (Str.ofString "n" = Str.ofString "drop") = False := eq_false ne_7_0
theorem ne_7_1 : ¬ Str.ofString "n" = Str.ofString "turn" := by decide +kernel
@[simp] theorem nf_7_1 : (Str.ofString "n" = Str.ofString "turn") = False := eq_false ne_7_1
theorem ne_7_2 : ¬ Str.ofString "n" = Str.ofString "add" := by decide +kernel
@[simp] theorem nf_7_2 : (Str.ofString "n" = Str.ofString "add") = False := eq_false ne_7_2
theorem ne_7_3 : ¬ Str.ofString "n" = Str.ofString "shift" := by decide +kernel
@[simp] theorem nf_7_3 : (Str.ofString "n" = Str.ofString "shift") = False := eq_false ne_7_3
theorem ne_7_4 : ¬ Str.ofString "n" = Str.ofString "name" := by decide +kernel
@[simp] theorem nf_7_4 : (Str.ofString "n" = Str.ofString "name") = False := eq_false ne_7_4
theorem ne_7_5 : ¬ Str.ofString "n" = Str.ofString "part" := by decide +kernel
@[simp] theorem nf_7_5 : (Str.ofString "n" = Str.ofString "part") = False := eq_false ne_7_5
theorem ne_7_6 : ¬ Str.ofString "n" = Str.ofString "join" := by decide +kernel
@[simp] theorem nf_7_6 : (Str.ofString "n" = Str.ofString "join") = False := eq_false ne_7_6
theorem ne_7_8 : ¬ Str.ofString "n" = Str.ofString "ni" := by decide +kernel
@[simp] theorem nf_7_8 : (Str.ofString "n" = Str.ofString "ni") = False := eq_false ne_7_8
theorem ne_7_9 : ¬ Str.ofString "n" = Str.ofString "nn" := by decide +kernel
@[simp] theorem nf_7_9 : (Str.ofString "n" = Str.ofString "nn") = False := eq_false ne_7_9
theorem ne_7_10 : ¬ Str.ofString "n" = Str.ofString "nnns" := by decide +kernel
@[simp] theorem nf_7_10 : (Str.ofString "n" = Str.ofString "nnns") = False := eq_false ne_7_10
theorem ne_7_11 : ¬ Str.ofString "n" = Str.ofString "i" := by decide +kernel
@[simp] theorem nf_7_11 : (Str.ofString "n" = Str.ofString "i") = False := eq_false ne_7_11
theorem ne_7_12 : ¬ Str.ofString "n" = Str.ofString "s" := by decide +kernel
@[simp] theorem nf_7_12 : (Str.ofString "n" = Str.ofString "s") = False := eq_false ne_7_12
theorem ne_7_13 : ¬ Str.ofString "n" = Str.ofString "" := by decide +kernel
@[simp] theorem nf_7_13 : (Str.ofString "n" = Str.ofString "") = False := eq_false ne_7_13
theorem ne_8_0 : ¬ Str.ofString "ni" = Str.ofString "drop" := by decide +kernel
@[simp] theorem nf_8_0 : (Str.ofString "ni" = Str.ofString "drop") = False := eq_false ne_8_0
theorem ne_8_1 : ¬ Str.ofString "ni" = Str.ofString "turn" := by decide +kernel
@[simp] theorem nf_8_1 : (Str.ofString "ni" = Str.ofString "turn") = False := eq_false ne_8_1
theorem ne_8_2 : ¬ Str.ofString "ni" = Str.ofString "add" := by decide +kernel
@[simp] theorem nf_8_2 : (Str.ofString "ni" = Str.ofString "add") = False := eq_false ne_8_2
theorem ne_8_3 : ¬ Str.ofString "ni" = Str.ofString "shift" := by decide +kernel
@[simp] theorem nf_8_3 : (Str.ofString "ni" = Str.ofString "shift") = False := eq_false ne_8_3
theorem ne_8_4 : ¬ Str.ofString "ni" = Str.ofString "name" := by decide +kernel
@[simp] theorem nf_8_4 : (Str.ofString "ni" = Str.ofString "name") = False := eq_false ne_8_4
theorem ne_8_5 : ¬ Str.ofString "ni" = Str.ofString "part" := by decide +kernel
@[simp] theorem nf_8_5 : (Str.ofString "ni" = Str.ofString "part") = False := eq_false ne_8_5
theorem ne_8_6 : ¬ Str.ofString "ni" = Str.ofString "join" := by decide +kernel
@[simp] theorem nf_8_6 : (Str.ofString "ni" = Str.ofString "join") = False := eq_false ne_8_6
theorem ne_8_7 : ¬ Str.ofString "ni" = Str.ofString "n" := by decide +kernel
@[simp] theorem nf_8_7 : (Str.ofString "ni" = Str.ofString "n") = False := eq_false ne_8_7
theorem ne_8_9 : ¬ Str.ofString "ni" = Str.ofString "nn" := by decide +kernel
@[simp] theorem nf_8_9 : (Str.ofString "ni" = Str.ofString "nn") = False := eq_false ne_8_9
theorem ne_8_10 : ¬ Str.ofString "ni" = Str.ofString "nnns" := by decide +kernel
@[simp] theorem nf_8_10 : (Str.ofString "ni" = Str.ofString "nnns") = False := eq_false ne_8_10
theorem ne_8_11 : ¬ Str.ofString "ni" = Str.ofString "i" := by decide +kernel
@[simp] theorem nf_8_11 : (Str.ofString "ni" = Str.ofString "i") = False := eq_false ne_8_11
theorem ne_8_12 : ¬ Str.ofString "ni" = Str.ofString "s" := by decide +kernel
@[simp] theorem nf_8_12 : (Str.ofString "ni" = Str.ofString "s") = False := eq_false ne_8_12
theorem ne_8_13 : ¬ Str.ofString "ni" = Str.ofString "" := by decide +kernel
@[simp] theorem nf_8_13 : (Str.ofString "ni" = Str.ofString "") = False := eq_false ne_8_13
theorem ne_9_0 : ¬ Str.ofString "nn" = Str.ofString "drop" := by decide +kernel
@[simp] theorem nf_9_0 : (Str.ofString "nn" = Str.ofString "drop") = False := eq_false ne_9_0
theorem ne_9_1 : ¬ Str.ofString "nn" = Str.ofString "turn" := by decide +kernel
@[simp] theorem nf_9_1 : (Str.ofString "nn" = Str.ofString "turn") = False := eq_false ne_9_1
theorem ne_9_2 : ¬ Str.ofString "nn" = Str.ofString "add" := by decide +kernel
@[simp] theorem nf_9_2 : (Str.ofString "nn" = Str.ofString "add") = False := eq_false ne_9_2
theorem ne_9_3 : ¬ Str.ofString "nn" = Str.ofString "shift" := by decide +kernel
@[simp] theorem nf_9_3 : (Str.ofString "nn" = Str.ofString "shift") = False := eq_false ne_9_3
theorem ne_9_4 : ¬ Str.ofString "nn" = Str.ofString "name" := by decide +kernel
@[simp] theorem nf_9_4 : (Str.ofString "nn" = Str.ofString "name") = False := eq_false ne_9_4
theorem ne_9_5 : ¬ Str.ofString "nn" = Str.ofString "part" := by decide +kernel
@[simp] theorem nf_9_5 : (Str.ofString "nn" = Str.ofString "part") = False := eq_false ne_9_5
theorem ne_9_6 : ¬ Str.ofString "nn" = Str.ofString "join" := by decide +kernel
@[simp] theorem nf_9_6 : (Str.ofString "nn" = Str.ofString "join") = False := eq_false ne_9_6
theorem ne_9_7 : ¬ Str.ofString "nn" = Str.ofString "n" := by decide +kernel
@[simp] theorem nf_9_7 : (Str.ofString "nn" = Str.ofString "n") = False := eq_false ne_9_7
theorem ne_9_8 : ¬ Str.ofString "nn" = Str.ofString "ni" := by decide +kernel
@[simp] theorem nf_9_8 : (Str.ofString "nn" = Str.ofString "ni") = False := eq_false ne_9_8
theorem ne_9_10 : ¬ Str.ofString "nn" = Str.ofString "nnns" := by decide +kernel
@[simp] theorem nf_9_10 : (Str.ofString "nn" = Str.ofString "nnns") = False := eq_false ne_9_10
theorem ne_9_11 : ¬ Str.ofString "nn" = Str.ofString "i" := by decide +kernel
@[simp] theorem nf_9_11 : (Str.ofString "nn" = Str.ofString "i") = False := eq_false ne_9_11
theorem ne_9_12 : ¬ Str.ofString "nn" = Str.ofString "s" := by decide +kernel
@[simp] theorem nf_9_12 : (Str.ofString "nn" = Str.ofString "s") = False := eq_false ne_9_12
theorem ne_9_13 : ¬ Str.ofString "nn" = Str.ofString "" := by decide +kernel
@[simp] theorem nf_9_13 : (Str.ofString "nn" = Str.ofString "") = False := eq_false ne_9_13
theorem ne_10_0 : ¬ Str.ofString "nnns" = Str.ofString "drop" := by decide +kernel
@[simp] theorem nf_10_0 : (Str.ofString "nnns" = Str.ofString "drop") = False := eq_false ne_10_0
theorem ne_10_1 : ¬ Str.ofString "nnns" = Str.ofString "turn" := by decide +kernel
@[simp] theorem nf_10_1 : (Str.ofString "nnns" = Str.ofString "turn") = False := eq_false ne_10_1
theorem ne_10_2 : ¬ Str.ofString "nnns" = Str.ofString "add" := by decide +kernel
@[simp] theorem nf_10_2 : (Str.ofString "nnns" = Str.ofString "add") = False := eq_false ne_10_2
theorem ne_10_3 : ¬ Str.ofString "nnns" = Str.ofString "shift" := by decide +kernel
@[simp] theorem nf_10_3 : (Str.ofString "nnns" = Str.ofString "shift") = False := eq_false ne_10_3
theorem ne_10_4 : ¬ Str.ofString "nnns" = Str.ofString "name" := by decide +kernel
@[simp] theorem nf_10_4 : (Str.ofString "nnns" = Str.ofString "name") = False := eq_false ne_10_4
theorem ne_10_5 : ¬ Str.ofString "nnns" = Str.ofString "part" := by decide +kernel
@[simp] theorem nf_10_5 : (Str.ofString "nnns" = Str.ofString "part") = False := eq_false ne_10_5
theorem ne_10_6 : ¬ Str.ofString "nnns" = Str.ofString "join" := by decide +kernel
@[simp] theorem nf_10_6 : (Str.ofString "nnns" = Str.ofString "join") = False := eq_false ne_10_6
theorem ne_10_7 : ¬ Str.ofString "nnns" = Str.ofString "n" := by decide +kernel
@[simp] theorem nf_10_7 : (Str.ofString "nnns" = Str.ofString "n") = False := eq_false ne_10_7
theorem ne_10_8 : ¬ Str.ofString "nnns" = Str.ofString "ni" := by decide +kernel
@[simp] theorem nf_10_8 : (Str.ofString "nnns" = Str.ofString "ni") = False := eq_false ne_10_8
theorem ne_10_9 : ¬ Str.ofString "nnns" = Str.ofString "nn" := by decide +kernel
@[simp] theorem nf_10_9 : (Str.ofString "nnns" = Str.ofString "nn") = False := eq_false ne_10_9
theorem ne_10_11 : ¬ Str.ofString "nnns" = Str.ofString "i" := by decide +kernel
@[simp] theorem nf_10_11 : (Str.ofString "nnns" = Str.ofString "i") = False := eq_false ne_10_11
theorem ne_10_12 : ¬ Str.ofString "nnns" = Str.ofString "s" := by decide +kernel
@[simp] theorem nf_10_12 : (Str.ofString "nnns" = Str.ofString "s") = False := eq_false ne_10_12
theorem ne_10_13 : ¬ Str.ofString "nnns" = Str.ofString "" := by decide +kernel
@[simp] theorem nf_10_13 : (Str.ofString "nnns" = Str.ofString "") = False := eq_false ne_10_13
theorem ne_11_0 : ¬ Str.ofString "i" = Str.ofString "drop" := by decide +kernel
@[simp] theorem nf_11_0 : (Str.ofString "i" = Str.ofString "drop") = False := eq_false ne_11_0
theorem ne_11_1 : ¬ Str.ofString "i" = Str.ofString "turn" := by decide +kernel
@[simp] theorem nf_11_1 : (Str.ofString "i" = Str.ofString "turn") = False := eq_false ne_11_1
theorem ne_11_2 : ¬ Str.ofString "i" = Str.ofString "add" := by decide +kernel
@[simp] theorem nf_11_2 : (Str.ofString "i" = Str.ofString "add") = False := eq_false ne_11_2
theorem ne_11_3 : ¬ Str.ofString "i" = Str.ofString "shift" := by decide +kernel
@[simp] theorem nf_11_3 : (Str.ofString "i" = Str.ofString "shift") = False := eq_false ne_11_3
theorem ne_11_4 : ¬ Str.ofString "i" = Str.ofString "name" := by decide +kernel
@[simp] theorem nf_11_4 : (Str.ofString "i" = Str.ofString "name") = False := eq_false ne_11_4
theorem ne_11_5 : ¬ Str.ofString "i" = Str.ofString "part" := by decide +kernel
@[simp] theorem nf_11_5 : (Str.ofString "i" = Str.ofString "part") = False := eq_false ne_11_5
theorem ne_11_6 : ¬ Str.ofString "i" = Str.ofString "join" := by decide +kernel
@[simp] theorem nf_11_6 : (Str.ofString "i" = Str.ofString "join") = False := eq_false ne_11_6
theorem ne_11_7 : ¬ Str.ofString "i" = Str.ofString "n" := by decide +kernel
@[simp] theorem nf_11_7 : (Str.ofString "i" = Str.ofString "n") = False := eq_false ne_11_7
theorem ne_11_8 : ¬ Str.ofString "i" = Str.ofString "ni" := by decide +kernel
@[simp] theorem nf_11_8 : (Str.ofString "i" = Str.ofString "ni") = False := eq_false ne_11_8
theorem ne_11_9 : ¬ Str.ofString "i" = Str.ofString "nn" := by decide +kernel
@[simp] theorem nf_11_9 : (Str.ofString "i" = Str.ofString "nn") = False := eq_false ne_11_9
theorem ne_11_10 : ¬ Str.ofString "i" = Str.ofString "nnns" := by decide +kernel
@[simp] theorem nf_11_10 : (Str.ofString "i" = Str.ofString "nnns") = False := eq_false ne_11_10
theorem ne_11_12 : ¬ Str.ofString "i" = Str.ofString "s" := by decide +kernel
@[simp] theorem nf_11_12 : (Str.ofString "i" = Str.ofString "s") = False := eq_false ne_11_12
theorem ne_11_13 : ¬ Str.ofString "i" = Str.ofString "" := by decide +kernel
@[simp] theorem nf_11_13 : (Str.ofString "i" = Str.ofString "") = False := eq_false ne_11_13
theorem ne_12_0 : ¬ Str.ofString "s" = Str.ofString "drop" := by decide +kernel
@[simp] theorem nf_12_0 : (Str.ofString "s" = Str.ofString "drop") = False := eq_false ne_12_0
theorem ne_12_1 : ¬ Str.ofString "s" = Str.ofString "turn" := by decide +kernel
@[simp] theorem nf_12_1 : (Str.ofString "s" = Str.ofString "turn") = False := eq_false ne_12_1
theorem ne_12_2 : ¬ Str.ofString "s" = Str.ofString "add" := by decide +kernel
@[simp] theorem nf_12_2 : (Str.ofString "s" = Str.ofString "add") = False := eq_false ne_12_2
theorem ne_12_3 : ¬ Str.ofString "s" = Str.ofString "shift" := by decide +kernel
@[simp] theorem nf_12_3 : (Str.ofString "s" = Str.ofString "shift") = False := eq_false ne_12_3
theorem ne_12_4 : ¬ Str.ofString "s" = Str.ofString "name" := by decide +kernel
@[simp] theorem nf_12_4 : (Str.ofString "s" = Str.ofString "name") = False := eq_false ne_12_4
theorem ne_12_5 : ¬ Str.ofString "s" = Str.ofString "part" := by decide +kernel
@[simp] theorem nf_12_5 : (Str.ofString "s" = Str.ofString "part") = False := eq_false ne_12_5
theorem ne_12_6 : ¬ Str.ofString "s" = Str.ofString "join" := by decide +kernel
@[simp] theorem nf_12_6 : (Str.ofString "s" = Str.ofString "join") = False := eq_false ne_12_6
theorem ne_12_7 : ¬ Str.ofString "s" = Str.ofString "n" := by decide +kernel
@[simp] theorem nf_12_7 : (Str.ofString "s" = Str.ofString "n") = False := eq_false ne_12_7
theorem ne_12_8 : ¬ Str.ofString "s" = Str.ofString "ni" := by decide +kernel
@[simp] theorem nf_12_8 : (Str.ofString "s" = Str.ofString "ni") = False := eq_false ne_12_8
theorem ne_12_9 : ¬ Str.ofString "s" = Str.ofString "nn" := by decide +kernel
@[simp] theorem nf_12_9 : (Str.ofString "s" = Str.ofString "nn") = False := eq_false ne_12_9
theorem ne_12_10 : ¬ Str.ofString "s" = Str.ofString "nnns" := by decide +kernel
@[simp] theorem nf_12_10 : (Str.ofString "s" = Str.ofString "nnns") = False := eq_false ne_12_10
theorem ne_12_11 : ¬ Str.ofString "s" = Str.ofString "i" := by decide +kernel
@[simp] theorem nf_12_11 : (Str.ofString "s" = Str.ofString "i") = False := eq_false ne_12_11
theorem ne_12_13 : ¬ Str.ofString "s" = Str.ofString "" := by decide +kernel
@[simp] theorem nf_12_13 : (Str.ofString "s" = Str.ofString "") = False := eq_false ne_12_13
theorem ne_13_0 : ¬ Str.ofString "" = Str.ofString "drop" := by decide +kernel
@[simp] theorem nf_13_0 : (Str.ofString "" = Str.ofString "drop") = False := eq_false ne_13_0
theorem ne_13_1 : ¬ Str.ofString "" = Str.ofString "turn" := by decide +kernel
@[simp] theorem nf_13_1 : (Str.ofString "" = Str.ofString "turn") = False := eq_false ne_13_1
theorem ne_13_2 : ¬ Str.ofString "" = Str.ofString "add" := by decide +kernel
@[simp] theorem nf_13_2 : (Str.ofString "" = Str.ofString "add") = False := eq_false ne_13_2
theorem ne_13_3 : ¬ Str.ofString "" = Str.ofString "shift" := by decide +kernel
@[simp] theorem nf_13_3 : (Str.ofString "" = Str.ofString "shift") = False := eq_false ne_13_3
theorem ne_13_4 : ¬ Str.ofString "" = Str.ofString "name" := by decide +kernel
@[simp] theorem nf_13_4 : (Str.ofString "" = Str.ofString "name") = False := eq_false ne_13_4
theorem ne_13_5 : ¬ Str.ofString "" = Str.ofString "part" := by decide +kernel
@[simp] theorem nf_13_5 : (Str.ofString "" = Str.ofString "part") = False := eq_false ne_13_5
theorem ne_13_6 : ¬ Str.ofString "" = Str.ofString "join" := by decide +kernel
@[simp] theorem nf_13_6 : (Str.ofString "" = Str.ofString "join") = False := eq_false ne_13_6
theorem ne_13_7 : ¬ Str.ofString "" = Str.ofString "n" := by decide +kernel
@[simp] theorem nf_13_7 : (Str.ofString "" = Str.ofString "n") = False := eq_false ne_13_7
theorem ne_13_8 : ¬ Str.ofString "" = Str.ofString "ni" := by decide +kernel
@[simp] theorem nf_13_8 : (Str.ofString "" = Str.ofString "ni") = False := eq_false ne_13_8
theorem ne_13_9 : ¬ Str.ofString "" = Str.ofString "nn" := by decide +kernel
@[simp] theorem nf_13_9 : (Str.ofString "" = Str.ofString "nn") = False := eq_false ne_13_9
theorem ne_13_10 : ¬ Str.ofString "" = Str.ofString "nnns" := by decide +kernel
@[simp] theorem nf_13_10 : (Str.ofString "" = Str.ofString "nnns") = False := eq_false ne_13_10
theorem ne_13_11 : ¬ Str.ofString "" = Str.ofString "i" := by decide +kernel
@[simp] theorem nf_13_11 : (Str.ofString "" = Str.ofString "i") = False := eq_false ne_13_11
theorem ne_13_12 : ¬ Str.ofString "" = Str.ofString "s" := by decide +kernel
@[simp] theorem nf_13_12 : (Str.ofString "" = Str.ofString "s") = False := eq_false ne_13_12
/-- a comprehension's elements, each of a kind -/
theorem compF_P {i : Nat} {e : M} {s : Sto} {sl : List Sl} {P : F → Prop} : ∀ (xs : List F), (∀ x ∈ xs, ∃ y z, e (sl.set i (.v (.f x))) s = .ok y s ∧ frz y = .f z ∧ P z) → ∃ zs, compF i (mC (.bl true)) e xs sl s = .ok zs s ∧ zs.length = xs.length ∧ ∀ z ∈ zs, P z
  | [], _ => ⟨[], rfl, rfl, fun _ h => by cases h⟩
  | x :: xs, h => by
    obtain ⟨zs, e1, e2, e3⟩ := compF_P xs fun y hy => h y (List.mem_cons_of_mem _ hy)
    obtain ⟨y, z, h1, h2, h3⟩ := h x List.mem_cons_self
    refine ⟨z :: zs, ?_, by rw [List.length_cons, List.length_cons, e2], fun u hu => ?_⟩
    · unfold compF
      simp only [mC, Fm.R.bind_ok, h1, h2, e1]
    · rcases List.mem_cons.mp hu with rfl | hu
      · exact h3
      · exact e3 u hu
theorem sgs_of : ∀ (zs : List F), (∀ z ∈ zs, ∃ c, z = .str ⟨#[c]⟩) → ∃ l : List Nat, zs = l.map fun c => F.str ⟨#[c]⟩
  | [], _ => ⟨[], rfl⟩
  | z :: zs, h => by
    obtain ⟨c, rfl⟩ := h z List.mem_cons_self
    obtain ⟨l, rfl⟩ := sgs_of zs fun y hy => h y (List.mem_cons_of_mem _ hy)
    exact ⟨c :: l, rfl⟩
/-- a sign of a text -/
theorem sign_at {z : Str} {i : Int} (hz : z.length ≤ sizeLine) (h0 : 0 ≤ i) (h : i < z.length) : ∃ c, ixF (.str z) (.int i) = .val (.str ⟨#[c]⟩) := by
  obtain ⟨c, hc, _⟩ := atI_in (xs := z.cps.toList) h0 (by
    have : (z.length : Int) = z.cps.toList.length := by simp [Str.length]
    omega)
  exact ⟨c, by simp [ixF, hz, hc]⟩
/-- an item of a list -/
theorem item_at {xs : List F} {i : Int} (h0 : 0 ≤ i) (h : i < xs.length) : ∃ x, ixF (.lst xs) (.int i) = .val x ∧ x ∈ xs := by
  obtain ⟨c, hc, hm⟩ := atI_in (xs := xs) h0 (by omega)
  exact ⟨c, by simp [ixF, hc], hm⟩
theorem inB_of2 {i : Int} (h : i.natAbs < 4611686018427387904) : inB i = true := decide_eq_true h
theorem mulOk_of {i j : Int} (h : i.natAbs < 18446744073709551616 ∨ j.natAbs < 18446744073709551616) : mulOk i j = true := by
  unfold mulOk
  rw [Bool.or_eq_true, decide_eq_true_eq, decide_eq_true_eq]
  exact h
theorem divOk_of {j : Int} (h : j ≠ 0 ∧ j.natAbs < 1073741824) : divOk j = true := decide_eq_true h
theorem repOk_of {x : Str} {n : Int} (h : 0 ≤ n ∧ n ≤ 100 ∧ x.length ≤ 1000) : repOk x n = true := decide_eq_true h
theorem powOk_of {i j : Int} (h : 0 ≤ j ∧ j ≤ 1000000 ∧ i.natAbs < 18446744073709551616) : powOk i j = true := by
  have e : (2 : Nat) ^ 64 = 18446744073709551616 := by decide
  unfold powOk
  rw [e]
  exact decide_eq_true h
@[simp] theorem dv2 : divOk 2 = true := divOk_of (by decide)
@[simp] theorem dv3 : divOk 3 = true := divOk_of (by decide)
@[simp] theorem dv4 : divOk 4 = true := divOk_of (by decide)
@[simp] theorem dv5 : divOk 5 = true := divOk_of (by decide)
@[simp] theorem dv7 : divOk 7 = true := divOk_of (by decide)
@[simp] theorem dv8 : divOk 8 = true := divOk_of (by decide)
@[simp] theorem dv9 : divOk 9 = true := divOk_of (by decide)
@[simp] theorem dv10 : divOk 10 = true := divOk_of (by decide)
@[simp] theorem dv11 : divOk 11 = true := divOk_of (by decide)
@[simp] theorem dv17 : divOk 17 = true := divOk_of (by decide)
@[simp] theorem dv19 : divOk 19 = true := divOk_of (by decide)
@[simp] theorem dv26 : divOk 26 = true := divOk_of (by decide)
@[simp] theorem dv52 : divOk 52 = true := divOk_of (by decide)
@[simp] theorem dv60 : divOk 60 = true := divOk_of (by decide)
@[simp] theorem dv99 : divOk 99 = true := divOk_of (by decide)
@[simp] theorem dv100 : divOk 100 = true := divOk_of (by decide)
@[simp] theorem dv286 : divOk 286 = true := divOk_of (by decide)
@[simp] theorem dv416 : divOk 416 = true := divOk_of (by decide)
@[simp] theorem pw10_60 : powOk 10 60 = true := powOk_of (by decide)
@[simp] theorem pw10_50 : powOk 10 50 = true := powOk_of (by decide)
@[simp] theorem pw10_15 : powOk 10 15 = true := powOk_of (by decide)
@[simp] theorem pw10_12 : powOk 10 12 = true := powOk_of (by decide)
end Fm

/-! FR: plain facts of loops by number, of dicts. -/
namespace Fm
open PySem L2
theorem rgF_succ (a : Int) (n : Nat) : rgF a 1 (n + 1) = rgF a 1 n ++ [F.int (a + n)] := by
  unfold rgF
  rw [List.range_succ, List.map_append]
  simp
theorem loop_from {i : Nat} {body : MS} {s : Sto} {P : Nat → List Sl → Prop} {a : Int} {n : Nat} : ∀ (m k : Nat) (sl : List Sl), k + m = n → P k sl → (∀ k, k < n → ∀ sl, P k sl → ∃ sl', body (sl.set i (.v (.f (.int (a + k))))) s = .nx sl' s ∧ P (k + 1) sl') →
    ∃ sl', loopF i body ((List.range' k m).map fun (k : Nat) => F.int (a + k)) sl s = .nx sl' s ∧ P n sl'
  | 0, k, sl, e, hp, _ => by
    have : k = n := by omega
    subst this
    exact ⟨sl, rfl, hp⟩
  | m + 1, k, sl, e, hp, h => by
    obtain ⟨sl1, e1, h1⟩ := h k (by omega) sl hp
    obtain ⟨sl2, e2, h2⟩ := loop_from m (k + 1) sl1 (by omega) h1 h
    refine ⟨sl2, ?_, h2⟩
    rw [List.range'_succ, List.map_cons]
    unfold loopF
    rw [e1]
    exact e2
/-- for k in range(n), by an invariant -/
theorem loop_rg {i : Nat} {body : MS} {s : Sto} {P : Nat → List Sl → Prop} {n : Nat} (sl : List Sl) (hp : P 0 sl) (h : ∀ k, k < n → ∀ sl, P k sl → ∃ sl', body (sl.set i (.v (.f (.int (k : Int))))) s = .nx sl' s ∧ P (k + 1) sl') :
    ∃ sl', loopF i body (rgF 0 1 n) sl s = .nx sl' s ∧ P n sl' := by
  have e : rgF 0 1 n = (List.range' 0 n).map fun (k : Nat) => F.int (0 + k) := by
    unfold rgF
    rw [List.range_eq_range']
    exact List.map_congr_left fun k _ => by rw [Int.mul_one]
  rw [e]
  exact loop_from n 0 sl (by omega) hp fun k hk sl hp => by
    obtain ⟨sl', h1, h2⟩ := h k hk sl hp
    exact ⟨sl', by rw [Int.zero_add]; exact h1, h2⟩
/-! ### dicts -/
section
variable {α : Type}
theorem vK_nil (k : Key) : vK ([] : List (Key × α)) k = none := rfl
theorem vK_cons (l : Key) (x : α) (r : List (Key × α)) (k : Key) : vK ((l, x) :: r) k = if l = k then some x else vK r k := by
  unfold vK
  rw [List.find?_cons]
  by_cases h : l = k
  · simp [h]
  · simp [h]
theorem vK_app (xs ys : List (Key × α)) (k : Key) : vK (xs ++ ys) k = (vK xs k).or (vK ys k) := by
  induction xs with
  | nil => simp [vK_nil]
  | cons p xs ih =>
    obtain ⟨l, x⟩ := p
    rw [List.cons_append, vK_cons, vK_cons, ih]
    split <;> simp
theorem vK_some_any {kvs : List (Key × α)} {k : Key} : (kvs.any fun kv => decide (kv.1 = k)) = (vK kvs k).isSome := by
  induction kvs with
  | nil => rfl
  | cons p r ih =>
    obtain ⟨l, x⟩ := p
    rw [List.any_cons, vK_cons, ih]
    by_cases h : l = k <;> simp [h]
theorem vK_repl (kvs : List (Key × α)) (k : Key) (v : α) (k' : Key) : vK (kvs.map fun kv => if kv.1 = k then (kv.1, v) else kv) k' = if k' = k then (vK kvs k').map (fun _ => v) else vK kvs k' := by
  induction kvs with
  | nil => simp [vK_nil]
  | cons p r ih =>
    obtain ⟨l, x⟩ := p
    rw [List.map_cons, vK_cons]
    by_cases h : l = k
    · simp only [h, if_true, vK_cons, ih]
      by_cases h2 : k = k'
      · simp [h2]
      · have : ¬ k' = k := fun z => h2 z.symm
        simp [h2, this]
    · simp only [h, if_false, vK_cons, ih]
      by_cases h2 : l = k'
      · have : ¬ k' = k := fun z => h (h2.trans z)
        simp [h2, this]
      · simp [h2]
theorem vK_put (kvs : List (Key × α)) (k : Key) (v : α) (k' : Key) : vK (pK kvs k v) k' = if k' = k then some v else vK kvs k' := by
  unfold pK
  rw [vK_some_any]
  split
  · rename_i h
    rw [vK_repl]
    by_cases h2 : k' = k
    · subst h2
      obtain ⟨x, hx⟩ := Option.isSome_iff_exists.mp h
      simp [hx]
    · simp [h2]
  · rename_i h
    rw [vK_app, vK_cons, vK_nil]
    by_cases h2 : k' = k
    · subst h2
      have : vK kvs k' = none := by
        cases e : vK kvs k' with
        | none => rfl
        | some x => rw [e] at h; simp at h
      simp [this]
    · have : ¬ k = k' := fun z => h2 z.symm
      simp [h2, this]
theorem vK_drp (kvs : List (Key × α)) (k k' : Key) : vK (dK kvs k) k' = if k' = k then none else vK kvs k' := by
  unfold dK
  induction kvs with
  | nil => simp [vK_nil]
  | cons p r ih =>
    obtain ⟨l, x⟩ := p
    rw [List.filter_cons]
    by_cases h : l = k
    · subst h
      simp only [ne_eq, not_true, decide_false, Bool.false_eq_true, if_false, ih, vK_cons]
      by_cases h2 : l = k'
      · simp [h2]
      · simp [h2]
    · simp only [ne_eq, h, not_false_eq_true, decide_true, if_true, vK_cons, ih]
      by_cases h2 : l = k'
      · subst h2; simp [h]
      · simp [h2]
/-- the keys, each once -/
def NdK (kvs : List (Key × α)) : Prop := (kvs.map (·.1)).Nodup
theorem mem_vK {kvs : List (Key × α)} {k : Key} : k ∈ kvs.map (·.1) ↔ (vK kvs k).isSome = true := by
  rw [← vK_some_any, List.any_eq_true, List.mem_map]
  constructor
  · rintro ⟨p, hp, e⟩; exact ⟨p, hp, by simp [e]⟩
  · rintro ⟨p, hp, e⟩; exact ⟨p, hp, by simpa using e⟩
theorem NdK.put {kvs : List (Key × α)} (h : NdK kvs) (k : Key) (v : α) : NdK (pK kvs k v) := by
  unfold pK
  rw [vK_some_any]
  split
  · unfold NdK at h ⊢
    rw [List.map_map]
    have : ((fun x : Key × α => x.1) ∘ fun kv => if kv.1 = k then (kv.1, v) else kv) = fun x => x.1 := by
      funext p; simp only [Function.comp]; split <;> rfl
    rw [this]; exact h
  · rename_i q
    unfold NdK at h ⊢
    rw [List.map_append, List.nodup_append]
    refine ⟨h, by simp, fun a ha b hb z => ?_⟩
    simp at hb
    subst z hb
    exact q (mem_vK.mp ha)
theorem NdK.drp {kvs : List (Key × α)} (h : NdK kvs) (k : Key) : NdK (dK kvs k) := by
  unfold NdK dK at *
  exact List.Nodup.sublist (List.Sublist.map _ List.filter_sublist) h
theorem NdK.len {xs ys : List (Key × α)} (h : NdK xs) (h2 : NdK ys) (e : ∀ k, (vK xs k).isSome = (vK ys k).isSome) : xs.length = ys.length := by
  have : (xs.map (·.1)).Perm (ys.map (·.1)) := (List.perm_ext_iff_of_nodup h h2).mpr fun k => by rw [mem_vK, mem_vK, e]
  simpa using this.length_eq
theorem vK_mem {kvs : List (Key × α)} (h : NdK kvs) {k : Key} {x : α} (m : (k, x) ∈ kvs) : vK kvs k = some x := by
  induction kvs with
  | nil => cases m
  | cons p r ih =>
    obtain ⟨l, y⟩ := p
    rw [vK_cons]
    unfold NdK at h
    rw [List.map_cons, List.nodup_cons] at h
    rcases List.mem_cons.mp m with e | m
    · cases e; simp
    · rw [if_neg fun z => h.1 (by rw [z]; exact List.mem_map.mpr ⟨_, m, rfl⟩)]
      exact ih h.2 m
end
/-- dicts of whole numbers -/
def IntD (kvs : List (Key × F)) : Prop := ∀ k x, vK kvs k = some x → ∃ i, x = .int i
theorem eqFl_int {i : Int} : eqFl (.int i) (.int i) = true := by simp
/-- equal as dicts -/
theorem eqD {xs ys : List (Key × F)} (n1 : NdK xs) (n2 : NdK ys) (d1 : IntD xs) (e : ∀ k, vK xs k = vK ys k) : eqT (.dct xs) (.dct ys) = some true := by
  have d2 : IntD ys := fun k x h => d1 k x (by rw [e]; exact h)
  have f : ∀ {zs : List (Key × F)}, NdK zs → IntD zs → (zs.all fun p => flatF p.2) = true := fun {zs} n d => by
    rw [List.all_eq_true]
    rintro ⟨k, x⟩ hm
    obtain ⟨i, rfl⟩ := d k x (vK_mem n hm)
    rfl
  have len : xs.length = ys.length := n1.len n2 fun k => by rw [e]
  show eqN 6 (.dct xs) (.dct ys) = _
  unfold eqN
  rw [f n1 d1, f n2 d2]
  simp only [Bool.and_self, if_true, len, decide_true, Bool.true_and, Option.some.injEq]
  rw [List.all_eq_true]
  rintro ⟨k, x⟩ hm
  have h1 := vK_mem n1 hm
  obtain ⟨i, rfl⟩ := d1 k x h1
  rw [← e, h1]
  exact eqFl_int
end Fm

namespace K05
open PySem L2 Fm
/-! ### what the defs compute -/
def N_begins_from : List Str := ["step"]
def b_begins_from : MS := (sSeq (sIf (mB eqF (mB ixF (mVar 0) (mC (.int 0))) (mC (.str "add"))) (sRet (mLst aNil)) sSkip) (sSeq (sIf (mB eqF (mB ixF (mVar 0) (mC (.int 0))) (mC (.str "join"))) (sRet (mLst (aCons (mB ixF (mVar 0) (mC (.int 1))) (aCons (mB ixF (mVar 0) (mC (.int 2))) aNil)))) sSkip) (sRet (mLst (aCons (mB ixF (mVar 0) (mC (.int 1))) aNil)))))
def p_begins_from : Psi := runA 1 b_begins_from
def N_brings : List Str := ["step"]
def b_brings : MS := (sSeq (sIf (mB eqF (mB ixF (mVar 0) (mC (.int 0))) (mC (.str "drop"))) (sRet (mLst aNil)) sSkip) (sSeq (sIf (mB eqF (mB ixF (mVar 0) (mC (.int 0))) (mC (.str "name"))) (sRet (mLst (aCons (mB ixF (mVar 0) (mC (.int 2))) aNil))) sSkip) (sSeq (sIf (mB eqF (mB ixF (mVar 0) (mC (.int 0))) (mC (.str "part"))) (sRet (mLst (aCons (mB ixF (mVar 0) (mC (.int 2))) (aCons (mB ixF (mVar 0) (mC (.int 3))) aNil)))) sSkip) (sSeq (sIf (mB eqF (mB ixF (mVar 0) (mC (.int 0))) (mC (.str "join"))) (sRet (mLst (aCons (mB ixF (mVar 0) (mC (.int 3))) aNil))) sSkip) (sRet (mLst (aCons (mB ixF (mVar 0) (mC (.int 1))) aNil)))))))
def p_brings : Psi := runA 1 b_brings
def N_forth : List Str := ["step", "reading", "own", "found", "name", "word"]
def b_forth : MS := (sSeq (sOwn 3 (mN dictF (aCons (mVar 1) aNil))) (sSeq (sFor 4 (iL (mCall p_begins_from (aCons (mVar 0) aNil))) (sPopD (mVar 3) (mVar 4))) (sSeq (sSet 5 (mB ixF (mVar 0) (mC (.int 0)))) (sSeq (sIf (mB eqF (mVar 5) (mC (.str "add"))) (sPutD (mVar 3) (mB ixF (mVar 0) (mC (.int 1))) (mVar 2)) (sIf (mB eqF (mVar 5) (mC (.str "name"))) (sPutD (mVar 3) (mB ixF (mVar 0) (mC (.int 2))) (mB dgetF (mVar 1) (mB ixF (mVar 0) (mC (.int 1))))) (sIf (mB eqF (mVar 5) (mC (.str "shift"))) (sPutD (mVar 3) (mB ixF (mVar 0) (mC (.int 1))) (mB addF (mB dgetF (mVar 1) (mB ixF (mVar 0) (mC (.int 1)))) (mB ixF (mVar 0) (mC (.int 2))))) (sIf (mB eqF (mVar 5) (mC (.str "turn"))) (sPutD (mVar 3) (mB ixF (mVar 0) (mC (.int 1))) (mB subF (mC (.int 0)) (mB dgetF (mVar 1) (mB ixF (mVar 0) (mC (.int 1)))))) (sIf (mB eqF (mVar 5) (mC (.str "part"))) (sSeq (sPutD (mVar 3) (mB ixF (mVar 0) (mC (.int 2))) (mB divF (mB dgetF (mVar 1) (mB ixF (mVar 0) (mC (.int 1)))) (mB ixF (mVar 0) (mC (.int 4))))) (sPutD (mVar 3) (mB ixF (mVar 0) (mC (.int 3))) (mB modF (mB dgetF (mVar 1) (mB ixF (mVar 0) (mC (.int 1)))) (mB ixF (mVar 0) (mC (.int 4)))))) (sIf (mB eqF (mVar 5) (mC (.str "join"))) (sPutD (mVar 3) (mB ixF (mVar 0) (mC (.int 3))) (mB addF (mB mulF (mB dgetF (mVar 1) (mB ixF (mVar 0) (mC (.int 1)))) (mB ixF (mVar 0) (mC (.int 4)))) (mB dgetF (mVar 1) (mB ixF (mVar 0) (mC (.int 2)))))) sSkip)))))) (sSeq (sFrz 3) (sRet (mVar 3)))))))
def p_forth : Psi := runA 6 b_forth
def N_back : List Str := ["step", "reading", "elder", "found", "name", "word", "more"]
def b_back : MS := (sSeq (sOwn 3 (mN dictF (aCons (mVar 1) aNil))) (sSeq (sFor 4 (iL (mCall p_brings (aCons (mVar 0) aNil))) (sPopD (mVar 3) (mVar 4))) (sSeq (sSet 5 (mB ixF (mVar 0) (mC (.int 0)))) (sSeq (sIf (mB eqF (mVar 5) (mC (.str "drop"))) (sPutD (mVar 3) (mB ixF (mVar 0) (mC (.int 1))) (mB dgetF (mVar 2) (mB ixF (mVar 0) (mC (.int 1))))) (sIf (mB eqF (mVar 5) (mC (.str "name"))) (sPutD (mVar 3) (mB ixF (mVar 0) (mC (.int 1))) (mB dgetF (mVar 1) (mB ixF (mVar 0) (mC (.int 2))))) (sIf (mB eqF (mVar 5) (mC (.str "shift"))) (sPutD (mVar 3) (mB ixF (mVar 0) (mC (.int 1))) (mB subF (mB dgetF (mVar 1) (mB ixF (mVar 0) (mC (.int 1)))) (mB ixF (mVar 0) (mC (.int 2))))) (sIf (mB eqF (mVar 5) (mC (.str "turn"))) (sPutD (mVar 3) (mB ixF (mVar 0) (mC (.int 1))) (mB subF (mC (.int 0)) (mB dgetF (mVar 1) (mB ixF (mVar 0) (mC (.int 1)))))) (sIf (mB eqF (mVar 5) (mC (.str "part"))) (sSeq (sIf (mOr (mB ltF (mB dgetF (mVar 1) (mB ixF (mVar 0) (mC (.int 3)))) (mC (.int 0))) (mB geF (mB dgetF (mVar 1) (mB ixF (mVar 0) (mC (.int 3)))) (mB ixF (mVar 0) (mC (.int 4))))) sBad sSkip) (sPutD (mVar 3) (mB ixF (mVar 0) (mC (.int 1))) (mB addF (mB mulF (mB dgetF (mVar 1) (mB ixF (mVar 0) (mC (.int 2)))) (mB ixF (mVar 0) (mC (.int 4)))) (mB dgetF (mVar 1) (mB ixF (mVar 0) (mC (.int 3))))))) (sIf (mB eqF (mVar 5) (mC (.str "join"))) (sSeq (sSet 6 (mB divF (mB dgetF (mVar 2) (mB ixF (mVar 0) (mC (.int 2)))) (mB ixF (mVar 0) (mC (.int 4))))) (sSeq (sPutD (mVar 3) (mB ixF (mVar 0) (mC (.int 1))) (mB subF (mB divF (mB dgetF (mVar 1) (mB ixF (mVar 0) (mC (.int 3)))) (mB ixF (mVar 0) (mC (.int 4)))) (mVar 6))) (sPutD (mVar 3) (mB ixF (mVar 0) (mC (.int 2))) (mB addF (mB modF (mB dgetF (mVar 1) (mB ixF (mVar 0) (mC (.int 3)))) (mB ixF (mVar 0) (mC (.int 4)))) (mB mulF (mVar 6) (mB ixF (mVar 0) (mC (.int 4)))))))) sSkip)))))) (sSeq (sFrz 3) (sRet (mVar 3)))))))
def p_back : Psi := runA 7 b_back
def N_l_cell_at : List Str := ["_law_script", "_law_k"]
def b_l_cell_at : MS := (sSeq (sIf (mB ltF (mVar 1) (mN lenF (aCons (mVar 0) aNil))) (sRet (mB ixF (mVar 0) (mVar 1))) sSkip) (sRet (mC (.int 0))))
def p_l_cell_at : Psi := runA 2 b_l_cell_at
def N_l_pool : List Str := ["_law_cell", "_law_signs", "_law_found", "_law_k", "_law_same", "_law_ahead", "_law_word", "_law_first", "_law_j"]
def b_l_pool : MS := (sSeq (sSet 1 (mC (.str "abcdefghijklmnopqrstuvwxyz"))) (sSeq (sOwn 2 (mLst aNil)) (sSeq (sFor 3 (iR1 (mC (.int 26))) (sSeq (sSet 4 (mB ixF (mVar 1) (mB modF (mB divF (mVar 0) (mC (.int 2))) (mC (.int 26))))) (sSeq (sSet 5 (mB modF (mB divF (mVar 0) (mC (.int 52))) (mC (.int 8)))) (sSeq (sSet 6 (mB addF (mB mulF (mVar 4) (mVar 5)) (mB ixF (mVar 1) (mB modF (mB addF (mB divF (mVar 0) (mC (.int 416))) (mB mulF (mC (.int 7)) (mVar 3))) (mC (.int 26)))))) (sSeq (sSet 6 (mB addF (mVar 6) (mB mulF (mVar 4) (mB modF (mB divF (mVar 0) (mC (.int 416))) (mB subF (mC (.int 8)) (mVar 5)))))) (sSeq (sIf (mB eqF (mB modF (mVar 0) (mC (.int 2))) (mC (.int 1))) (sSeq (sSet 7 (mB addF (mB divF (mVar 0) (mC (.int 2))) (mB mulF (mB divF (mVar 3) (mC (.int 8))) (mC (.int 3))))) (sSet 6 (mU (joinA "") (mLc 8 (iR1 (mB addF (mC (.int 1)) (mB modF (mVar 3) (mC (.int 8))))) (mC (.bl true)) (mB ixF (mVar 1) (mB modF (mB addF (mVar 7) (mVar 8)) (mC (.int 26)))))))) sSkip) (sAppL (mVar 2) (mVar 6)))))))) (sSeq (sFrz 2) (sRet (mVar 2))))))
def p_l_pool : Psi := runA 9 b_l_pool
def N_l_number : List Str := ["_law_cell"]
def b_l_number : MS := (sSeq (sIf (mB eqF (mB modF (mVar 0) (mC (.int 3))) (mC (.int 0))) (sRet (mB subF (mB modF (mB divF (mVar 0) (mC (.int 3))) (mC (.int 401))) (mC (.int 200)))) sSkip) (sSeq (sIf (mB eqF (mB modF (mVar 0) (mC (.int 3))) (mC (.int 1))) (sRet (mB subF (mB modF (mB mulF (mVar 0) (mC (.int 48271))) (mB subF (mB mulF (mC (.int 2)) (mB powF (mC (.int 10)) (mC (.int 50)))) (mC (.int 1)))) (mB subF (mB powF (mC (.int 10)) (mC (.int 50))) (mC (.int 1))))) sSkip) (sRet (mB subF (mB modF (mVar 0) (mB subF (mB mulF (mC (.int 2)) (mB powF (mC (.int 10)) (mC (.int 50)))) (mC (.int 1)))) (mB subF (mB powF (mC (.int 10)) (mC (.int 50))) (mC (.int 1)))))))
def p_l_number : Psi := runA 1 b_l_number
def N_l_step : List Str := ["_law_kind", "_law_names", "_law_new", "_law_size", "_law_n"]
def b_l_step : MS := (sSeq (sIf (mB eqF (mVar 0) (mC (.int 0))) (sRet (mTup (aCons (mC (.str "add")) (aCons (mB ixF (mVar 2) (mC (.int 0))) (aCons (mVar 4) aNil))))) sSkip) (sSeq (sIf (mB eqF (mVar 0) (mC (.int 1))) (sRet (mTup (aCons (mC (.str "drop")) (aCons (mB ixF (mVar 1) (mC (.int 0))) aNil)))) sSkip) (sSeq (sIf (mB eqF (mVar 0) (mC (.int 2))) (sRet (mTup (aCons (mC (.str "name")) (aCons (mB ixF (mVar 1) (mC (.int 0))) (aCons (mB ixF (mVar 2) (mC (.int 0))) aNil))))) sSkip) (sSeq (sIf (mB eqF (mVar 0) (mC (.int 3))) (sRet (mTup (aCons (mC (.str "shift")) (aCons (mB ixF (mVar 1) (mC (.int 0))) (aCons (mVar 4) aNil))))) sSkip) (sSeq (sIf (mB eqF (mVar 0) (mC (.int 4))) (sRet (mTup (aCons (mC (.str "turn")) (aCons (mB ixF (mVar 1) (mC (.int 0))) aNil)))) sSkip) (sSeq (sIf (mOr (mB eqF (mVar 0) (mC (.int 5))) (mB eqF (mVar 0) (mC (.int 7)))) (sRet (mTup (aCons (mC (.str "part")) (aCons (mB ixF (mVar 1) (mC (.int 0))) (aCons (mB ixF (mVar 2) (mC (.int 0))) (aCons (mB ixF (mVar 2) (mC (.int 1))) (aCons (mVar 3) aNil))))))) sSkip) (sRet (mTup (aCons (mC (.str "join")) (aCons (mB ixF (mVar 1) (mC (.int 0))) (aCons (mB ixF (mVar 1) (mC (.int 1))) (aCons (mB ixF (mVar 2) (mC (.int 0))) (aCons (mVar 3) aNil)))))))))))))
def p_l_step : Psi := runA 5 b_l_step
def N_l_other : List Str := ["_law_script", "_law_at", "_law_step_here", "_law_reading", "_law_found", "_law_row", "_law_k"]
def b_l_other : MS := (sSeq (sOwn 4 mDnew) (sSeq (sSet 5 (mN sortF (aCons (mVar 3) aNil))) (sSeq (sFor 6 (iR1 (mN lenF (aCons (mVar 5) aNil))) (sPutD (mVar 4) (mB ixF (mVar 5) (mVar 6)) (mCall p_l_number (aCons (mB addF (mCall p_l_cell_at (aCons (mVar 0) (aCons (mB addF (mVar 1) (mB modF (mVar 6) (mC (.int 16)))) aNil))) (mB mulF (mC (.int 7)) (mVar 6))) aNil)))) (sSeq (sIf (mB eqF (mB ixF (mVar 2) (mC (.int 0))) (mC (.str "part"))) (sPutD (mVar 4) (mB ixF (mVar 2) (mC (.int 3))) (mB modF (mB dgetF (mVar 4) (mB ixF (mVar 2) (mC (.int 3)))) (mB ixF (mVar 2) (mC (.int 4))))) sSkip) (sSeq (sFrz 4) (sRet (mVar 4)))))))
def p_l_other : Psi := runA 7 b_l_other
def N_law : List Str := ["_law_script", "_law_pool_here", "_law_names", "_law_elder", "_law_k", "_law_turn", "_law_kind", "_law_size", "_law_n", "_law_some", "_law_new", "_law_step_here", "_law_first", "_law_one", "_law_other_here", "_law_middle", "_law_alone"]
def b_law : MS := (sSeq (sSet 1 (mCall p_l_pool (aCons (mCall p_l_cell_at (aCons (mVar 0) (aCons (mC (.int 0)) aNil))) aNil))) (sSeq (sSet 2 (mSl slF (mVar 1) none (some (mB addF (mC (.int 2)) (mB modF (mCall p_l_cell_at (aCons (mVar 0) (aCons (mC (.int 1)) aNil))) (mC (.int 10))))))) (sSeq (sOwn 3 mDnew) (sSeq (sFor 4 (iR1 (mN lenF (aCons (mVar 2) aNil))) (sPutD (mVar 3) (mB ixF (mVar 2) (mVar 4)) (mCall p_l_number (aCons (mCall p_l_cell_at (aCons (mVar 0) (aCons (mB addF (mC (.int 7)) (mVar 4)) aNil))) aNil)))) (sSeq (sFrz 3) (sSeq (sSet 5 (mB modF (mCall p_l_cell_at (aCons (mVar 0) (aCons (mC (.int 2)) aNil))) (mN lenF (aCons (mVar 2) aNil)))) (sSeq (sSet 6 (mB modF (mCall p_l_cell_at (aCons (mVar 0) (aCons (mC (.int 3)) aNil))) (mC (.int 9)))) (sSeq (sSet 7 (mB addF (mC (.int 2)) (mB modF (mCall p_l_cell_at (aCons (mVar 0) (aCons (mC (.int 4)) aNil))) (mC (.int 999999))))) (sSeq (sIf (mB eqF (mB modF (mCall p_l_cell_at (aCons (mVar 0) (aCons (mC (.int 5)) aNil))) (mC (.int 2))) (mC (.int 1))) (sSet 7 (mB addF (mC (.int 2)) (mB modF (mCall p_l_cell_at (aCons (mVar 0) (aCons (mC (.int 4)) aNil))) (mC (.int 70))))) sSkip) (sSeq (sSet 8 (mCall p_l_number (aCons (mCall p_l_cell_at (aCons (mVar 0) (aCons (mC (.int 6)) aNil))) aNil))) (sSeq (sSet 9 (mB addF (mSl slF (mVar 2) (some (mVar 5)) none) (mSl slF (mVar 2) none (some (mVar 5))))) (sSeq (sOwn 10 (mLst (aCons (mB ixF (mVar 1) (mC (.int 13))) (aCons (mB ixF (mVar 1) (mC (.int 14))) aNil)))) (sSeq (sIf (mAnd (mB gtF (mVar 6) (mC (.int 5))) (mB gtF (mB modF (mB divF (mCall p_l_cell_at (aCons (mVar 0) (aCons (mC (.int 5)) aNil))) (mC (.int 2))) (mC (.int 3))) (mC (.int 0)))) (sPutL (mVar 10) (mC (.int 0)) (mB ixF (mVar 9) (mB subF (mB modF (mB divF (mCall p_l_cell_at (aCons (mVar 0) (aCons (mC (.int 5)) aNil))) (mC (.int 2))) (mC (.int 3))) (mC (.int 1))))) sSkip) (sSeq (sIf (mB eqF (mVar 6) (mC (.int 7))) (sPutL (mVar 10) (mC (.int 0)) (mB ixF (mVar 9) (mC (.int 0)))) sSkip) (sSeq (sFrz 10) (sSeq (sSet 11 (mCall p_l_step (aCons (mVar 6) (aCons (mVar 9) (aCons (mVar 10) (aCons (mVar 7) (aCons (mVar 8) aNil))))))) (sSeq (sSet 12 (mCall p_forth (aCons (mVar 11) (aCons (mN dictF (aCons (mVar 3) aNil)) (aCons (mVar 8) aNil))))) (sSeq (sIf (mNot (mU (isiF .dct) (mVar 12))) (sRet (mC (.bl false))) sSkip) (sSeq (sSet 13 (mCall p_l_other (aCons (mVar 0) (aCons (mC (.int 20)) (aCons (mVar 11) (aCons (mVar 12) aNil)))))) (sSeq (sSet 14 (mCall p_l_other (aCons (mVar 0) (aCons (mC (.int 37)) (aCons (mVar 11) (aCons (mVar 12) aNil)))))) (sSeq (sSet 15 (mCall p_back (aCons (mVar 11) (aCons (mN dictF (aCons (mVar 13) aNil)) (aCons (mN dictF (aCons (mVar 3) aNil)) aNil))))) (sSeq (sSet 16 (mCall p_back (aCons (mVar 11) (aCons (mN dictF (aCons (mVar 14) aNil)) (aCons (mN dictF (aCons (mVar 3) aNil)) aNil))))) (sSeq (sIf (mOr (mNot (mU (isiF .dct) (mVar 15))) (mNot (mU (isiF .dct) (mVar 16)))) (sRet (mC (.bl false))) sSkip) (sSeq (sIf (mB neF (mCall p_back (aCons (mVar 11) (aCons (mN dictF (aCons (mVar 14) aNil)) (aCons (mN dictF (aCons (mVar 15) aNil)) aNil)))) (mVar 16)) (sRet (mC (.bl false))) sSkip) (sRet (mAnd (mB eqF (mCall p_back (aCons (mVar 11) (aCons (mN dictF (aCons (mVar 12) aNil)) (aCons (mN dictF (aCons (mVar 15) aNil)) aNil)))) (mVar 3)) (mB eqF (mCall p_back (aCons (mVar 11) (aCons (mN dictF (aCons (mVar 12) aNil)) (aCons (mN dictF (aCons (mVar 16) aNil)) aNil)))) (mVar 3))))))))))))))))))))))))))))
def p_law : Psi := runA 17 b_law
end K05

namespace K05
open PySem L2 Fm
def cl (ns : List Int) (k : Int) : Int := match L2.atI ns k with
  | some i => i
  | none => 0
theorem r_l_cell_at {s : Sto} (hs : insOk s) (ns : List Int) (k : Int) (h0 : 0 ≤ k) : p_l_cell_at [.f (.scr ns), .f (.int k)] s = .ok (.w (.f (.int (cl ns k)))) s := by
  refine runA_rt hs ?_
  by_cases h : k < ns.length
  · obtain ⟨x, hx, _⟩ := atI_in (xs := ns) h0 (by omega)
    simp [b_l_cell_at, h, hx, cl]
  · have : L2.atI ns k = none := by
      simp [L2.atI, L2.ixN, h0, h]
    simp [b_l_cell_at, h, cl, this]
theorem r_l_number {s : Sto} (hs : insOk s) (c : Int) : ∃ i, p_l_number [.f (.int c)] s = .ok (.w (.f (.int i))) s := by
  have hm : mulOk c 48271 = true := mulOk_of (.inr (by decide))
  have hm2 : mulOk 2 (10 ^ 50) = true := mulOk_of (.inl (by decide))
  have d3 : divOk 3 = true := dv3
  by_cases q : c.fmod 3 = 0
  · exact ⟨_, runA_rt hs (by simp [b_l_number, q]; rfl)⟩
  by_cases q2 : c.fmod 3 = 1
  · exact ⟨_, runA_rt hs (by simp [b_l_number, q, q2, hm, hm2]; rfl)⟩
  exact ⟨_, runA_rt hs (by simp [b_l_number, q, q2, hm2]; rfl)⟩
/-! ### the pool -/
abbrev abc : Str := Str.ofString "abcdefghijklmnopqrstuvwxyz"
def ltr (x : Int) : Nat := 97 + (x.fmod 26).toNat
theorem abc_at : ∀ k, k < 26 → abc.cps.toList[k]? = some (97 + k) := by decide +kernel
theorem abc_len : abc.length = 26 := by decide +kernel
theorem abc_ix (x : Int) : ixF (.str abc) (.int (x.fmod 26)) = .val (.str ⟨#[ltr x]⟩) := by
  obtain ⟨h1, h2⟩ := fmod_lt' x (n := 26) (by decide)
  have hz : abc.length ≤ sizeLine := by rw [abc_len]; decide
  have h3 : (x.fmod 26).toNat < 26 := by omega
  have e : L2.atI abc.cps.toList (x.fmod 26) = some (97 + (x.fmod 26).toNat) := by
    unfold L2.atI L2.ixN
    have hl : abc.cps.toList.length = 26 := by decide +kernel
    rw [hl, if_pos h1, if_pos (by omega)]
    exact abc_at _ h3
  simp only [ixF]
  rw [if_pos hz, e]
  rfl
def mkS (l : List Nat) : Str := ⟨l.toArray⟩
theorem mkS_len (l : List Nat) : (mkS l).length = l.length := rfl
theorem mkS_app (a b : List Nat) : mkS a ++ mkS b = mkS (a ++ b) := by
  show Str.mk (a.toArray ++ b.toArray) = _
  simp [mkS]
theorem rep1 (c n : Nat) : strRep ⟨#[c]⟩ n = mkS (List.replicate n c) := by
  unfold strRep mkS
  have : (List.replicate n [c]).flatten = List.replicate n c := by simp
  show Str.mk (List.replicate n [c]).flatten.toArray = _
  rw [this]
theorem app1 (l : List Nat) (c : Nat) : mkS l ++ ⟨#[c]⟩ = mkS (l ++ [c]) := mkS_app l [c]
theorem len1 (c : Nat) : (⟨#[c]⟩ : Str).length = 1 := rfl
theorem kmod8 (k : Nat) : (k : Int).fmod 8 = ((k % 8 : Nat) : Int) := by
  rw [Int.fmod_eq_emod_of_nonneg _ (by decide)]; omega
theorem kdiv8 (k : Nat) : (k : Int).fdiv 8 = ((k / 8 : Nat) : Int) := by
  rw [Int.fdiv_eq_ediv_of_nonneg _ (by decide)]; omega
def poolA (c : Int) : Nat := ((c.fdiv 52).fmod 8).toNat
def poolM (c : Int) : Nat := ((c.fdiv 416).fmod (8 - (c.fdiv 52).fmod 8)).toNat
def poolL (c : Int) (k : Nat) : List Nat := if c.fmod 2 = 1 then (List.range (1 + k % 8)).map fun (j : Nat) => ltr (c.fdiv 2 + ((k / 8 : Nat) : Int) * 3 + j)
  else List.replicate (poolA c) (ltr (c.fdiv 2)) ++ [ltr (c.fdiv 416 + 7 * k)] ++ List.replicate (poolM c) (ltr (c.fdiv 2))
theorem poolA_lt (c : Int) : (c.fdiv 52).fmod 8 = poolA c ∧ poolA c < 8 := by
  obtain ⟨h1, h2⟩ := fmod_lt' (c.fdiv 52) (n := 8) (by decide)
  unfold poolA
  omega
theorem poolM_lt (c : Int) : (c.fdiv 416).fmod (8 - (c.fdiv 52).fmod 8) = poolM c ∧ poolM c < 8 - poolA c := by
  obtain ⟨a1, a2⟩ := poolA_lt c
  obtain ⟨h1, h2⟩ := fmod_lt' (c.fdiv 416) (n := 8 - (c.fdiv 52).fmod 8) (by omega)
  unfold poolM
  omega
theorem poolL_len (c : Int) (k : Nat) : 1 ≤ (poolL c k).length ∧ (poolL c k).length ≤ 8 := by
  obtain ⟨a1, a2⟩ := poolA_lt c
  obtain ⟨a3, a4⟩ := poolM_lt c
  unfold poolL
  split
  · simp only [List.length_map, List.length_range]
    omega
  · simp only [List.length_append, List.length_replicate, List.length_cons, List.length_nil]
    omega
theorem ltr_inj {x y : Int} (h : ltr x = ltr y) : x.fmod 26 = y.fmod 26 := by
  obtain ⟨h1, h2⟩ := fmod_lt' x (n := 26) (by decide)
  obtain ⟨h3, h4⟩ := fmod_lt' y (n := 26) (by decide)
  unfold ltr at h
  omega
theorem pool_inj {c : Int} {j k : Nat} (hj : j < 26) (hk : k < 26) (h : poolL c j = poolL c k) : j = k := by
  unfold poolL at h
  split at h
  · have hl := congrArg List.length h
    simp only [List.length_map, List.length_range] at hl
    have h0 := congrArg (fun l => l[0]?) h
    simp only [List.getElem?_map] at h0
    rw [List.getElem?_range (by omega), List.getElem?_range (by omega)] at h0
    have h1 := ltr_inj (Option.some.inj h0)
    rw [Int.fmod_eq_emod_of_nonneg _ (by decide), Int.fmod_eq_emod_of_nonneg _ (by decide)] at h1
    omega
  · rw [List.append_assoc, List.append_assoc] at h
    have h2 := List.append_cancel_left h
    simp only [List.singleton_append, List.cons.injEq] at h2
    have h1 := ltr_inj h2.1
    rw [Int.fmod_eq_emod_of_nonneg _ (by decide), Int.fmod_eq_emod_of_nonneg _ (by decide)] at h1
    omega

def poolF (c : Int) (k : Nat) : F := .str (mkS (poolL c k))
theorem r_l_pool {s : Sto} (hs : insOk s) (c : Int) : p_l_pool [.f (.int c)] s = .ok (.w (.f (.lst ((List.range 26).map (poolF c))))) s := by
  obtain ⟨a1, a2⟩ := poolA_lt c
  obtain ⟨m1, m2⟩ := poolM_lt c
  obtain ⟨sl', lp, x3, x4, x5, x6, x7, rfl⟩ := loop_rg (i := 3) (s := s) (n := 26) (body := (sSeq (sSet 4 (mB ixF (mVar 1) (mB modF (mB divF (mVar 0) (mC (.int 2))) (mC (.int 26))))) (sSeq (sSet 5 (mB modF (mB divF (mVar 0) (mC (.int 52))) (mC (.int 8)))) (sSeq (sSet 6 (mB addF (mB mulF (mVar 4) (mVar 5)) (mB ixF (mVar 1) (mB modF (mB addF (mB divF (mVar 0) (mC (.int 416))) (mB mulF (mC (.int 7)) (mVar 3))) (mC (.int 26)))))) (sSeq (sSet 6 (mB addF (mVar 6) (mB mulF (mVar 4) (mB modF (mB divF (mVar 0) (mC (.int 416))) (mB subF (mC (.int 8)) (mVar 5)))))) (sSeq (sIf (mB eqF (mB modF (mVar 0) (mC (.int 2))) (mC (.int 1))) (sSeq (sSet 7 (mB addF (mB divF (mVar 0) (mC (.int 2))) (mB mulF (mB divF (mVar 3) (mC (.int 8))) (mC (.int 3))))) (sSet 6 (mU (joinA "") (mLc 8 (iR1 (mB addF (mC (.int 1)) (mB modF (mVar 3) (mC (.int 8))))) (mC (.bl true)) (mB ixF (mVar 1) (mB modF (mB addF (mVar 7) (mVar 8)) (mC (.int 26)))))))) sSkip) (sAppL (mVar 2) (mVar 6))))))))
    (P := fun k sl => ∃ x3 x4 x5 x6 x7, sl = [.v (.f (.int c)), .v (.f (.str abc)), .own (.lst ((List.range k).map (poolF c))), x3, x4, x5, x6, x7, .no]) [.v (.f (.int c)), .v (.f (.str abc)), .own (.lst []), .no, .no, .no, .no, .no, .no] ⟨.no, .no, .no, .no, .no, rfl⟩ fun k hk sl ⟨x3, x4, x5, x6, x7, e⟩ => by
      subst e
      have i1 := abc_ix (c.fdiv 2)
      have i2 := abc_ix (c.fdiv 416 + 7 * (k : Int))
      have p1 : repOk ⟨#[ltr (c.fdiv 2)]⟩ (poolA c : Int) = true := repOk_of ⟨by omega, by omega, by show 1 ≤ 1000; decide⟩
      have p2 : repOk ⟨#[ltr (c.fdiv 2)]⟩ (poolM c : Int) = true := repOk_of ⟨by omega, by omega, by show 1 ≤ 1000; decide⟩
      have m7 : mulOk 7 (k : Int) = true := mulOk_of (.inl (by decide))
      have z1 : poolA c + 1 ≤ sizeLine := Nat.le_trans (show poolA c + 1 ≤ 8 by omega) (by decide)
      have z2 : poolA c + 1 + poolM c ≤ sizeLine := Nat.le_trans (show poolA c + 1 + poolM c ≤ 8 by omega) (by decide)
      have zk : k < sizeLine := Nat.lt_of_lt_of_le hk (by decide)
      have hd : ¬ 8 - (poolA c : Int) = 0 := by omega
      have dA : divOk 8 = true := dv8
      have m1' := m1
      rw [a1] at m1'
      have rg : (List.range k).map (poolF c) ++ [poolF c k] = (List.range (k + 1)).map (poolF c) := by
        rw [List.range_succ, List.map_append]; rfl
      by_cases q : c.fmod 2 = 1
      · have m3 : mulOk ((k / 8 : Nat) : Int) 3 = true := mulOk_of (.inr (by decide))
        have lc : ∀ (O : Ct) (y4 y5 y6 : Sl), compF 8 (mC (.bl true)) (mB ixF (mVar 1) (mB modF (mB addF (mVar 7) (mVar 8)) (mC (.int 26)))) (rgF 0 1 (1 + k % 8))
            [.v (.f (.int c)), .v (.f (.str abc)), .own O, .v (.f (.int k)), y4, y5, y6, .v (.f (.int (c.fdiv 2 + ((k / 8 : Nat) : Int) * 3))), .no] s = .ok ((poolL c k).map fun c => F.str ⟨#[c]⟩) s := fun O y4 y5 y6 => by
          have := compF_map (i := 8) (s := s) (e := mB ixF (mVar 1) (mB modF (mB addF (mVar 7) (mVar 8)) (mC (.int 26)))) (sl := [.v (.f (.int c)), .v (.f (.str abc)), .own O, .v (.f (.int k)), y4, y5, y6, .v (.f (.int (c.fdiv 2 + ((k / 8 : Nat) : Int) * 3))), .no])
            (f := fun x => match x with | .int j => .str ⟨#[ltr (c.fdiv 2 + ((k / 8 : Nat) : Int) * 3 + j)]⟩ | _ => .non) (rgF 0 1 (1 + k % 8)) (fun x hx => by
              obtain ⟨j, hj, rfl⟩ := rgF_mem hx
              have i3 := abc_ix (c.fdiv 2 + ((k / 8 : Nat) : Int) * 3 + (0 + (j : Int)))
              refine ⟨.w (.f (.str ⟨#[ltr (c.fdiv 2 + ((k / 8 : Nat) : Int) * 3 + (0 + (j : Int)))]⟩)), ?_, rfl⟩
              simp only [Int.zero_add] at i3 ⊢
              simp [-ixF, -Int.natCast_ediv, -Int.natCast_emod, i3])
          rw [this]
          unfold poolL rgF
          rw [if_pos q, List.map_map, List.map_map]
          congr 1
          refine List.map_congr_left fun j _ => ?_
          simp only [Function.comp, Int.zero_add, Int.mul_one]
        have e : ∀ (O : Ct) (y4 y5 y6 : Sl), mLc 8 (iR1 (mB addF (mC (.int 1)) (mB modF (mVar 3) (mC (.int 8))))) (mC (.bl true)) (mB ixF (mVar 1) (mB modF (mB addF (mVar 7) (mVar 8)) (mC (.int 26))))
            [.v (.f (.int c)), .v (.f (.str abc)), .own O, .v (.f (.int k)), y4, y5, y6, .v (.f (.int (c.fdiv 2 + ((k / 8 : Nat) : Int) * 3))), .no] s = .ok (.fr (.lst ((poolL c k).map fun c => F.str ⟨#[c]⟩))) s := fun O y4 y5 y6 => by
          refine mLc_eq rfl ?_ (lc O y4 y5 y6) (by rw [List.length_map]; exact Nat.le_trans (poolL_len c k).2 (by decide))
          have hb : inB (1 + ((k % 8 : Nat) : Int)) = true := inB_of2 (by omega)
          have ht : (1 + ((k % 8 : Nat) : Int)).toNat = 1 + k % 8 := by omega
          simp [-Int.natCast_emod, kmod8, hb, ht]
        have hj : joinA (Str.ofString "") (.lst ((poolL c k).map fun c => F.str ⟨#[c]⟩)) = .val (.str (mkS (poolL c k))) := joinA_sg (poolL c k) (Nat.le_trans (poolL_len c k).2 (by decide))
        refine ⟨_, ?_, .v (.f (.int k)), .v (.f (.str ⟨#[ltr (c.fdiv 2)]⟩)), .v (.f (.int (poolA c))), .v (.f (poolF c k)), .v (.f (.int (c.fdiv 2 + ((k / 8 : Nat) : Int) * 3))), rfl⟩
        rw [← rg]
        simp [-ixF, -joinA, -Int.natCast_emod, -Int.natCast_ediv, a1, m1', i1, i2, p1, p2, m7, hd, rep1, app1, mkS_app, mkS_len, len1, z1, z2, zk, q, kdiv8, m3, e, hj, poolF]
      · have ev : poolL c k = List.replicate (poolA c) (ltr (c.fdiv 2)) ++ [ltr (c.fdiv 416 + 7 * k)] ++ List.replicate (poolM c) (ltr (c.fdiv 2)) := by
          unfold poolL
          rw [if_neg q]
        refine ⟨_, ?_, .v (.f (.int k)), .v (.f (.str ⟨#[ltr (c.fdiv 2)]⟩)), .v (.f (.int (poolA c))), .v (.f (poolF c k)), x7, rfl⟩
        rw [← rg]
        simp [-ixF, -joinA, a1, m1', i1, i2, p1, p2, m7, hd, rep1, app1, mkS_app, mkS_len, len1, z1, z2, zk, q, poolF, ev]
  refine runA_rt hs ?_
  have z0 : 0 ≤ sizeLine := Nat.zero_le _
  have b26 : inB 26 = true := inB_of2 (by decide)
  simp [-ixF, -joinA, b_l_pool, z0, b26, lp]
end K05

namespace K05
open PySem L2 Fm
abbrev sk (a : Str) : Key := .inr a
section
variable {s : Sto} (hs : insOk s)
include hs
theorem bf_add (ts : List F) : p_begins_from [.f (.tup (.str (Str.ofString "add") :: ts))] s = .ok (.fr (.lst [])) s := runA_fr hs (by simp [b_begins_from])
theorem bf_drop (a : F) (ts : List F) : p_begins_from [.f (.tup (.str (Str.ofString "drop") :: a :: ts))] s = .ok (.fr (.lst [a])) s := runA_fr hs (by simp [b_begins_from, show 1 ≤ sizeLine by decide])
theorem bf_name (a : F) (ts : List F) : p_begins_from [.f (.tup (.str (Str.ofString "name") :: a :: ts))] s = .ok (.fr (.lst [a])) s := runA_fr hs (by simp [b_begins_from, show 1 ≤ sizeLine by decide])
theorem bf_shift (a : F) (ts : List F) : p_begins_from [.f (.tup (.str (Str.ofString "shift") :: a :: ts))] s = .ok (.fr (.lst [a])) s := runA_fr hs (by simp [b_begins_from, show 1 ≤ sizeLine by decide])
theorem bf_turn (a : F) (ts : List F) : p_begins_from [.f (.tup (.str (Str.ofString "turn") :: a :: ts))] s = .ok (.fr (.lst [a])) s := runA_fr hs (by simp [b_begins_from, show 1 ≤ sizeLine by decide])
theorem bf_part (a : F) (ts : List F) : p_begins_from [.f (.tup (.str (Str.ofString "part") :: a :: ts))] s = .ok (.fr (.lst [a])) s := runA_fr hs (by simp [b_begins_from, show 1 ≤ sizeLine by decide])
theorem bf_join (a b : F) (ts : List F) : p_begins_from [.f (.tup (.str (Str.ofString "join") :: a :: b :: ts))] s = .ok (.fr (.lst [a, b])) s := runA_fr hs (by simp [b_begins_from, show 2 ≤ sizeLine by decide])
theorem br_add (a : F) (ts : List F) : p_brings [.f (.tup (.str (Str.ofString "add") :: a :: ts))] s = .ok (.fr (.lst [a])) s := runA_fr hs (by simp [b_brings, show 1 ≤ sizeLine by decide])
theorem br_drop (ts : List F) : p_brings [.f (.tup (.str (Str.ofString "drop") :: ts))] s = .ok (.fr (.lst [])) s := runA_fr hs (by simp [b_brings])
theorem br_name (a c : F) (ts : List F) : p_brings [.f (.tup (.str (Str.ofString "name") :: a :: c :: ts))] s = .ok (.fr (.lst [c])) s := runA_fr hs (by simp [b_brings, show 1 ≤ sizeLine by decide])
theorem br_shift (a : F) (ts : List F) : p_brings [.f (.tup (.str (Str.ofString "shift") :: a :: ts))] s = .ok (.fr (.lst [a])) s := runA_fr hs (by simp [b_brings, show 1 ≤ sizeLine by decide])
theorem br_turn (a : F) (ts : List F) : p_brings [.f (.tup (.str (Str.ofString "turn") :: a :: ts))] s = .ok (.fr (.lst [a])) s := runA_fr hs (by simp [b_brings, show 1 ≤ sizeLine by decide])
theorem br_part (a c d : F) (ts : List F) : p_brings [.f (.tup (.str (Str.ofString "part") :: a :: c :: d :: ts))] s = .ok (.fr (.lst [c, d])) s := runA_fr hs (by simp [b_brings, show 2 ≤ sizeLine by decide])
theorem br_join (a b c : F) (ts : List F) : p_brings [.f (.tup (.str (Str.ofString "join") :: a :: b :: c :: ts))] s = .ok (.fr (.lst [c])) s := runA_fr hs (by simp [b_brings, show 1 ≤ sizeLine by decide])
variable {R E : List (Key × F)} {a b c d : Str} {x y n z : Int} (hl : R.length ≤ 1000)
include hl
theorem fo_add : p_forth [.f (.tup [.str (Str.ofString "add"), .str c, .int y]), .f (.dct R), .f (.int n)] s = .ok (.w (.f (.dct (pK R (sk c) (.int n))))) s := by
  have h0 : R.length < sizeLine := Nat.lt_of_le_of_lt hl (by decide)
  exact runA_rt hs (by simp [b_forth, bf_add hs, loopF, h0])
theorem fo_drop (ha : vK R (sk a) = some (.int x)) : p_forth [.f (.tup [.str (Str.ofString "drop"), .str a]), .f (.dct R), .f (.int n)] s = .ok (.w (.f (.dct (dK R (sk a))))) s := by
  exact runA_rt hs (by simp [b_forth, bf_drop hs, loopF, ha])
theorem fo_name (ha : vK R (sk a) = some (.int x)) : p_forth [.f (.tup [.str (Str.ofString "name"), .str a, .str c]), .f (.dct R), .f (.int n)] s = .ok (.w (.f (.dct (pK (dK R (sk a)) (sk c) (.int x))))) s := by
  have h0 : (dK R (sk a)).length < sizeLine := Nat.lt_of_le_of_lt (Nat.le_trans (List.length_filter_le _ _) hl) (by decide)
  exact runA_rt hs (by simp [b_forth, bf_name hs, loopF, ha, h0])
theorem fo_shift (ha : vK R (sk a) = some (.int x)) : p_forth [.f (.tup [.str (Str.ofString "shift"), .str a, .int y]), .f (.dct R), .f (.int n)] s = .ok (.w (.f (.dct (pK (dK R (sk a)) (sk a) (.int (x + y)))))) s := by
  have h0 : (dK R (sk a)).length < sizeLine := Nat.lt_of_le_of_lt (Nat.le_trans (List.length_filter_le _ _) hl) (by decide)
  exact runA_rt hs (by simp [b_forth, bf_shift hs, loopF, ha, h0])
end
end K05

namespace K05
open PySem L2 Fm
theorem ltz {α : Type} {R : List (Key × α)} {m : Nat} (h : R.length ≤ m) (hm : m ≤ 2000) : R.length < sizeLine := Nat.lt_of_le_of_lt (Nat.le_trans h hm) (by decide)
theorem dle {α : Type} (R : List (Key × α)) (k : Key) : (dK R k).length ≤ R.length := List.length_filter_le _ _
theorem pK_le {α : Type} (R : List (Key × α)) (k : Key) (v : α) : (pK R k v).length ≤ R.length + 1 := by
  unfold pK
  split
  · rw [List.length_map]; omega
  · rw [List.length_append]; simp
section
variable {s : Sto} (hs : insOk s)
variable {R E : List (Key × F)} {a b c d : Str} {x y n z e : Int} (hl : R.length ≤ 1000)
include hs hl
set_option maxHeartbeats 0
theorem fo_turn (ha : vK R (sk a) = some (.int x)) : p_forth [.f (.tup [.str (Str.ofString "turn"), .str a]), .f (.dct R), .f (.int n)] s = .ok (.w (.f (.dct (pK (dK R (sk a)) (sk a) (.int (0 - x)))))) s := by
  have h0 : (dK R (sk a)).length < sizeLine := ltz (Nat.le_trans (dle _ _) hl) (by decide)
  exact runA_rt hs (by simp [b_forth, bf_turn hs, loopF, ha, h0])
theorem fo_part (ha : vK R (sk a) = some (.int x)) (hz : divOk z = true) (hz0 : ¬ z = 0) : p_forth [.f (.tup [.str (Str.ofString "part"), .str a, .str c, .str d, .int z]), .f (.dct R), .f (.int n)] s = .ok (.w (.f (.dct (pK (pK (dK R (sk a)) (sk c) (.int (x.fdiv z))) (sk d) (.int (x.fmod z)))))) s := by
  have h0 : (dK R (sk a)).length < sizeLine := ltz (Nat.le_trans (dle _ _) hl) (by decide)
  have h1 : (pK (dK R (sk a)) (sk c) (.int (x.fdiv z))).length < sizeLine := ltz (Nat.le_trans (pK_le _ _ _) (Nat.succ_le_succ (Nat.le_trans (dle _ _) hl))) (by decide)
  exact runA_rt hs (by simp [b_forth, bf_part hs, loopF, ha, h0, h1, hz, hz0])
theorem fo_join (ha : vK R (sk a) = some (.int x)) (hb : vK R (sk b) = some (.int y)) (hb2 : vK (dK R (sk a)) (sk b) = some (.int y)) (hz : mulOk x z = true) : p_forth [.f (.tup [.str (Str.ofString "join"), .str a, .str b, .str c, .int z]), .f (.dct R), .f (.int n)] s = .ok (.w (.f (.dct (pK (dK (dK R (sk a)) (sk b)) (sk c) (.int (x * z + y)))))) s := by
  have h0 : (dK (dK R (sk a)) (sk b)).length < sizeLine := ltz (Nat.le_trans (dle _ _) (Nat.le_trans (dle _ _) hl)) (by decide)
  exact runA_rt hs (by simp [b_forth, bf_join hs, loopF, ha, hb, hb2, h0, hz])
/-! back -/
theorem ba_add (hc : vK R (sk c) = some (.int x)) : p_back [.f (.tup [.str (Str.ofString "add"), .str c, .int y]), .f (.dct R), .f (.dct E)] s = .ok (.w (.f (.dct (dK R (sk c))))) s := by
  exact runA_rt hs (by simp [b_back, br_add hs, loopF, hc])
theorem ba_drop (he : vK E (sk a) = some (.int x)) : p_back [.f (.tup [.str (Str.ofString "drop"), .str a]), .f (.dct R), .f (.dct E)] s = .ok (.w (.f (.dct (pK R (sk a) (.int x))))) s := by
  have h0 : R.length < sizeLine := ltz hl (by decide)
  exact runA_rt hs (by simp [b_back, br_drop hs, loopF, he, h0])
theorem ba_name (hc : vK R (sk c) = some (.int x)) : p_back [.f (.tup [.str (Str.ofString "name"), .str a, .str c]), .f (.dct R), .f (.dct E)] s = .ok (.w (.f (.dct (pK (dK R (sk c)) (sk a) (.int x))))) s := by
  have h0 : (dK R (sk c)).length < sizeLine := ltz (Nat.le_trans (dle _ _) hl) (by decide)
  exact runA_rt hs (by simp [b_back, br_name hs, loopF, hc, h0])
theorem ba_shift (hc : vK R (sk a) = some (.int x)) : p_back [.f (.tup [.str (Str.ofString "shift"), .str a, .int y]), .f (.dct R), .f (.dct E)] s = .ok (.w (.f (.dct (pK (dK R (sk a)) (sk a) (.int (x - y)))))) s := by
  have h0 : (dK R (sk a)).length < sizeLine := ltz (Nat.le_trans (dle _ _) hl) (by decide)
  exact runA_rt hs (by simp [b_back, br_shift hs, loopF, hc, h0])
theorem ba_turn (hc : vK R (sk a) = some (.int x)) : p_back [.f (.tup [.str (Str.ofString "turn"), .str a]), .f (.dct R), .f (.dct E)] s = .ok (.w (.f (.dct (pK (dK R (sk a)) (sk a) (.int (0 - x)))))) s := by
  have h0 : (dK R (sk a)).length < sizeLine := ltz (Nat.le_trans (dle _ _) hl) (by decide)
  exact runA_rt hs (by simp [b_back, br_turn hs, loopF, hc, h0])
theorem ba_part (hc : vK R (sk c) = some (.int x)) (hd : vK R (sk d) = some (.int y)) (hd2 : vK (dK R (sk c)) (sk d) = some (.int y)) (hz : mulOk x z = true) (h1 : ¬ y < 0) (h2 : ¬ z ≤ y) : p_back [.f (.tup [.str (Str.ofString "part"), .str a, .str c, .str d, .int z]), .f (.dct R), .f (.dct E)] s = .ok (.w (.f (.dct (pK (dK (dK R (sk c)) (sk d)) (sk a) (.int (x * z + y)))))) s := by
  have h0 : (dK (dK R (sk c)) (sk d)).length < sizeLine := ltz (Nat.le_trans (dle _ _) (Nat.le_trans (dle _ _) hl)) (by decide)
  exact runA_rt hs (by simp [b_back, br_part hs, loopF, hc, hd, hd2, h0, hz, h1, h2])
theorem ba_join (hc : vK R (sk c) = some (.int x)) (he : vK E (sk b) = some (.int e)) (hz : divOk z = true) (hz0 : ¬ z = 0) (hm : mulOk (e.fdiv z) z = true) : p_back [.f (.tup [.str (Str.ofString "join"), .str a, .str b, .str c, .int z]), .f (.dct R), .f (.dct E)] s = .ok (.w (.f (.dct (pK (pK (dK R (sk c)) (sk a) (.int (x.fdiv z - e.fdiv z))) (sk b) (.int (x.fmod z + e.fdiv z * z)))))) s := by
  have h0 : (dK R (sk c)).length < sizeLine := ltz (Nat.le_trans (dle _ _) hl) (by decide)
  have h1 : (pK (dK R (sk c)) (sk a) (.int (x.fdiv z - e.fdiv z))).length < sizeLine := ltz (Nat.le_trans (pK_le _ _ _) (Nat.succ_le_succ (Nat.le_trans (dle _ _) hl))) (by decide)
  exact runA_rt hs (by simp [b_back, br_join hs, loopF, hc, he, h0, h1, hz, hz0, hm])
end
end K05

namespace K05
open PySem L2 Fm
structure Gd (m : Nat) (D : List (Key × F)) : Prop where
  nd : NdK D
  int : IntD D
  str : ∀ k, (vK D k).isSome = true → ∃ x, k = sk x
  len : D.length ≤ m
theorem Gd.put {m : Nat} {D : List (Key × F)} (g : Gd m D) (a : Str) (i : Int) : Gd (m + 1) (pK D (sk a) (.int i)) := by
  refine ⟨g.nd.put _ _, fun k x h => ?_, fun k h => ?_, Nat.le_trans (pK_le _ _ _) (Nat.succ_le_succ g.len)⟩
  · rw [vK_put] at h
    split at h
    · cases h; exact ⟨_, rfl⟩
    · exact g.int k x h
  · rw [vK_put] at h
    split at h
    · exact ⟨a, by assumption⟩
    · exact g.str k h
theorem Gd.drp {m : Nat} {D : List (Key × F)} (g : Gd m D) (k0 : Key) : Gd m (dK D k0) := by
  refine ⟨g.nd.drp _, fun k x h => ?_, fun k h => ?_, Nat.le_trans (dle _ _) g.len⟩
  · rw [vK_drp] at h
    split at h
    · cases h
    · exact g.int k x h
  · rw [vK_drp] at h
    split at h
    · cases h
    · exact g.str k h
theorem Gd.mono {m m' : Nat} {D : List (Key × F)} (g : Gd m D) (h : m ≤ m') : Gd m' D := ⟨g.nd, g.int, g.str, Nat.le_trans g.len h⟩
theorem Gd.eq {m m' : Nat} {A B : List (Key × F)} (g : Gd m A) (g2 : Gd m' B) (e : ∀ k, vK A k = vK B k) : eqT (.dct A) (.dct B) = some true := eqD g.nd g2.nd g.int e
/-- the steps, over an elder reading -/
inductive StepOk (E : List (Key × F)) : List F → Prop where
  | add (c : Str) (y : Int) (hc : vK E (sk c) = none) : StepOk E [.str (Str.ofString "add"), .str c, .int y]
  | drop (a : Str) (x : Int) (ha : vK E (sk a) = some (.int x)) : StepOk E [.str (Str.ofString "drop"), .str a]
  | name (a c : Str) (x : Int) (ha : vK E (sk a) = some (.int x)) (hc : vK E (sk c) = none) : StepOk E [.str (Str.ofString "name"), .str a, .str c]
  | shift (a : Str) (x y : Int) (ha : vK E (sk a) = some (.int x)) : StepOk E [.str (Str.ofString "shift"), .str a, .int y]
  | turn (a : Str) (x : Int) (ha : vK E (sk a) = some (.int x)) : StepOk E [.str (Str.ofString "turn"), .str a]
  | part (a c d : Str) (x z : Int) (ha : vK E (sk a) = some (.int x)) (hc : c = a ∨ vK E (sk c) = none) (hd : vK E (sk d) = none) (hcd : c ≠ d) (hz : 2 ≤ z ∧ z ≤ 1000001) : StepOk E [.str (Str.ofString "part"), .str a, .str c, .str d, .int z]
  | join (a b c : Str) (x y z : Int) (ha : vK E (sk a) = some (.int x)) (hb : vK E (sk b) = some (.int y)) (hab : a ≠ b) (hc : c = a ∨ c = b ∨ vK E (sk c) = none) (hz : 2 ≤ z ∧ z ≤ 1000001) : StepOk E [.str (Str.ofString "join"), .str a, .str b, .str c, .int z]
/-- a reading of the newer form -/
structure Oth (st : List F) (first O : List (Key × F)) : Prop where
  g : Gd 60 O
  same : ∀ k, (vK O k).isSome = (vK first k).isSome
  low : ∀ a c d z, st = [.str (Str.ofString "part"), a, c, .str d, .int z] → ∃ v, vK O (sk d) = some (.int v) ∧ 0 ≤ v ∧ v < z
theorem Oth.get {st : List F} {first O : List (Key × F)} (h : Oth st first O) {k : Key} {x : F} (e : vK first k = some x) : ∃ i, vK O k = some (.int i) := by
  have := h.same k
  rw [e] at this
  obtain ⟨y, hy⟩ := Option.isSome_iff_exists.mp this
  obtain ⟨i, rfl⟩ := h.g.int k y hy
  exact ⟨i, hy⟩
theorem Oth.no {st : List F} {first O : List (Key × F)} (h : Oth st first O) {k : Key} (e : vK first k = none) : vK O k = none := by
  have := h.same k
  rw [e] at this
  cases q : vK O k with
  | none => rfl
  | some y => rw [q] at this; cases this
theorem Gd.refl {m : Nat} {A : List (Key × F)} (g : Gd m A) : eqT (.dct A) (.dct A) = some true := g.eq g fun _ => rfl
def Core (s : Sto) (E : List (Key × F)) (st : List F) (n : Int) : Prop := ∃ first, p_forth [.f (.tup st), .f (.dct E), .f (.int n)] s = .ok (.w (.f (.dct first))) s ∧ Gd 60 first ∧ (∀ a c d z, st = [.str (Str.ofString "part"), a, c, .str d, .int z] → 0 < z ∧ ∃ v, vK first (sk d) = some (.int v)) ∧
  ∀ O1 O2, Oth st first O1 → Oth st first O2 → ∃ M A T B C, p_back [.f (.tup st), .f (.dct O1), .f (.dct E)] s = .ok (.w (.f (.dct M))) s ∧ p_back [.f (.tup st), .f (.dct O2), .f (.dct E)] s = .ok (.w (.f (.dct A))) s ∧
    p_back [.f (.tup st), .f (.dct O2), .f (.dct M)] s = .ok (.w (.f (.dct T))) s ∧ eqT (.dct T) (.dct A) = some true ∧
    p_back [.f (.tup st), .f (.dct first), .f (.dct M)] s = .ok (.w (.f (.dct B))) s ∧ eqT (.dct B) (.dct E) = some true ∧ p_back [.f (.tup st), .f (.dct first), .f (.dct A)] s = .ok (.w (.f (.dct C))) s ∧ eqT (.dct C) (.dct E) = some true
theorem skne {a b : Str} (h : a ≠ b) : sk a ≠ sk b := fun z => h (Sum.inr.inj z)
section
variable {s : Sto} (hs : insOk s) {E : List (Key × F)} (gE : Gd 40 E)
include hs gE
theorem core_add (c : Str) (y n : Int) (hc : vK E (sk c) = none) : Core s E [.str (Str.ofString "add"), .str c, .int y] n := by
  have lE : E.length ≤ 1000 := Nat.le_trans gE.len (by decide)
  have g1 := gE.put c n
  refine ⟨_, fo_add hs lE, g1.mono (by decide), fun a c d z h => by simp at h, fun O1 O2 h1 h2 => ?_⟩
  have f : vK (pK E (sk c) (.int n)) (sk c) = some (.int n) := by rw [vK_put, if_pos rfl]
  obtain ⟨i, hi⟩ := h1.get f
  obtain ⟨j, hj⟩ := h2.get f
  have l1 : O1.length ≤ 1000 := Nat.le_trans h1.g.len (by decide)
  have l2 : O2.length ≤ 1000 := Nat.le_trans h2.g.len (by decide)
  have l3 : (pK E (sk c) (.int n)).length ≤ 1000 := Nat.le_trans g1.len (by decide)
  have e : eqT (.dct (dK (pK E (sk c) (.int n)) (sk c))) (.dct E) = some true := (g1.drp _).eq gE fun k => by
    rw [vK_drp, vK_put]
    split
    · rename_i q; rw [q, hc]
    · rfl
  exact ⟨_, _, _, _, _, ba_add hs l1 hi, ba_add hs l2 hj, ba_add hs l2 hj, (h2.g.drp _).refl, ba_add hs l3 f, e, ba_add hs l3 f, e⟩
theorem core_drop (a : Str) (x n : Int) (ha : vK E (sk a) = some (.int x)) : Core s E [.str (Str.ofString "drop"), .str a] n := by
  have lE : E.length ≤ 1000 := Nat.le_trans gE.len (by decide)
  have g1 := gE.drp (sk a)
  refine ⟨_, fo_drop hs lE ha, g1.mono (by decide), fun a c d z h => by simp at h, fun O1 O2 h1 h2 => ?_⟩
  have l1 : O1.length ≤ 1000 := Nat.le_trans h1.g.len (by decide)
  have l2 : O2.length ≤ 1000 := Nat.le_trans h2.g.len (by decide)
  have l3 : (dK E (sk a)).length ≤ 1000 := Nat.le_trans g1.len (by decide)
  have f : ∀ R : List (Key × F), vK (pK R (sk a) (.int x)) (sk a) = some (.int x) := fun R => by rw [vK_put, if_pos rfl]
  have e : eqT (.dct (pK (dK E (sk a)) (sk a) (.int x))) (.dct E) = some true := (g1.put _ _).eq gE fun k => by
    rw [vK_put, vK_drp]
    split
    · rename_i q; rw [q, ha]
    · rfl
  exact ⟨_, _, _, _, _, ba_drop hs l1 ha, ba_drop hs l2 ha, ba_drop hs l2 (f O1), (h2.g.put _ _).refl, ba_drop hs l3 (f O1), e, ba_drop hs l3 (f O2), e⟩
theorem core_name (a c : Str) (x n : Int) (ha : vK E (sk a) = some (.int x)) (hc : vK E (sk c) = none) : Core s E [.str (Str.ofString "name"), .str a, .str c] n := by
  have lE : E.length ≤ 1000 := Nat.le_trans gE.len (by decide)
  have g1 := (gE.drp (sk a)).put c x
  refine ⟨_, fo_name hs lE ha, g1.mono (by decide), fun a c d z h => by simp at h, fun O1 O2 h1 h2 => ?_⟩
  have f : vK (pK (dK E (sk a)) (sk c) (.int x)) (sk c) = some (.int x) := by rw [vK_put, if_pos rfl]
  obtain ⟨i, hi⟩ := h1.get f
  obtain ⟨j, hj⟩ := h2.get f
  have l1 : O1.length ≤ 1000 := Nat.le_trans h1.g.len (by decide)
  have l2 : O2.length ≤ 1000 := Nat.le_trans h2.g.len (by decide)
  have l3 : (pK (dK E (sk a)) (sk c) (.int x)).length ≤ 1000 := Nat.le_trans g1.len (by decide)
  have e : eqT (.dct (pK (dK (pK (dK E (sk a)) (sk c) (.int x)) (sk c)) (sk a) (.int x))) (.dct E) = some true := ((g1.drp _).put _ _).eq gE fun k => by
    rw [vK_put, vK_drp, vK_put, vK_drp]
    split
    · rename_i q; rw [q, ha]
    · split
      · rename_i q; rw [q, hc]
      · simp [*]
  exact ⟨_, _, _, _, _, ba_name hs l1 hi, ba_name hs l2 hj, ba_name hs l2 hj, ((h2.g.drp _).put _ _).refl, ba_name hs l3 f, e, ba_name hs l3 f, e⟩
theorem core_shift (a : Str) (x y n : Int) (ha : vK E (sk a) = some (.int x)) : Core s E [.str (Str.ofString "shift"), .str a, .int y] n := by
  have lE : E.length ≤ 1000 := Nat.le_trans gE.len (by decide)
  have g1 := (gE.drp (sk a)).put a (x + y)
  refine ⟨_, fo_shift hs lE ha, g1.mono (by decide), fun a c d z h => by simp at h, fun O1 O2 h1 h2 => ?_⟩
  have f : vK (pK (dK E (sk a)) (sk a) (.int (x + y))) (sk a) = some (.int (x + y)) := by rw [vK_put, if_pos rfl]
  obtain ⟨i, hi⟩ := h1.get f
  obtain ⟨j, hj⟩ := h2.get f
  have l1 : O1.length ≤ 1000 := Nat.le_trans h1.g.len (by decide)
  have l2 : O2.length ≤ 1000 := Nat.le_trans h2.g.len (by decide)
  have l3 : (pK (dK E (sk a)) (sk a) (.int (x + y))).length ≤ 1000 := Nat.le_trans g1.len (by decide)
  have e : eqT (.dct (pK (dK (pK (dK E (sk a)) (sk a) (.int (x + y))) (sk a)) (sk a) (.int (x + y - y)))) (.dct E) = some true := ((g1.drp _).put _ _).eq gE fun k => by
    rw [vK_put, vK_drp, vK_put, vK_drp]
    split
    · rename_i q; rw [q, ha, Int.add_sub_cancel]
    · simp [*]
  exact ⟨_, _, _, _, _, ba_shift hs l1 hi, ba_shift hs l2 hj, ba_shift hs l2 hj, ((h2.g.drp _).put _ _).refl, ba_shift hs l3 f, e, ba_shift hs l3 f, e⟩
theorem core_turn (a : Str) (x n : Int) (ha : vK E (sk a) = some (.int x)) : Core s E [.str (Str.ofString "turn"), .str a] n := by
  have lE : E.length ≤ 1000 := Nat.le_trans gE.len (by decide)
  have g1 := (gE.drp (sk a)).put a (0 - x)
  refine ⟨_, fo_turn hs lE ha, g1.mono (by decide), fun a c d z h => by simp at h, fun O1 O2 h1 h2 => ?_⟩
  have f : vK (pK (dK E (sk a)) (sk a) (.int (0 - x))) (sk a) = some (.int (0 - x)) := by rw [vK_put, if_pos rfl]
  obtain ⟨i, hi⟩ := h1.get f
  obtain ⟨j, hj⟩ := h2.get f
  have l1 : O1.length ≤ 1000 := Nat.le_trans h1.g.len (by decide)
  have l2 : O2.length ≤ 1000 := Nat.le_trans h2.g.len (by decide)
  have l3 : (pK (dK E (sk a)) (sk a) (.int (0 - x))).length ≤ 1000 := Nat.le_trans g1.len (by decide)
  have e : eqT (.dct (pK (dK (pK (dK E (sk a)) (sk a) (.int (0 - x))) (sk a)) (sk a) (.int (0 - (0 - x))))) (.dct E) = some true := ((g1.drp _).put _ _).eq gE fun k => by
    have z : 0 - (0 - x) = x := by omega
    rw [vK_put, vK_drp, vK_put, vK_drp]
    split
    · rename_i q; rw [q, ha, z]
    · simp [*]
  exact ⟨_, _, _, _, _, ba_turn hs l1 hi, ba_turn hs l2 hj, ba_turn hs l2 hj, ((h2.g.drp _).put _ _).refl, ba_turn hs l3 f, e, ba_turn hs l3 f, e⟩
end
end K05

namespace K05
open PySem L2 Fm
section
variable {s : Sto} (hs : insOk s) {E : List (Key × F)} (gE : Gd 40 E)
include hs gE
theorem core_part (a c d : Str) (x z n : Int) (ha : vK E (sk a) = some (.int x)) (hc : c = a ∨ vK E (sk c) = none) (hd : vK E (sk d) = none) (hcd : c ≠ d) (hz : 2 ≤ z ∧ z ≤ 1000001) : Core s E [.str (Str.ofString "part"), .str a, .str c, .str d, .int z] n := by
  have lE : E.length ≤ 1000 := Nat.le_trans gE.len (by decide)
  have g1 := ((gE.drp (sk a)).put c (x.fdiv z)).put d (x.fmod z)
  have z0 : ¬ z = 0 := by omega
  have zd : divOk z = true := divOk_of (by omega)
  have zm : ∀ i, mulOk i z = true := fun i => mulOk_of (.inr (by omega))
  obtain ⟨m1, m2⟩ := fmod_lt' x (n := z) (by omega)
  have ndc : sk d ≠ sk c := skne fun q => hcd q.symm
  have nad : sk d ≠ sk a := fun q => by rw [q, ha] at hd; cases hd
  have fd : vK (pK (pK (dK E (sk a)) (sk c) (.int (x.fdiv z))) (sk d) (.int (x.fmod z))) (sk d) = some (.int (x.fmod z)) := by rw [vK_put, if_pos rfl]
  have fc : vK (pK (pK (dK E (sk a)) (sk c) (.int (x.fdiv z))) (sk d) (.int (x.fmod z))) (sk c) = some (.int (x.fdiv z)) := by rw [vK_put, if_neg (fun q => ndc q.symm), vK_put, if_pos rfl]
  have l3 : (pK (pK (dK E (sk a)) (sk c) (.int (x.fdiv z))) (sk d) (.int (x.fmod z))).length ≤ 1000 := Nat.le_trans g1.len (by decide)
  refine ⟨_, fo_part hs lE ha zd z0, g1.mono (by decide), fun a' c' d' z' h => ?_, fun O1 O2 h1 h2 => ?_⟩
  · simp at h
    obtain ⟨_, _, rfl, rfl⟩ := h
    exact ⟨by omega, _, fd⟩
  have bk : ∀ O, Oth [.str (Str.ofString "part"), .str a, .str c, .str d, .int z] _ O → ∃ M, Gd 70 M ∧ ∀ X : List (Key × F), p_back [.f (.tup [.str (Str.ofString "part"), .str a, .str c, .str d, .int z]), .f (.dct O), .f (.dct X)] s = .ok (.w (.f (.dct M))) s := fun O h => by
    obtain ⟨i, hi⟩ := h.get fc
    obtain ⟨v, hv, v1, v2⟩ := h.low _ _ _ _ rfl
    have l1 : O.length ≤ 1000 := Nat.le_trans h.g.len (by decide)
    have hv2 : vK (dK O (sk c)) (sk d) = some (.int v) := by rw [vK_drp, if_neg ndc, hv]
    exact ⟨_, (((h.g.drp _).drp _).put _ _).mono (by decide), fun X => ba_part hs l1 hi hv hv2 (zm i) (by omega) (by omega)⟩
  obtain ⟨M, gM, bM⟩ := bk O1 h1
  obtain ⟨A, gA, bA⟩ := bk O2 h2
  have fd2 : vK (dK (pK (pK (dK E (sk a)) (sk c) (.int (x.fdiv z))) (sk d) (.int (x.fmod z))) (sk c)) (sk d) = some (.int (x.fmod z)) := by rw [vK_drp, if_neg ndc, fd]
  have bF : ∀ X : List (Key × F), _ := fun X => ba_part (E := X) (a := a) hs l3 fc fd fd2 (zm (x.fdiv z)) (by omega) (by omega)
  have ex : x.fdiv z * z + x.fmod z = x := by
    rw [Int.fdiv_eq_ediv_of_nonneg _ (by omega), Int.fmod_eq_emod_of_nonneg _ (by omega), Int.mul_comm]
    exact Int.mul_ediv_add_emod x z
  have e : eqT (.dct (pK (dK (dK (pK (pK (dK E (sk a)) (sk c) (.int (x.fdiv z))) (sk d) (.int (x.fmod z))) (sk c)) (sk d)) (sk a) (.int (x.fdiv z * z + x.fmod z)))) (.dct E) = some true := (((g1.drp _).drp _).put _ _).eq gE fun k => by
    rw [vK_put, vK_drp, vK_drp, vK_put, vK_put, vK_drp, ex]
    split
    · rename_i q; rw [q, ha]
    · rename_i q
      split
      · rename_i q2; rw [q2, hd]
      · split
        · rename_i q3
          rcases hc with hc | hc
          · exact absurd (by rw [q3, hc]) q
          · rw [q3, hc]
        · simp [*]
  exact ⟨M, A, A, _, _, bM E, bA E, bA M, gA.refl, bF M, e, bF A, e⟩
theorem core_join (a b c : Str) (x y z n : Int) (ha : vK E (sk a) = some (.int x)) (hb : vK E (sk b) = some (.int y)) (hab : a ≠ b) (hc : c = a ∨ c = b ∨ vK E (sk c) = none) (hz : 2 ≤ z ∧ z ≤ 1000001) : Core s E [.str (Str.ofString "join"), .str a, .str b, .str c, .int z] n := by
  have lE : E.length ≤ 1000 := Nat.le_trans gE.len (by decide)
  have g1 := ((gE.drp (sk a)).drp (sk b)).put c (x * z + y)
  have z0 : ¬ z = 0 := by omega
  have zp : 0 < z := by omega
  have zd : divOk z = true := divOk_of (by omega)
  have zm : ∀ i, mulOk i z = true := fun i => mulOk_of (.inr (by omega))
  have nba : sk b ≠ sk a := skne fun q => hab q.symm
  have hb2 : vK (dK E (sk a)) (sk b) = some (.int y) := by rw [vK_drp, if_neg nba, hb]
  have fc : vK (pK (dK (dK E (sk a)) (sk b)) (sk c) (.int (x * z + y))) (sk c) = some (.int (x * z + y)) := by rw [vK_put, if_pos rfl]
  have l3 : (pK (dK (dK E (sk a)) (sk b)) (sk c) (.int (x * z + y))).length ≤ 1000 := Nat.le_trans g1.len (by decide)
  refine ⟨_, fo_join hs lE ha hb hb2 (zm x), g1.mono (by decide), fun a' c' d' z' h => by simp at h, fun O1 O2 h1 h2 => ?_⟩
  have dv : ∀ i w : Int, (i.fmod z + w.fdiv z * z).fdiv z = w.fdiv z := fun i w => by
    obtain ⟨q1, q2⟩ := fmod_lt' i zp
    rw [Int.fdiv_eq_ediv_of_nonneg _ (by omega), Int.add_mul_ediv_right _ _ z0, Int.ediv_eq_zero_of_lt q1 q2, Int.zero_add]
  have bk : ∀ O, Oth [.str (Str.ofString "join"), .str a, .str b, .str c, .int z] _ O → ∃ (M : List (Key × F)) (i : Int), Gd 70 M ∧ vK M (sk b) = some (.int (i.fmod z + y.fdiv z * z)) ∧
      ∀ (X : List (Key × F)) (e : Int), vK X (sk b) = some (.int e) → e.fdiv z = y.fdiv z → p_back [.f (.tup [.str (Str.ofString "join"), .str a, .str b, .str c, .int z]), .f (.dct O), .f (.dct X)] s = .ok (.w (.f (.dct M))) s := fun O h => by
    obtain ⟨i, hi⟩ := h.get fc
    have l1 : O.length ≤ 1000 := Nat.le_trans h.g.len (by decide)
    refine ⟨pK (pK (dK O (sk c)) (sk a) (.int (i.fdiv z - y.fdiv z))) (sk b) (.int (i.fmod z + y.fdiv z * z)), i, (((h.g.drp _).put _ _).put _ _).mono (by decide), by rw [vK_put, if_pos rfl], fun X e hX he => ?_⟩
    have := ba_join (a := a) hs l1 hi hX zd z0 (zm _)
    rw [he] at this
    exact this
  obtain ⟨M, i, gM, vM, bM⟩ := bk O1 h1
  obtain ⟨A, j, gA, vA, bA⟩ := bk O2 h2
  have bF : ∀ (X : List (Key × F)) (e : Int), vK X (sk b) = some (.int e) → e.fdiv z = y.fdiv z → p_back [.f (.tup [.str (Str.ofString "join"), .str a, .str b, .str c, .int z]), .f (.dct (pK (dK (dK E (sk a)) (sk b)) (sk c) (.int (x * z + y)))), .f (.dct X)] s =
      .ok (.w (.f (.dct (pK (pK (dK (pK (dK (dK E (sk a)) (sk b)) (sk c) (.int (x * z + y))) (sk c)) (sk a) (.int x)) (sk b) (.int y))))) s := fun X e hX he => by
    have := ba_join (a := a) hs l3 fc hX zd z0 (zm _)
    have e1 : (x * z + y).fdiv z - y.fdiv z = x := by
      rw [Int.fdiv_eq_ediv_of_nonneg _ (by omega), Int.fdiv_eq_ediv_of_nonneg _ (by omega), Int.add_comm, Int.add_mul_ediv_right _ _ z0]
      omega
    have e2 : (x * z + y).fmod z + y.fdiv z * z = y := by
      rw [Int.fmod_eq_emod_of_nonneg _ (by omega), Int.fdiv_eq_ediv_of_nonneg _ (by omega), Int.add_comm (x * z), Int.add_mul_emod_self_right, Int.mul_comm]
      exact Int.emod_add_mul_ediv y z
    rw [he, e1, e2] at this
    exact this
  have e : eqT (.dct (pK (pK (dK (pK (dK (dK E (sk a)) (sk b)) (sk c) (.int (x * z + y))) (sk c)) (sk a) (.int x)) (sk b) (.int y))) (.dct E) = some true := (((g1.drp _).put _ _).put _ _).eq gE fun k => by
    rw [vK_put, vK_put, vK_drp, vK_put, vK_drp, vK_drp]
    split
    · rename_i q; rw [q, hb]
    · rename_i q
      split
      · rename_i q2; rw [q2, ha]
      · rename_i q2
        split
        · rename_i q3
          rcases hc with hc | hc | hc
          · exact absurd (by rw [q3, hc]) q2
          · exact absurd (by rw [q3, hc]) q
          · rw [q3, hc]
        · simp [*]
  exact ⟨M, A, A, _, _, bM E y hb rfl, bA E y hb rfl, bA M _ vM (dv i y), gA.refl, bF M _ vM (dv i y), e, bF A _ vA (dv j y), e⟩
theorem core {st : List F} (h : StepOk E st) (n : Int) : Core s E st n := by
  cases h with
  | add c y hc => exact core_add hs gE c y n hc
  | drop a x ha => exact core_drop hs gE a x n ha
  | name a c x ha hc => exact core_name hs gE a c x n ha hc
  | shift a x y ha => exact core_shift hs gE a x y n ha
  | turn a x ha => exact core_turn hs gE a x n ha
  | part a c d x z ha hc hd hcd hz => exact core_part hs gE a c d x z n ha hc hd hcd hz
  | join a b c x y z ha hb hab hc hz => exact core_join hs gE a b c x y z n ha hb hab hc hz
end
end K05

namespace K05
open PySem L2 Fm
/-- a dict whose keys are the first k of a row -/
structure BD (row : List Str) (k : Nat) (D : List (Key × F)) : Prop where
  g : Gd k D
  ks : ∀ key, (vK D key).isSome = true ↔ ∃ j, j < k ∧ ∃ x, row[j]? = some x ∧ key = sk x
theorem BD.nil (row : List Str) : BD row 0 [] := by
  refine ⟨⟨List.nodup_nil, fun k x h => by simp [vK_nil] at h, fun k h => by simp [vK_nil] at h, Nat.le_refl _⟩, fun key => ⟨fun h => by simp [vK_nil] at h, fun ⟨j, h, _⟩ => by omega⟩⟩
theorem BD.put {row : List Str} {k : Nat} {D : List (Key × F)} (h : BD row k D) {x : Str} (hx : row[k]? = some x) (i : Int) : BD row (k + 1) (pK D (sk x) (.int i)) := by
  refine ⟨h.g.put _ _, fun key => ?_⟩
  rw [vK_put]
  by_cases q : key = sk x
  · rw [if_pos q]
    exact ⟨fun _ => ⟨k, by omega, x, hx, q⟩, fun _ => rfl⟩
  · rw [if_neg q, h.ks]
    constructor
    · rintro ⟨j, hj, y, hy, e⟩; exact ⟨j, by omega, y, hy, e⟩
    · rintro ⟨j, hj, y, hy, e⟩
      refine ⟨j, ?_, y, hy, e⟩
      rcases Nat.lt_or_ge j k with h2 | h2
      · exact h2
      · have : j = k := by omega
        subst this
        rw [hx] at hy; cases hy
        exact absurd e q
theorem keys_str {m : Nat} {D : List (Key × F)} (g : Gd m D) : ∃ ks, keysS D = some ks := by
  have h : ∀ k ∈ D.map (·.1), ∃ x, k = sk x := fun k hk => g.str k (mem_vK.mp hk)
  clear g
  induction D with
  | nil => exact ⟨[], rfl⟩
  | cons p r ih =>
    obtain ⟨k, y⟩ := p
    obtain ⟨x, rfl⟩ := h k (by simp)
    obtain ⟨ks, e⟩ := ih fun k hk => h k (by rw [List.map_cons]; exact List.mem_cons_of_mem _ hk)
    exact ⟨x :: ks, by unfold keysS; rw [e]⟩
theorem row_at {row : List Str} {k : Nat} {x : Str} (h : row[k]? = some x) : L2.atI (row.map F.str) (k : Int) = some (.str x) := by
  obtain ⟨h1, h2⟩ := List.getElem?_eq_some_iff.mp h
  rw [atI_nat (by rw [List.length_map]; exact h1)]
  simp [h2]
set_option maxHeartbeats 0 in
theorem r_l_other {s : Sto} (hs : insOk s) (ns : List Int) (at0 : Int) (h0 : 0 ≤ at0) (w : Str) (ts : List F) (first : List (Key × F)) (g : Gd 60 first)
    (hp : w = Str.ofString "part" → ∃ a c d z, ts = [a, c, .str d, .int z] ∧ 0 < z ∧ ∃ v, vK first (sk d) = some (.int v)) :
    ∃ O, p_l_other [.f (.scr ns), .f (.int at0), .f (.tup (.str w :: ts)), .f (.dct first)] s = .ok (.w (.f (.dct O))) s ∧ Oth (.str w :: ts) first O := by
  obtain ⟨ks, hk⟩ := keys_str g
  have hkm := keysS_map hk
  have hkl : ks.length ≤ 60 := by
    have := congrArg List.length hkm
    simp only [List.length_map] at this
    rw [← this]; exact g.len
  have h64 : ks.length < 64 := by omega
  have hsl : (sortS ks).length = ks.length := (sortS_perm ks).length_eq
  obtain ⟨sl', lp, D, x6, rfl, bd⟩ := loop_rg (i := 6) (s := s) (n := ks.length) (body := sPutD (mVar 4) (mB ixF (mVar 5) (mVar 6)) (mCall p_l_number (aCons (mB addF (mCall p_l_cell_at (aCons (mVar 0) (aCons (mB addF (mVar 1) (mB modF (mVar 6) (mC (.int 16)))) aNil))) (mB mulF (mC (.int 7)) (mVar 6))) aNil)))
    (P := fun k sl => ∃ D x6, sl = [.v (.f (.scr ns)), .v (.f (.int at0)), .v (.f (.tup (.str w :: ts))), .v (.f (.dct first)), .own (.dct D), .v (.f (.lst ((sortS ks).map F.str))), x6] ∧ BD (sortS ks) k D)
    [.v (.f (.scr ns)), .v (.f (.int at0)), .v (.f (.tup (.str w :: ts))), .v (.f (.dct first)), .own (.dct []), .v (.f (.lst ((sortS ks).map F.str))), .no] ⟨[], .no, rfl, .nil _⟩ fun k hkk sl ⟨D, x6, e, bd⟩ => by
      subst e
      obtain ⟨m1, m2⟩ := fmod_lt' (k : Int) (n := 16) (by decide)
      have c1 := r_l_cell_at hs ns (at0 + (k : Int).fmod 16) (by omega)
      obtain ⟨i, hi⟩ := r_l_number hs (cl ns (at0 + (k : Int).fmod 16) + 7 * (k : Int))
      obtain ⟨x, hx⟩ : ∃ x, (sortS ks)[k]? = some x := ⟨_, List.getElem?_eq_getElem (by omega)⟩
      have hx2 := row_at hx
      have m7 : mulOk 7 (k : Int) = true := mulOk_of (.inl (by decide))
      have hz : D.length < sizeLine := ltz (Nat.le_trans bd.g.len (Nat.le_of_lt hkk)) (by omega)
      refine ⟨_, ?_, pK D (sk x) (.int i), .v (.f (.int k)), rfl, bd.put hx i⟩
      simp [c1, hi, hx2, m7, hz]
  have ks2 : ∀ key, (vK D key).isSome = (vK first key).isSome := fun key => by
    rw [Bool.eq_iff_iff, bd.ks, ← mem_vK, hkm, List.mem_map]
    constructor
    · rintro ⟨j, _, x, hx, rfl⟩
      exact ⟨x, (sortS_perm ks).mem_iff.mp (List.mem_of_getElem? hx), rfl⟩
    · rintro ⟨x, hx, rfl⟩
      obtain ⟨j, hj⟩ := List.getElem?_of_mem ((sortS_perm ks).mem_iff.mpr hx)
      exact ⟨j, by have := (List.getElem?_eq_some_iff.mp hj).1; omega, x, hj, rfl⟩
  have hb : inB (ks.length : Int) = true := inB_of2 (by omega)
  have gD : Gd 60 D := bd.g.mono hkl
  by_cases q : w = Str.ofString "part"
  · obtain ⟨a, c, d, z, rfl, hz, v, hv⟩ := hp q
    obtain ⟨y, hy⟩ : ∃ y, vK D (sk d) = some y := Option.isSome_iff_exists.mp (by rw [ks2, hv]; rfl)
    obtain ⟨i, rfl⟩ := gD.int _ _ hy
    obtain ⟨m1, m2⟩ := fmod_lt' i hz
    have hz0 : ¬ z = 0 := by omega
    have hzl : D.length < sizeLine := ltz gD.len (by decide)
    have ln : (pK D (sk d) (.int (i.fmod z))).length ≤ 60 := by
      have e : (pK D (sk d) (.int (i.fmod z))).length = D.length := by
        refine (gD.nd.put _ _).len gD.nd fun k => ?_
        rw [vK_put]
        split
        · rename_i e; rw [e, hy]; rfl
        · rfl
      rw [e]; exact gD.len
    refine ⟨pK D (sk d) (.int (i.fmod z)), runA_rt hs ?_, ⟨⟨(gD.put d (i.fmod z)).nd, (gD.put d (i.fmod z)).int, (gD.put d (i.fmod z)).str, ln⟩, fun key => ?_, fun a' c' d' z' e => ?_⟩⟩
    · subst q
      simp [b_l_other, hk, h64, hsl, hb, lp, hy, hz0, hzl]
    · rw [vK_put]
      split
      · rename_i e; rw [e, hv]; rfl
      · exact ks2 key
    · simp at e
      obtain ⟨_, _, _, rfl, rfl⟩ := e
      exact ⟨_, by rw [vK_put, if_pos rfl], m1, m2⟩
  · refine ⟨D, runA_rt hs ?_, ⟨gD, ks2, fun a' c' d' z' e => ?_⟩⟩
    · simp [b_l_other, hk, h64, hsl, hb, lp, q]
    · simp at e
      exact absurd e.1 q
end K05

namespace K05
open PySem L2 Fm
def stOf (kind : Int) (a b c d : Str) (z n : Int) : List F :=
  if kind = 0 then [.str (Str.ofString "add"), .str c, .int n]
  else if kind = 1 then [.str (Str.ofString "drop"), .str a]
  else if kind = 2 then [.str (Str.ofString "name"), .str a, .str c]
  else if kind = 3 then [.str (Str.ofString "shift"), .str a, .int n]
  else if kind = 4 then [.str (Str.ofString "turn"), .str a]
  else if kind = 5 ∨ kind = 7 then [.str (Str.ofString "part"), .str a, .str c, .str d, .int z]
  else [.str (Str.ofString "join"), .str a, .str b, .str c, .int z]
theorem r_l_step {s : Sto} (hs : insOk s) (kind : Int) (a b c d : Str) (r : List F) (z n : Int) : p_l_step [.f (.int kind), .f (.lst (.str a :: .str b :: r)), .f (.lst [.str c, .str d]), .f (.int z), .f (.int n)] s = .ok (.w (.f (.tup (stOf kind a b c d z n)))) s := by
  have z3 : 3 ≤ sizeLine := by decide
  have z2 : 2 ≤ sizeLine := by decide
  have z5 : 5 ≤ sizeLine := by decide
  refine runA_rt hs ?_
  by_cases h0 : kind = 0
  · simp [b_l_step, stOf, h0, z3]
  by_cases h1 : kind = 1
  · simp [b_l_step, stOf, h1, z2]
  by_cases h2 : kind = 2
  · simp [b_l_step, stOf, h2, z3]
  by_cases h3 : kind = 3
  · simp [b_l_step, stOf, h3, z3]
  by_cases h4 : kind = 4
  · simp [b_l_step, stOf, h4, z2]
  by_cases h5 : kind = 5
  · simp [b_l_step, stOf, h5, z5]
  by_cases h7 : kind = 7
  · simp [b_l_step, stOf, h7, z5]
  simp [b_l_step, stOf, h0, h1, h2, h3, h4, h5, h7, z5]
def rowOf (c : Int) (N : Nat) : List Str := (List.range N).map fun k => mkS (poolL c k)
theorem mkS_inj {a b : List Nat} (h : mkS a = mkS b) : a = b := by
  have := congrArg (fun x : Str => x.cps.toList) h
  simpa [mkS] using this
theorem row_nd (c : Int) {N : Nat} (hN : N ≤ 26) : (rowOf c N).Nodup := by
  unfold rowOf
  rw [List.nodup_iff_pairwise_ne, List.pairwise_map]
  refine List.Pairwise.imp_of_mem (R := fun a b => a < b) (fun {a b} ha hb h e => ?_) List.pairwise_lt_range
  have := pool_inj (c := c) (by have := List.mem_range.mp ha; omega) (by have := List.mem_range.mp hb; omega) (mkS_inj e)
  omega
theorem row_no (c : Int) {N k : Nat} (hN : N ≤ k) (hk : k < 26) : mkS (poolL c k) ∉ rowOf c N := by
  unfold rowOf
  intro h
  obtain ⟨j, hj, e⟩ := List.mem_map.mp h
  have hj := List.mem_range.mp hj
  have := pool_inj (c := c) (by omega) hk (mkS_inj e)
  omega
theorem cut_to {α : Type} (xs : List α) (n : Nat) (h : n ≤ xs.length) : cutF xs none (some (n : Int)) = xs.take n := by
  unfold cutF
  rw [HT.sIx_none, HT.sIx_nat, Nat.min_eq_left h]
  simp
theorem cut_from {α : Type} (xs : List α) (n : Nat) (h : n ≤ xs.length) : cutF xs (some (n : Int)) none = xs.drop n := by
  unfold cutF
  rw [HT.sIx_none, HT.sIx_nat, Nat.min_eq_left h]
  exact List.take_of_length_le (by rw [List.length_drop]; exact Nat.le_refl _)
theorem turned {row : List Str} (hn : row.Nodup) (h2 : 2 ≤ row.length) (t : Nat) : ∃ a b r, row.drop t ++ row.take t = a :: b :: r ∧ a ≠ b ∧ a ∈ row ∧ b ∈ row := by
  have p : (row.drop t ++ row.take t).Perm row := List.perm_append_comm.trans (by rw [List.take_append_drop])
  have nd := p.nodup_iff.mpr hn
  have hl := p.length_eq
  match e : row.drop t ++ row.take t, nd, hl with
  | [], _, hl => simp at hl; omega
  | [x], _, hl => simp at hl; omega
  | a :: b :: r, nd, _ =>
    rw [e] at p
    refine ⟨a, b, r, rfl, ?_, p.mem_iff.mp (by simp), p.mem_iff.mp (by simp)⟩
    simp at nd
    exact nd.1.1
end K05

namespace K05
open PySem L2 Fm
/-- the law's tail's facts, one way of the new names -/
theorem stOf_ok {E : List (Key × F)} {row : List Str} (hE : ∀ key, (vK E key).isSome = true ↔ ∃ x ∈ row, key = sk x) (iE : IntD E) {a b p q c : Str} (ha : a ∈ row) (hb : b ∈ row) (hab : a ≠ b) (hp : p ∉ row) (hq : q ∉ row) (hpq : p ≠ q) {kind z n : Int}
    (hz : 2 ≤ z ∧ z ≤ 1000001) (hc : c = p ∨ (5 < kind ∧ ¬ kind = 7 ∧ (c = a ∨ c = b)) ∨ (kind = 7 ∧ c = a)) : StepOk E (stOf kind a b c q z n) := by
  have get : ∀ {x}, x ∈ row → ∃ i, vK E (sk x) = some (.int i) := fun {x} hx => by
    obtain ⟨y, hy⟩ := Option.isSome_iff_exists.mp ((hE (sk x)).mpr ⟨x, hx, rfl⟩)
    obtain ⟨i, rfl⟩ := iE _ _ hy
    exact ⟨i, hy⟩
  have no : ∀ {x}, x ∉ row → vK E (sk x) = none := fun {x} hx => by
    cases e : vK E (sk x) with
    | none => rfl
    | some y =>
      obtain ⟨x', hx', e'⟩ := (hE (sk x)).mp (by rw [e]; rfl)
      cases e'
      exact absurd hx' hx
  obtain ⟨i, hi⟩ := get ha
  obtain ⟨j, hj⟩ := get hb
  have np := no hp
  have nq := no hq
  unfold stOf
  by_cases h0 : kind = 0
  · rw [if_pos h0]
    rcases hc with rfl | ⟨h, _⟩ | ⟨h, _⟩
    · exact .add _ _ np
    · omega
    · omega
  rw [if_neg h0]
  by_cases h1 : kind = 1
  · rw [if_pos h1]; exact .drop _ _ hi
  rw [if_neg h1]
  by_cases h2 : kind = 2
  · rw [if_pos h2]
    rcases hc with rfl | ⟨h, _⟩ | ⟨h, _⟩
    · exact .name _ _ _ hi np
    · omega
    · omega
  rw [if_neg h2]
  by_cases h3 : kind = 3
  · rw [if_pos h3]; exact .shift _ _ _ hi
  rw [if_neg h3]
  by_cases h4 : kind = 4
  · rw [if_pos h4]; exact .turn _ _ hi
  rw [if_neg h4]
  by_cases h5 : kind = 5 ∨ kind = 7
  · rw [if_pos h5]
    rcases hc with rfl | ⟨h, h', _⟩ | ⟨_, rfl⟩
    · exact .part _ _ _ _ _ hi (.inr np) nq hpq hz
    · omega
    · exact .part _ _ _ _ _ hi (.inl rfl) nq (fun e => hq (e ▸ ha)) hz
  rw [if_neg h5]
  refine .join _ _ _ _ _ _ hi hj hab ?_ hz
  rcases hc with rfl | ⟨_, _, h | h⟩ | ⟨h, _⟩
  · exact .inr (.inr np)
  · exact .inl h
  · exact .inr (.inl h)
  · omega
theorem stOf_hd (kind : Int) (a b c d : Str) (z n : Int) : ∃ w ts, stOf kind a b c d z n = .str w :: ts := by
  unfold stOf
  repeat' split
  all_goals exact ⟨_, _, rfl⟩
end K05

namespace K05
open PySem L2 Fm
theorem part_shape {E : List (Key × F)} {st : List F} (h : StepOk E st) {w : Str} {ts : List F} (e : st = .str w :: ts) (hw : w = Str.ofString "part") : ∃ a c d z, ts = [a, c, .str d, .int z] := by
  subst hw
  cases h <;> simp at e
  exact ⟨_, _, _, _, e.symm⟩
theorem stepOk_hd {E : List (Key × F)} {st : List F} (h : StepOk E st) : ∃ w ts, st = .str w :: ts := by
  cases h <;> exact ⟨_, _, rfl⟩
set_option maxHeartbeats 0 in
theorem law_ok : ∀ ns : List Int, ns.length ≤ 63 → ∃ s', p_law [.f (.scr ns)] ⟨[], []⟩ = .ok (.w (.f (.bl true))) s' := by
  intro ns _
  generalize hs0 : (⟨[], []⟩ : Sto) = s
  have hs : insOk s := by rw [← hs0]; exact insOk0
  have c0 := r_l_cell_at hs ns 0 (by decide)
  have c1 := r_l_cell_at hs ns 1 (by decide)
  have c2 := r_l_cell_at hs ns 2 (by decide)
  have c3 := r_l_cell_at hs ns 3 (by decide)
  have c4 := r_l_cell_at hs ns 4 (by decide)
  have c5 := r_l_cell_at hs ns 5 (by decide)
  have c6 := r_l_cell_at hs ns 6 (by decide)
  have hP := r_l_pool hs (cl ns 0)
  obtain ⟨N, hN, hN2, hN11⟩ : ∃ N : Nat, 2 + (cl ns 1).fmod 10 = N ∧ 2 ≤ N ∧ N ≤ 11 := by
    obtain ⟨h1, h2⟩ := fmod_lt' (cl ns 1) (n := 10) (by decide)
    exact ⟨(2 + (cl ns 1).fmod 10).toNat, by omega, by omega, by omega⟩
  -- the pool
  obtain ⟨pool, p, q, row, hP, p13, p14, hcut, hrl, hrn, hpr, hqr, hpq⟩ : ∃ (pool : List F) (p q : Str) (row : List Str), p_l_pool [.f (.int (cl ns 0))] s = .ok (.w (.f (.lst pool))) s ∧ L2.atI pool 13 = some (.str p) ∧ L2.atI pool 14 = some (.str q) ∧
      cutF pool none (some (N : Int)) = row.map F.str ∧ row.length = N ∧ row.Nodup ∧ p ∉ row ∧ q ∉ row ∧ p ≠ q := by
    refine ⟨_, mkS (poolL (cl ns 0) 13), mkS (poolL (cl ns 0) 14), rowOf (cl ns 0) N, hP, ?_, ?_, ?_, by simp [rowOf], row_nd _ (by omega), row_no _ (by omega) (by decide), row_no _ (by omega) (by decide), fun e => ?_⟩
    · have := atI_nat (xs := (List.range 26).map (poolF (cl ns 0))) (k := 13) (by simp)
      simpa [poolF] using this
    · have := atI_nat (xs := (List.range 26).map (poolF (cl ns 0))) (k := 14) (by simp)
      simpa [poolF] using this
    · rw [cut_to _ _ (by rw [List.length_map, List.length_range]; omega), ← List.map_take, List.take_range, Nat.min_eq_left (by omega)]
      unfold rowOf
      rw [List.map_map]
      rfl
    · have := pool_inj (c := cl ns 0) (j := 13) (k := 14) (by decide) (by decide) (mkS_inj e)
      omega
  -- the elder reading
  obtain ⟨sl', lp, E, x4, rfl, bd⟩ := loop_rg (i := 4) (s := s) (n := N) (body := sPutD (mVar 3) (mB ixF (mVar 2) (mVar 4)) (mCall p_l_number (aCons (mCall p_l_cell_at (aCons (mVar 0) (aCons (mB addF (mC (.int 7)) (mVar 4)) aNil))) aNil)))
    (P := fun k sl => ∃ D x4, sl = [.v (.f (.scr ns)), .v (.f (.lst pool)), .v (.f (.lst (row.map F.str))), .own (.dct D), x4, .no, .no, .no, .no, .no, .no, .no, .no, .no, .no, .no, .no] ∧ BD row k D)
    [.v (.f (.scr ns)), .v (.f (.lst pool)), .v (.f (.lst (row.map F.str))), .own (.dct []), .no, .no, .no, .no, .no, .no, .no, .no, .no, .no, .no, .no, .no] ⟨[], .no, rfl, .nil _⟩ fun k hkk sl ⟨D, x4, e, bd⟩ => by
      subst e
      have d1 := r_l_cell_at hs ns (7 + (k : Int)) (by omega)
      obtain ⟨i, hi⟩ := r_l_number hs (cl ns (7 + (k : Int)))
      obtain ⟨x, hx⟩ : ∃ x, row[k]? = some x := ⟨_, List.getElem?_eq_getElem (by omega)⟩
      have hx2 := row_at hx
      have hz : D.length < sizeLine := ltz (Nat.le_trans bd.g.len (Nat.le_of_lt hkk)) (by omega)
      refine ⟨_, ?_, pK D (sk x) (.int i), .v (.f (.int k)), rfl, bd.put hx i⟩
      simp [d1, hi, hx2, hz]
  have gE : Gd 40 E := bd.g.mono (by omega)
  have hE : ∀ key, (vK E key).isSome = true ↔ ∃ x ∈ row, key = sk x := fun key => by
    rw [bd.ks]
    constructor
    · rintro ⟨j, _, x, hx, e⟩; exact ⟨x, List.mem_of_getElem? hx, e⟩
    · rintro ⟨x, hx, e⟩
      obtain ⟨j, hj⟩ := List.getElem?_of_mem hx
      exact ⟨j, by have := (List.getElem?_eq_some_iff.mp hj).1; omega, x, hj, e⟩
  -- the names turned
  obtain ⟨t, ht, htN⟩ : ∃ t : Nat, (cl ns 2).fmod (N : Int) = t ∧ t < N := by
    obtain ⟨h1, h2⟩ := fmod_lt' (cl ns 2) (n := (N : Int)) (by omega)
    exact ⟨((cl ns 2).fmod (N : Int)).toNat, by omega, by omega⟩
  obtain ⟨a, b, r, hab', hab, har, hbr⟩ := turned hrn (by omega) t
  obtain ⟨X1, X2, e1, e2, eX, lX⟩ : ∃ X1 X2, cutF (row.map F.str) (some (t : Int)) none = X1 ∧ cutF (row.map F.str) none (some (t : Int)) = X2 ∧ X1 ++ X2 = .str a :: .str b :: r.map F.str ∧ X1.length + X2.length ≤ sizeLine := by
    refine ⟨_, _, rfl, rfl, ?_, ?_⟩
    · rw [cut_from _ _ (by rw [List.length_map]; omega), cut_to _ _ (by rw [List.length_map]; omega), ← List.map_drop, ← List.map_take, ← List.map_append, hab']
      rfl
    · rw [cut_from _ _ (by rw [List.length_map]; omega), cut_to _ _ (by rw [List.length_map]; omega), ← List.length_append, ← List.map_drop, ← List.map_take, ← List.map_append, List.length_map, List.length_append, List.length_drop, List.length_take]
      exact Nat.le_trans (show row.length - t + min t row.length ≤ 11 by omega) (by decide)
  obtain ⟨kind, hK, hK0, hK9⟩ : ∃ kind : Int, (cl ns 3).fmod 9 = kind ∧ 0 ≤ kind ∧ kind < 9 := ⟨_, rfl, fmod_lt' _ (by decide)⟩
  obtain ⟨u, hu, hu0, hu3⟩ : ∃ u : Int, ((cl ns 5).fdiv 2).fmod 3 = u ∧ 0 ≤ u ∧ u < 3 := ⟨_, rfl, fmod_lt' _ (by decide)⟩
  obtain ⟨z, hz, hsz⟩ : ∃ z : Int, (2 ≤ z ∧ z ≤ 1000001) ∧ (((cl ns 5).fmod 2 = 1 ∧ 2 + (cl ns 4).fmod 70 = z) ∨ (¬ (cl ns 5).fmod 2 = 1 ∧ 2 + (cl ns 4).fmod 999999 = z)) := by
    obtain ⟨h1, h2⟩ := fmod_lt' (cl ns 4) (n := 70) (by decide)
    obtain ⟨h3, h4⟩ := fmod_lt' (cl ns 4) (n := 999999) (by decide)
    by_cases hq : (cl ns 5).fmod 2 = 1
    · exact ⟨_, by omega, .inl ⟨hq, rfl⟩⟩
    · exact ⟨_, by omega, .inr ⟨hq, rfl⟩⟩
  obtain ⟨n, hn⟩ := r_l_number hs (cl ns 6)
  -- the new names
  obtain ⟨nv, hnv, cases⟩ : ∃ nv : Str, (nv = p ∨ (5 < kind ∧ ¬ kind = 7 ∧ (nv = a ∨ nv = b)) ∨ (kind = 7 ∧ nv = a)) ∧
      ((¬ 5 < kind ∧ ¬ kind = 7 ∧ nv = p) ∨ (5 < kind ∧ u = 0 ∧ ¬ kind = 7 ∧ nv = p) ∨ (5 < kind ∧ u = 1 ∧ ¬ kind = 7 ∧ nv = a) ∨ (5 < kind ∧ u = 2 ∧ ¬ kind = 7 ∧ nv = b) ∨ (5 < kind ∧ u = 0 ∧ kind = 7 ∧ nv = a) ∨ (5 < kind ∧ u = 1 ∧ kind = 7 ∧ nv = a) ∨ (5 < kind ∧ u = 2 ∧ kind = 7 ∧ nv = a)) := by
    have hu' : u = 0 ∨ u = 1 ∨ u = 2 := by omega
    by_cases k5 : 5 < kind
    · by_cases k7 : kind = 7
      · refine ⟨a, .inr (.inr ⟨k7, rfl⟩), ?_⟩
        rcases hu' with h | h | h
        · exact .inr (.inr (.inr (.inr (.inl ⟨k5, h, k7, rfl⟩))))
        · exact .inr (.inr (.inr (.inr (.inr (.inl ⟨k5, h, k7, rfl⟩)))))
        · exact .inr (.inr (.inr (.inr (.inr (.inr ⟨k5, h, k7, rfl⟩)))))
      · rcases hu' with h | h | h
        · exact ⟨p, .inl rfl, .inr (.inl ⟨k5, h, k7, rfl⟩)⟩
        · exact ⟨a, .inr (.inl ⟨k5, k7, .inl rfl⟩), .inr (.inr (.inl ⟨k5, h, k7, rfl⟩))⟩
        · exact ⟨b, .inr (.inl ⟨k5, k7, .inr rfl⟩), .inr (.inr (.inr (.inl ⟨k5, h, k7, rfl⟩)))⟩
    · exact ⟨p, .inl rfl, .inl ⟨k5, by omega, rfl⟩⟩
  have ok := stOf_ok hE gE.int har hbr hab hpr hqr hpq (kind := kind) (n := n) hz hnv
  have hst := r_l_step hs kind a b nv q (r.map F.str) z n
  generalize stOf kind a b nv q z n = st at ok hst
  obtain ⟨first, hf, gf, hpart, hO⟩ := core hs gE ok n
  obtain ⟨w, ts, ew⟩ := stepOk_hd ok
  have hp' : w = Str.ofString "part" → ∃ a c d z, ts = [a, c, .str d, .int z] ∧ 0 < z ∧ ∃ v, vK first (sk d) = some (.int v) := fun hw => by
    obtain ⟨a', c', d', z', e⟩ := part_shape ok ew hw
    obtain ⟨h1, h2⟩ := hpart a' c' d' z' (by rw [ew, e, hw])
    exact ⟨a', c', d', z', e, h1, h2⟩
  obtain ⟨O1, ho1, oo1⟩ := r_l_other hs ns 20 (by decide) w ts first gf hp'
  obtain ⟨O2, ho2, oo2⟩ := r_l_other hs ns 37 (by decide) w ts first gf hp'
  rw [← ew] at ho1 ho2 oo1 oo2
  obtain ⟨M, A, T, B, C, f1, f2, f3, q1, f4, q2, f5, q3⟩ := hO O1 O2 oo1 oo2
  have hb : inB (N : Int) = true := inB_of2 (by omega)
  have hN0 : ¬ N = 0 := by omega
  have z2 : 2 ≤ sizeLine := by decide
  have i0 : L2.ixN 2 0 = some 0 := by decide
  refine ⟨s, runA_rt hs ?_⟩
  unfold b_law
  have st1 : ∀ {m1 m2 : MS} {sl sl' : List Sl}, m1 sl s = .nx sl' s → sSeq m1 m2 sl s = m2 sl' s := fun h => by simp [h]
  -- one statement after the other
  refine (st1 (sl' := [.v (.f (.scr ns)), .v (.f (.lst pool)), .no, .no, .no, .no, .no, .no, .no, .no, .no, .no, .no, .no, .no, .no, .no]) (by simp [c0, hP])).trans ?_
  refine (st1 (sl' := [.v (.f (.scr ns)), .v (.f (.lst pool)), .v (.f (.lst (row.map F.str))), .no, .no, .no, .no, .no, .no, .no, .no, .no, .no, .no, .no, .no, .no]) (by simp [c1, hN, hcut])).trans ?_
  refine (st1 (sl' := [.v (.f (.scr ns)), .v (.f (.lst pool)), .v (.f (.lst (row.map F.str))), .own (.dct []), .no, .no, .no, .no, .no, .no, .no, .no, .no, .no, .no, .no, .no]) (by simp)).trans ?_
  refine (st1 (sl' := [.v (.f (.scr ns)), .v (.f (.lst pool)), .v (.f (.lst (row.map F.str))), .own (.dct E), x4, .no, .no, .no, .no, .no, .no, .no, .no, .no, .no, .no, .no]) (by simp [hrl, hb, lp])).trans ?_
  refine (st1 (sl' := [.v (.f (.scr ns)), .v (.f (.lst pool)), .v (.f (.lst (row.map F.str))), .v (.f (.dct E)), x4, .no, .no, .no, .no, .no, .no, .no, .no, .no, .no, .no, .no]) (by simp)).trans ?_
  refine (st1 (sl' := [.v (.f (.scr ns)), .v (.f (.lst pool)), .v (.f (.lst (row.map F.str))), .v (.f (.dct E)), x4, .v (.f (.int t)), .no, .no, .no, .no, .no, .no, .no, .no, .no, .no, .no]) (by simp [c2, hrl, ht, hN0])).trans ?_
  refine (st1 (sl' := [.v (.f (.scr ns)), .v (.f (.lst pool)), .v (.f (.lst (row.map F.str))), .v (.f (.dct E)), x4, .v (.f (.int t)), .v (.f (.int kind)), .no, .no, .no, .no, .no, .no, .no, .no, .no, .no]) (by simp [c3, hK])).trans ?_
  refine (st1 (sl' := [.v (.f (.scr ns)), .v (.f (.lst pool)), .v (.f (.lst (row.map F.str))), .v (.f (.dct E)), x4, .v (.f (.int t)), .v (.f (.int kind)), .v (.f (.int (2 + (cl ns 4).fmod 999999))), .no, .no, .no, .no, .no, .no, .no, .no, .no]) (by simp [c4])).trans ?_
  refine (st1 (sl' := [.v (.f (.scr ns)), .v (.f (.lst pool)), .v (.f (.lst (row.map F.str))), .v (.f (.dct E)), x4, .v (.f (.int t)), .v (.f (.int kind)), .v (.f (.int z)), .no, .no, .no, .no, .no, .no, .no, .no, .no]) (by
    rcases hsz with ⟨s1, s2⟩ | ⟨s1, s2⟩
    · simp [c4, c5, s1, s2]
    · simp [c4, c5, s1, s2])).trans ?_
  refine (st1 (sl' := [.v (.f (.scr ns)), .v (.f (.lst pool)), .v (.f (.lst (row.map F.str))), .v (.f (.dct E)), x4, .v (.f (.int t)), .v (.f (.int kind)), .v (.f (.int z)), .v (.f (.int n)), .no, .no, .no, .no, .no, .no, .no, .no]) (by simp [c6, hn])).trans ?_
  refine (st1 (sl' := [.v (.f (.scr ns)), .v (.f (.lst pool)), .v (.f (.lst (row.map F.str))), .v (.f (.dct E)), x4, .v (.f (.int t)), .v (.f (.int kind)), .v (.f (.int z)), .v (.f (.int n)), .v (.f (.lst (.str a :: .str b :: r.map F.str))), .no, .no, .no, .no, .no, .no, .no]) (by simp [e1, e2, eX, lX])).trans ?_
  refine (st1 (sl' := [.v (.f (.scr ns)), .v (.f (.lst pool)), .v (.f (.lst (row.map F.str))), .v (.f (.dct E)), x4, .v (.f (.int t)), .v (.f (.int kind)), .v (.f (.int z)), .v (.f (.int n)), .v (.f (.lst (.str a :: .str b :: r.map F.str))), .own (.lst [.str p, .str q]), .no, .no, .no, .no, .no, .no]) (by simp [p13, p14, z2])).trans ?_
  have two : ∃ n1 : Str, (sIf (mAnd (mB gtF (mVar 6) (mC (.int 5))) (mB gtF (mB modF (mB divF (mCall p_l_cell_at (aCons (mVar 0) (aCons (mC (.int 5)) aNil))) (mC (.int 2))) (mC (.int 3))) (mC (.int 0)))) (sPutL (mVar 10) (mC (.int 0)) (mB ixF (mVar 9) (mB subF (mB modF (mB divF (mCall p_l_cell_at (aCons (mVar 0) (aCons (mC (.int 5)) aNil))) (mC (.int 2))) (mC (.int 3))) (mC (.int 1))))) sSkip)
      [.v (.f (.scr ns)), .v (.f (.lst pool)), .v (.f (.lst (row.map F.str))), .v (.f (.dct E)), x4, .v (.f (.int t)), .v (.f (.int kind)), .v (.f (.int z)), .v (.f (.int n)), .v (.f (.lst (.str a :: .str b :: r.map F.str))), .own (.lst [.str p, .str q]), .no, .no, .no, .no, .no, .no] s =
      .nx [.v (.f (.scr ns)), .v (.f (.lst pool)), .v (.f (.lst (row.map F.str))), .v (.f (.dct E)), x4, .v (.f (.int t)), .v (.f (.int kind)), .v (.f (.int z)), .v (.f (.int n)), .v (.f (.lst (.str a :: .str b :: r.map F.str))), .own (.lst [.str n1, .str q]), .no, .no, .no, .no, .no, .no] s ∧ ((¬ kind = 7 ∧ n1 = nv) ∨ (kind = 7 ∧ nv = a)) := by
    rcases cases with ⟨k1, k2, k4⟩ | ⟨k1, k3, k2, k4⟩ | ⟨k1, k3, k2, k4⟩ | ⟨k1, k3, k2, k4⟩ | ⟨k1, k3, k2, k4⟩ | ⟨k1, k3, k2, k4⟩ | ⟨k1, k3, k2, k4⟩
    · exact ⟨p, by simp [k1], .inl ⟨k2, k4.symm⟩⟩
    · exact ⟨p, by simp [k1, c5, hu, k3], .inl ⟨k2, k4.symm⟩⟩
    · exact ⟨a, by simp [k1, c5, hu, k3, i0], .inl ⟨k2, k4.symm⟩⟩
    · exact ⟨b, by simp [k1, c5, hu, k3, i0], .inl ⟨k2, k4.symm⟩⟩
    · exact ⟨p, by simp [k1, c5, hu, k3], .inr ⟨k2, k4⟩⟩
    · exact ⟨a, by simp [k1, c5, hu, k3, i0], .inr ⟨k2, k4⟩⟩
    · exact ⟨b, by simp [k1, c5, hu, k3, i0], .inr ⟨k2, k4⟩⟩
  obtain ⟨n1, two, h7⟩ := two
  refine (st1 two).trans ?_
  refine (st1 (sl' := [.v (.f (.scr ns)), .v (.f (.lst pool)), .v (.f (.lst (row.map F.str))), .v (.f (.dct E)), x4, .v (.f (.int t)), .v (.f (.int kind)), .v (.f (.int z)), .v (.f (.int n)), .v (.f (.lst (.str a :: .str b :: r.map F.str))), .own (.lst [.str nv, .str q]), .no, .no, .no, .no, .no, .no]) (by
    rcases h7 with ⟨h, e⟩ | ⟨h, e⟩
    · simp [h, e]
    · simp [h, e, i0])).trans ?_
  simp [hst, hf, ho1, ho2, f1, f2, f3, f4, f5, q1, q2, q3]
end K05

namespace K05
open PySem L2 Fm
def top (i : Nat) : Stmt := PySem.Challenge.pw_formlens_k05_back_twice.main.body.getD i (.Pass ⟨0, 0, 0, 0⟩)
abbrev s_begins_from : Stmt := top 4
abbrev s_brings : Stmt := top 5
abbrev s_forth : Stmt := top 6
abbrev s_back : Stmt := top 7
abbrev s_l_cell_at : Stmt := top 9
abbrev s_l_pool : Stmt := top 10
abbrev s_l_number : Stmt := top 11
abbrev s_l_step : Stmt := top 12
abbrev s_l_other : Stmt := top 13
abbrev s_law : Stmt := top 14
structure Tp (K : PySem.W.Frag) (mg : Str → Option Value) (u : Tok) (f_begins_from f_brings f_forth f_back f_l_cell_at f_l_pool f_l_number f_l_step f_l_other f_law : Addr) : Prop where
  z_dict : mg "dict" = none
  z_isinstance : mg "isinstance" = none
  z_len : mg "len" = none
  z_range : mg "range" = none
  z_sorted : mg "sorted" = none
  g_begins_from : mg "begins_from" = some (.ref f_begins_from)
  k_begins_from : PySem.W.keepIn K (.ref f_begins_from) = true
  g_brings : mg "brings" = some (.ref f_brings)
  k_brings : PySem.W.keepIn K (.ref f_brings) = true
  g_forth : mg "forth" = some (.ref f_forth)
  k_forth : PySem.W.keepIn K (.ref f_forth) = true
  g_back : mg "back" = some (.ref f_back)
  k_back : PySem.W.keepIn K (.ref f_back) = true
  g_l_cell_at : mg "_law_cell_at" = some (.ref f_l_cell_at)
  k_l_cell_at : PySem.W.keepIn K (.ref f_l_cell_at) = true
  g_l_pool : mg "_law_pool" = some (.ref f_l_pool)
  k_l_pool : PySem.W.keepIn K (.ref f_l_pool) = true
  g_l_number : mg "_law_number" = some (.ref f_l_number)
  k_l_number : PySem.W.keepIn K (.ref f_l_number) = true
  g_l_step : mg "_law_step" = some (.ref f_l_step)
  k_l_step : PySem.W.keepIn K (.ref f_l_step) = true
  g_l_other : mg "_law_other" = some (.ref f_l_other)
  k_l_other : PySem.W.keepIn K (.ref f_l_other) = true
  g_law : mg "law" = some (.ref f_law)
  k_law : PySem.W.keepIn K (.ref f_law) = true
section
variable {P : Program} {w : World} {K : PySem.W.Frag} {mg : Str → Option Value} {base : Heap} {C : Addr} {cls : Str → Addr} {u : Tok} {f_begins_from f_brings f_forth f_back f_l_cell_at f_l_pool f_l_number f_l_step f_l_other f_law : Addr}
theorem sc_begins_from : FnScope N_begins_from ["step"] (defScope s_begins_from) := ⟨rfl, rfl, rfl, by decide +kernel, rfl, by decide +kernel, by decide +kernel⟩
theorem d_begins_from (T : Tp K mg u f_begins_from f_brings f_forth f_back f_l_cell_at f_l_pool f_l_number f_l_step f_l_other f_law)  : BodyK P w K mg base C cls 0 f_begins_from N_begins_from "begins_from" s_begins_from b_begins_from := fun cdv A outer s H E G o hr hp =>
  (dss_cons (ds_if (dt_cmp (od_eq hr.units) rfl (de_ix od_ix (fun _ _ => rfl) (de_var 0) de_int) de_str) (dss_one (ds_ret o.xs (de_lst da_nil))) dss_nil) (dss_cons (ds_if (dt_cmp (od_eq hr.units) rfl (de_ix od_ix (fun _ _ => rfl) (de_var 0) de_int) de_str) (dss_one (ds_ret o.xs (de_lst (da_cons (de_ix od_ix (fun _ _ => rfl) (de_var 0) de_int) (da_cons (de_ix od_ix (fun _ _ => rfl) (de_var 0) de_int) da_nil))))) dss_nil) (dss_one (ds_ret o.xs (de_lst (da_cons (de_ix od_ix (fun _ _ => rfl) (de_var 0) de_int) da_nil))))))
theorem sc_brings : FnScope N_brings ["step"] (defScope s_brings) := ⟨rfl, rfl, rfl, by decide +kernel, rfl, by decide +kernel, by decide +kernel⟩
theorem d_brings (T : Tp K mg u f_begins_from f_brings f_forth f_back f_l_cell_at f_l_pool f_l_number f_l_step f_l_other f_law)  : BodyK P w K mg base C cls 0 f_brings N_brings "brings" s_brings b_brings := fun cdv A outer s H E G o hr hp =>
  (dss_cons (ds_if (dt_cmp (od_eq hr.units) rfl (de_ix od_ix (fun _ _ => rfl) (de_var 0) de_int) de_str) (dss_one (ds_ret o.xs (de_lst da_nil))) dss_nil) (dss_cons (ds_if (dt_cmp (od_eq hr.units) rfl (de_ix od_ix (fun _ _ => rfl) (de_var 0) de_int) de_str) (dss_one (ds_ret o.xs (de_lst (da_cons (de_ix od_ix (fun _ _ => rfl) (de_var 0) de_int) da_nil)))) dss_nil) (dss_cons (ds_if (dt_cmp (od_eq hr.units) rfl (de_ix od_ix (fun _ _ => rfl) (de_var 0) de_int) de_str) (dss_one (ds_ret o.xs (de_lst (da_cons (de_ix od_ix (fun _ _ => rfl) (de_var 0) de_int) (da_cons (de_ix od_ix (fun _ _ => rfl) (de_var 0) de_int) da_nil))))) dss_nil) (dss_cons (ds_if (dt_cmp (od_eq hr.units) rfl (de_ix od_ix (fun _ _ => rfl) (de_var 0) de_int) de_str) (dss_one (ds_ret o.xs (de_lst (da_cons (de_ix od_ix (fun _ _ => rfl) (de_var 0) de_int) da_nil)))) dss_nil) (dss_one (ds_ret o.xs (de_lst (da_cons (de_ix od_ix (fun _ _ => rfl) (de_var 0) de_int) da_nil))))))))
theorem sc_forth : FnScope N_forth ["step", "reading", "own"] (defScope s_forth) := ⟨rfl, rfl, rfl, by decide +kernel, rfl, by decide +kernel, by decide +kernel⟩
theorem d_forth (T : Tp K mg u f_begins_from f_brings f_forth f_back f_l_cell_at f_l_pool f_l_number f_l_step f_l_other f_law) (D_begins_from : Dfn P w K mg base C cls 1 f_begins_from ["step"] p_begins_from) : BodyK P w K mg base C cls 1 f_forth N_forth "forth" s_forth b_forth := fun cdv A outer s H E G o hr hp =>
  (dss_cons (ds_own 3 sc_forth.nd rfl (Or.inl rfl) o.xs (de_callTy (cd_dict rfl) rfl T.z_dict rfl (da_cons (de_var 1) da_nil))) (dss_cons (ds_for 4 sc_forth.nd rfl (Or.inl rfl) o.xs hp rfl (di_list (xe_call 1 o D_begins_from hr (by decide) rfl T.g_begins_from T.k_begins_from rfl (da_cons (de_var 0) da_nil))) (dss_one (ds_popD (de_var 3) (de_var 4) ⟨rfl, rfl, rfl, rfl⟩))) (dss_cons (ds_set 5 sc_forth.nd rfl (Or.inl rfl) o.xs (de_ix od_ix (fun _ _ => rfl) (de_var 0) de_int)) (dss_cons (ds_if (dt_cmp (od_eq hr.units) rfl (de_var 5) de_str) (dss_one (ds_putD (hu_of hr) (de_var 3) (de_ix od_ix (fun _ _ => rfl) (de_var 0) de_int) (de_var 2))) (dss_one (ds_if (dt_cmp (od_eq hr.units) rfl (de_var 5) de_str) (dss_one (ds_putD (hu_of hr) (de_var 3) (de_ix od_ix (fun _ _ => rfl) (de_var 0) de_int) (de_dget (hu_of hr) (de_var 1) (de_ix od_ix (fun _ _ => rfl) (de_var 0) de_int) fun _ _ => rfl))) (dss_one (ds_if (dt_cmp (od_eq hr.units) rfl (de_var 5) de_str) (dss_one (ds_putD (hu_of hr) (de_var 3) (de_ix od_ix (fun _ _ => rfl) (de_var 0) de_int) (de_bin od_add (de_dget (hu_of hr) (de_var 1) (de_ix od_ix (fun _ _ => rfl) (de_var 0) de_int) fun _ _ => rfl) (de_ix od_ix (fun _ _ => rfl) (de_var 0) de_int)))) (dss_one (ds_if (dt_cmp (od_eq hr.units) rfl (de_var 5) de_str) (dss_one (ds_putD (hu_of hr) (de_var 3) (de_ix od_ix (fun _ _ => rfl) (de_var 0) de_int) (de_bin od_sub de_int (de_dget (hu_of hr) (de_var 1) (de_ix od_ix (fun _ _ => rfl) (de_var 0) de_int) fun _ _ => rfl)))) (dss_one (ds_if (dt_cmp (od_eq hr.units) rfl (de_var 5) de_str) (dss_cons (ds_putD (hu_of hr) (de_var 3) (de_ix od_ix (fun _ _ => rfl) (de_var 0) de_int) (de_bin od_div (de_dget (hu_of hr) (de_var 1) (de_ix od_ix (fun _ _ => rfl) (de_var 0) de_int) fun _ _ => rfl) (de_ix od_ix (fun _ _ => rfl) (de_var 0) de_int))) (dss_one (ds_putD (hu_of hr) (de_var 3) (de_ix od_ix (fun _ _ => rfl) (de_var 0) de_int) (de_bin od_mod (de_dget (hu_of hr) (de_var 1) (de_ix od_ix (fun _ _ => rfl) (de_var 0) de_int) fun _ _ => rfl) (de_ix od_ix (fun _ _ => rfl) (de_var 0) de_int))))) (dss_one (ds_if (dt_cmp (od_eq hr.units) rfl (de_var 5) de_str) (dss_one (ds_putD (hu_of hr) (de_var 3) (de_ix od_ix (fun _ _ => rfl) (de_var 0) de_int) (de_bin od_add (de_bin od_mul (de_dget (hu_of hr) (de_var 1) (de_ix od_ix (fun _ _ => rfl) (de_var 0) de_int) fun _ _ => rfl) (de_ix od_ix (fun _ _ => rfl) (de_var 0) de_int)) (de_dget (hu_of hr) (de_var 1) (de_ix od_ix (fun _ _ => rfl) (de_var 0) de_int) fun _ _ => rfl)))) dss_nil))))))))))) (dss_frz 3 o.xs (dss_one (ds_ret o.xs (de_var 3))))))))
theorem sc_back : FnScope N_back ["step", "reading", "elder"] (defScope s_back) := ⟨rfl, rfl, rfl, by decide +kernel, rfl, by decide +kernel, by decide +kernel⟩
theorem d_back (T : Tp K mg u f_begins_from f_brings f_forth f_back f_l_cell_at f_l_pool f_l_number f_l_step f_l_other f_law) (D_brings : Dfn P w K mg base C cls 1 f_brings ["step"] p_brings) : BodyK P w K mg base C cls 1 f_back N_back "back" s_back b_back := fun cdv A outer s H E G o hr hp =>
  (dss_cons (ds_own 3 sc_back.nd rfl (Or.inl rfl) o.xs (de_callTy (cd_dict rfl) rfl T.z_dict rfl (da_cons (de_var 1) da_nil))) (dss_cons (ds_for 4 sc_back.nd rfl (Or.inl rfl) o.xs hp rfl (di_list (xe_call 1 o D_brings hr (by decide) rfl T.g_brings T.k_brings rfl (da_cons (de_var 0) da_nil))) (dss_one (ds_popD (de_var 3) (de_var 4) ⟨rfl, rfl, rfl, rfl⟩))) (dss_cons (ds_set 5 sc_back.nd rfl (Or.inl rfl) o.xs (de_ix od_ix (fun _ _ => rfl) (de_var 0) de_int)) (dss_cons (ds_if (dt_cmp (od_eq hr.units) rfl (de_var 5) de_str) (dss_one (ds_putD (hu_of hr) (de_var 3) (de_ix od_ix (fun _ _ => rfl) (de_var 0) de_int) (de_dget (hu_of hr) (de_var 2) (de_ix od_ix (fun _ _ => rfl) (de_var 0) de_int) fun _ _ => rfl))) (dss_one (ds_if (dt_cmp (od_eq hr.units) rfl (de_var 5) de_str) (dss_one (ds_putD (hu_of hr) (de_var 3) (de_ix od_ix (fun _ _ => rfl) (de_var 0) de_int) (de_dget (hu_of hr) (de_var 1) (de_ix od_ix (fun _ _ => rfl) (de_var 0) de_int) fun _ _ => rfl))) (dss_one (ds_if (dt_cmp (od_eq hr.units) rfl (de_var 5) de_str) (dss_one (ds_putD (hu_of hr) (de_var 3) (de_ix od_ix (fun _ _ => rfl) (de_var 0) de_int) (de_bin od_sub (de_dget (hu_of hr) (de_var 1) (de_ix od_ix (fun _ _ => rfl) (de_var 0) de_int) fun _ _ => rfl) (de_ix od_ix (fun _ _ => rfl) (de_var 0) de_int)))) (dss_one (ds_if (dt_cmp (od_eq hr.units) rfl (de_var 5) de_str) (dss_one (ds_putD (hu_of hr) (de_var 3) (de_ix od_ix (fun _ _ => rfl) (de_var 0) de_int) (de_bin od_sub de_int (de_dget (hu_of hr) (de_var 1) (de_ix od_ix (fun _ _ => rfl) (de_var 0) de_int) fun _ _ => rfl)))) (dss_one (ds_if (dt_cmp (od_eq hr.units) rfl (de_var 5) de_str) (dss_cons (ds_if (dt_w (dw_or (dt_cmp od_lt rfl (de_dget (hu_of hr) (de_var 1) (de_ix od_ix (fun _ _ => rfl) (de_var 0) de_int) fun _ _ => rfl) de_int) (dw_or1 (dt_cmp od_ge rfl (de_dget (hu_of hr) (de_var 1) (de_ix od_ix (fun _ _ => rfl) (de_var 0) de_int) fun _ _ => rfl) (de_ix od_ix (fun _ _ => rfl) (de_var 0) de_int))))) (dss_one ds_bad) dss_nil) (dss_one (ds_putD (hu_of hr) (de_var 3) (de_ix od_ix (fun _ _ => rfl) (de_var 0) de_int) (de_bin od_add (de_bin od_mul (de_dget (hu_of hr) (de_var 1) (de_ix od_ix (fun _ _ => rfl) (de_var 0) de_int) fun _ _ => rfl) (de_ix od_ix (fun _ _ => rfl) (de_var 0) de_int)) (de_dget (hu_of hr) (de_var 1) (de_ix od_ix (fun _ _ => rfl) (de_var 0) de_int) fun _ _ => rfl))))) (dss_one (ds_if (dt_cmp (od_eq hr.units) rfl (de_var 5) de_str) (dss_cons (ds_set 6 sc_back.nd rfl (Or.inl rfl) o.xs (de_bin od_div (de_dget (hu_of hr) (de_var 2) (de_ix od_ix (fun _ _ => rfl) (de_var 0) de_int) fun _ _ => rfl) (de_ix od_ix (fun _ _ => rfl) (de_var 0) de_int))) (dss_cons (ds_putD (hu_of hr) (de_var 3) (de_ix od_ix (fun _ _ => rfl) (de_var 0) de_int) (de_bin od_sub (de_bin od_div (de_dget (hu_of hr) (de_var 1) (de_ix od_ix (fun _ _ => rfl) (de_var 0) de_int) fun _ _ => rfl) (de_ix od_ix (fun _ _ => rfl) (de_var 0) de_int)) (de_var 6))) (dss_one (ds_putD (hu_of hr) (de_var 3) (de_ix od_ix (fun _ _ => rfl) (de_var 0) de_int) (de_bin od_add (de_bin od_mod (de_dget (hu_of hr) (de_var 1) (de_ix od_ix (fun _ _ => rfl) (de_var 0) de_int) fun _ _ => rfl) (de_ix od_ix (fun _ _ => rfl) (de_var 0) de_int)) (de_bin od_mul (de_var 6) (de_ix od_ix (fun _ _ => rfl) (de_var 0) de_int))))))) dss_nil))))))))))) (dss_frz 3 o.xs (dss_one (ds_ret o.xs (de_var 3))))))))
theorem sc_l_cell_at : FnScope N_l_cell_at ["_law_script", "_law_k"] (defScope s_l_cell_at) := ⟨rfl, rfl, rfl, by decide +kernel, rfl, by decide +kernel, by decide +kernel⟩
theorem d_l_cell_at (T : Tp K mg u f_begins_from f_brings f_forth f_back f_l_cell_at f_l_pool f_l_number f_l_step f_l_other f_law)  : BodyK P w K mg base C cls 0 f_l_cell_at N_l_cell_at "_law_cell_at" s_l_cell_at b_l_cell_at := fun cdv A outer s H E G o hr hp =>
  (dss_cons (ds_if (dt_cmp od_lt rfl (de_var 1) (de_callB cd_len rfl T.z_len rfl (da_cons (de_var 0) da_nil))) (dss_one (ds_ret o.xs (de_ix od_ix (fun _ _ => rfl) (de_var 0) (de_var 1)))) dss_nil) (dss_one (ds_ret o.xs de_int)))
theorem sc_l_pool : FnScope N_l_pool ["_law_cell"] (defScope s_l_pool) := ⟨rfl, rfl, rfl, by decide +kernel, rfl, by decide +kernel, by decide +kernel⟩
theorem d_l_pool (T : Tp K mg u f_begins_from f_brings f_forth f_back f_l_cell_at f_l_pool f_l_number f_l_step f_l_other f_law)  : BodyK P w K mg base C cls 0 f_l_pool N_l_pool "_law_pool" s_l_pool b_l_pool := fun cdv A outer s H E G o hr hp =>
  (dss_cons (ds_set 1 sc_l_pool.nd rfl (Or.inr rfl) o.xs de_str) (dss_cons (ds_own 2 sc_l_pool.nd rfl (Or.inl rfl) o.xs (de_lst da_nil)) (dss_cons (ds_for 3 sc_l_pool.nd rfl (Or.inl rfl) o.xs hp rfl (di_range1 rfl T.z_range de_int) (dss_cons (ds_set 4 sc_l_pool.nd rfl (Or.inl rfl) o.xs (de_ix od_ix (fun _ _ => rfl) (de_var 1) (de_bin od_mod (de_bin od_div (de_var 0) de_int) de_int))) (dss_cons (ds_set 5 sc_l_pool.nd rfl (Or.inl rfl) o.xs (de_bin od_mod (de_bin od_div (de_var 0) de_int) de_int)) (dss_cons (ds_set 6 sc_l_pool.nd rfl (Or.inl rfl) o.xs (de_bin od_add (de_bin od_mul (de_var 4) (de_var 5)) (de_ix od_ix (fun _ _ => rfl) (de_var 1) (de_bin od_mod (de_bin od_add (de_bin od_div (de_var 0) de_int) (de_bin od_mul de_int (de_var 3))) de_int)))) (dss_cons (ds_set 6 sc_l_pool.nd rfl (Or.inl rfl) o.xs (de_bin od_add (de_var 6) (de_bin od_mul (de_var 4) (de_bin od_mod (de_bin od_div (de_var 0) de_int) (de_bin od_sub de_int (de_var 5)))))) (dss_cons (ds_if (dt_cmp (od_eq hr.units) rfl (de_bin od_mod (de_var 0) de_int) de_int) (dss_cons (ds_set 7 sc_l_pool.nd rfl (Or.inr rfl) o.xs (de_bin od_add (de_bin od_div (de_var 0) de_int) (de_bin od_mul (de_bin od_div (de_var 3) de_int) de_int))) (dss_one (ds_set 6 sc_l_pool.nd rfl (Or.inl rfl) o.xs (de_join (de_lc (x := "_law_j") 8 o rfl sc_l_pool.nd (di_range1 rfl T.z_range (de_bin od_add de_int (de_bin od_mod (de_var 3) de_int))) (blkOk_by (own := [("_law_j", 8)]) (N := N_l_pool) (sc := defScope s_l_pool) (by decide +kernel)) (fun _ _ _ _ _ => pg_name (i := 8) sc_l_pool.nd rfl (Or.inl rfl)) (fun _ _ _ _ _ => dts_nil) (fun _ _ _ _ _ G o => (de_ix od_ix (fun _ _ => rfl) (de_var 1) (de_bin od_mod (de_bin od_add (de_var 7) (de_var 8)) de_int)))))))) dss_nil) (dss_one (ds_appL (de_var 2) (de_var 6))))))))) (dss_frz 2 o.xs (dss_one (ds_ret o.xs (de_var 2)))))))
theorem sc_l_number : FnScope N_l_number ["_law_cell"] (defScope s_l_number) := ⟨rfl, rfl, rfl, by decide +kernel, rfl, by decide +kernel, by decide +kernel⟩
theorem d_l_number (T : Tp K mg u f_begins_from f_brings f_forth f_back f_l_cell_at f_l_pool f_l_number f_l_step f_l_other f_law)  : BodyK P w K mg base C cls 0 f_l_number N_l_number "_law_number" s_l_number b_l_number := fun cdv A outer s H E G o hr hp =>
  (dss_cons (ds_if (dt_cmp (od_eq hr.units) rfl (de_bin od_mod (de_var 0) de_int) de_int) (dss_one (ds_ret o.xs (de_bin od_sub (de_bin od_mod (de_bin od_div (de_var 0) de_int) de_int) de_int))) dss_nil) (dss_cons (ds_if (dt_cmp (od_eq hr.units) rfl (de_bin od_mod (de_var 0) de_int) de_int) (dss_one (ds_ret o.xs (de_bin od_sub (de_bin od_mod (de_bin od_mul (de_var 0) de_int) (de_bin od_sub (de_bin od_mul de_int (de_bin od_pow de_int de_int)) de_int)) (de_bin od_sub (de_bin od_pow de_int de_int) de_int)))) dss_nil) (dss_one (ds_ret o.xs (de_bin od_sub (de_bin od_mod (de_var 0) (de_bin od_sub (de_bin od_mul de_int (de_bin od_pow de_int de_int)) de_int)) (de_bin od_sub (de_bin od_pow de_int de_int) de_int))))))
theorem sc_l_step : FnScope N_l_step ["_law_kind", "_law_names", "_law_new", "_law_size", "_law_n"] (defScope s_l_step) := ⟨rfl, rfl, rfl, by decide +kernel, rfl, by decide +kernel, by decide +kernel⟩
theorem d_l_step (T : Tp K mg u f_begins_from f_brings f_forth f_back f_l_cell_at f_l_pool f_l_number f_l_step f_l_other f_law)  : BodyK P w K mg base C cls 0 f_l_step N_l_step "_law_step" s_l_step b_l_step := fun cdv A outer s H E G o hr hp =>
  (dss_cons (ds_if (dt_cmp (od_eq hr.units) rfl (de_var 0) de_int) (dss_one (ds_ret o.xs (de_tup (da_cons de_str (da_cons (de_ix od_ix (fun _ _ => rfl) (de_var 2) de_int) (da_cons (de_var 4) da_nil)))))) dss_nil) (dss_cons (ds_if (dt_cmp (od_eq hr.units) rfl (de_var 0) de_int) (dss_one (ds_ret o.xs (de_tup (da_cons de_str (da_cons (de_ix od_ix (fun _ _ => rfl) (de_var 1) de_int) da_nil))))) dss_nil) (dss_cons (ds_if (dt_cmp (od_eq hr.units) rfl (de_var 0) de_int) (dss_one (ds_ret o.xs (de_tup (da_cons de_str (da_cons (de_ix od_ix (fun _ _ => rfl) (de_var 1) de_int) (da_cons (de_ix od_ix (fun _ _ => rfl) (de_var 2) de_int) da_nil)))))) dss_nil) (dss_cons (ds_if (dt_cmp (od_eq hr.units) rfl (de_var 0) de_int) (dss_one (ds_ret o.xs (de_tup (da_cons de_str (da_cons (de_ix od_ix (fun _ _ => rfl) (de_var 1) de_int) (da_cons (de_var 4) da_nil)))))) dss_nil) (dss_cons (ds_if (dt_cmp (od_eq hr.units) rfl (de_var 0) de_int) (dss_one (ds_ret o.xs (de_tup (da_cons de_str (da_cons (de_ix od_ix (fun _ _ => rfl) (de_var 1) de_int) da_nil))))) dss_nil) (dss_cons (ds_if (dt_w (dw_or (dt_cmp (od_eq hr.units) rfl (de_var 0) de_int) (dw_or1 (dt_cmp (od_eq hr.units) rfl (de_var 0) de_int)))) (dss_one (ds_ret o.xs (de_tup (da_cons de_str (da_cons (de_ix od_ix (fun _ _ => rfl) (de_var 1) de_int) (da_cons (de_ix od_ix (fun _ _ => rfl) (de_var 2) de_int) (da_cons (de_ix od_ix (fun _ _ => rfl) (de_var 2) de_int) (da_cons (de_var 3) da_nil)))))))) dss_nil) (dss_one (ds_ret o.xs (de_tup (da_cons de_str (da_cons (de_ix od_ix (fun _ _ => rfl) (de_var 1) de_int) (da_cons (de_ix od_ix (fun _ _ => rfl) (de_var 1) de_int) (da_cons (de_ix od_ix (fun _ _ => rfl) (de_var 2) de_int) (da_cons (de_var 3) da_nil))))))))))))))
theorem sc_l_other : FnScope N_l_other ["_law_script", "_law_at", "_law_step_here", "_law_reading"] (defScope s_l_other) := ⟨rfl, rfl, rfl, by decide +kernel, rfl, by decide +kernel, by decide +kernel⟩
theorem d_l_other (T : Tp K mg u f_begins_from f_brings f_forth f_back f_l_cell_at f_l_pool f_l_number f_l_step f_l_other f_law) (D_l_cell_at : Dfn P w K mg base C cls 1 f_l_cell_at ["_law_script", "_law_k"] p_l_cell_at) (D_l_number : Dfn P w K mg base C cls 1 f_l_number ["_law_cell"] p_l_number) : BodyK P w K mg base C cls 1 f_l_other N_l_other "_law_other" s_l_other b_l_other := fun cdv A outer s H E G o hr hp =>
  (dss_cons (ds_own 4 sc_l_other.nd rfl (Or.inl rfl) o.xs de_dnew) (dss_cons (ds_set 5 sc_l_other.nd rfl (Or.inl rfl) o.xs (de_callB (cd_sorted rfl) rfl T.z_sorted rfl (da_cons (de_var 3) da_nil))) (dss_cons (ds_for 6 sc_l_other.nd rfl (Or.inl rfl) o.xs hp rfl (di_range1 rfl T.z_range (de_callB cd_len rfl T.z_len rfl (da_cons (de_var 5) da_nil))) (dss_one (ds_putD (hu_of hr) (de_var 4) (de_ix od_ix (fun _ _ => rfl) (de_var 5) (de_var 6)) (xe_call 1 o D_l_number hr (by decide) rfl T.g_l_number T.k_l_number rfl (da_cons (de_bin od_add (xe_call 1 o D_l_cell_at hr (by decide) rfl T.g_l_cell_at T.k_l_cell_at rfl (da_cons (de_var 0) (da_cons (de_bin od_add (de_var 1) (de_bin od_mod (de_var 6) de_int)) da_nil))) (de_bin od_mul de_int (de_var 6))) da_nil))))) (dss_cons (ds_if (dt_cmp (od_eq hr.units) rfl (de_ix od_ix (fun _ _ => rfl) (de_var 2) de_int) de_str) (dss_one (ds_putD (hu_of hr) (de_var 4) (de_ix od_ix (fun _ _ => rfl) (de_var 2) de_int) (de_bin od_mod (de_dget (hu_of hr) (de_var 4) (de_ix od_ix (fun _ _ => rfl) (de_var 2) de_int) fun _ _ => rfl) (de_ix od_ix (fun _ _ => rfl) (de_var 2) de_int)))) dss_nil) (dss_frz 4 o.xs (dss_one (ds_ret o.xs (de_var 4))))))))
theorem sc_law : FnScope N_law ["_law_script"] (defScope s_law) := ⟨rfl, rfl, rfl, by decide +kernel, rfl, by decide +kernel, by decide +kernel⟩
theorem d_law (T : Tp K mg u f_begins_from f_brings f_forth f_back f_l_cell_at f_l_pool f_l_number f_l_step f_l_other f_law) (D_l_cell_at : Dfn P w K mg base C cls 1 f_l_cell_at ["_law_script", "_law_k"] p_l_cell_at) (D_l_number : Dfn P w K mg base C cls 1 f_l_number ["_law_cell"] p_l_number) (D_l_other : Dfn P w K mg base C cls 2 f_l_other ["_law_script", "_law_at", "_law_step_here", "_law_reading"] p_l_other) (D_l_pool : Dfn P w K mg base C cls 1 f_l_pool ["_law_cell"] p_l_pool) (D_l_step : Dfn P w K mg base C cls 1 f_l_step ["_law_kind", "_law_names", "_law_new", "_law_size", "_law_n"] p_l_step) (D_back : Dfn P w K mg base C cls 2 f_back ["step", "reading", "elder"] p_back) (D_forth : Dfn P w K mg base C cls 2 f_forth ["step", "reading", "own"] p_forth) : BodyK P w K mg base C cls 2 f_law N_law "law" s_law b_law := fun cdv A outer s H E G o hr hp =>
  (dss_cons (ds_set 1 sc_law.nd rfl (Or.inl rfl) o.xs (xe_call 1 o D_l_pool hr (by decide) rfl T.g_l_pool T.k_l_pool rfl (da_cons (xe_call 1 o D_l_cell_at hr (by decide) rfl T.g_l_cell_at T.k_l_cell_at rfl (da_cons (de_var 0) (da_cons de_int da_nil))) da_nil))) (dss_cons (ds_set 2 sc_law.nd rfl (Or.inl rfl) o.xs (de_slice sl_any (sl_go _) (de_var 1) do_none (do_some (de_bin od_add de_int (de_bin od_mod (xe_call 1 o D_l_cell_at hr (by decide) rfl T.g_l_cell_at T.k_l_cell_at rfl (da_cons (de_var 0) (da_cons de_int da_nil))) de_int))))) (dss_cons (ds_own 3 sc_law.nd rfl (Or.inl rfl) o.xs de_dnew) (dss_cons (ds_for 4 sc_law.nd rfl (Or.inl rfl) o.xs hp rfl (di_range1 rfl T.z_range (de_callB cd_len rfl T.z_len rfl (da_cons (de_var 2) da_nil))) (dss_one (ds_putD (hu_of hr) (de_var 3) (de_ix od_ix (fun _ _ => rfl) (de_var 2) (de_var 4)) (xe_call 1 o D_l_number hr (by decide) rfl T.g_l_number T.k_l_number rfl (da_cons (xe_call 1 o D_l_cell_at hr (by decide) rfl T.g_l_cell_at T.k_l_cell_at rfl (da_cons (de_var 0) (da_cons (de_bin od_add de_int (de_var 4)) da_nil))) da_nil))))) (dss_frz 3 o.xs (dss_cons (ds_set 5 sc_law.nd rfl (Or.inl rfl) o.xs (de_bin od_mod (xe_call 1 o D_l_cell_at hr (by decide) rfl T.g_l_cell_at T.k_l_cell_at rfl (da_cons (de_var 0) (da_cons de_int da_nil))) (de_callB cd_len rfl T.z_len rfl (da_cons (de_var 2) da_nil)))) (dss_cons (ds_set 6 sc_law.nd rfl (Or.inl rfl) o.xs (de_bin od_mod (xe_call 1 o D_l_cell_at hr (by decide) rfl T.g_l_cell_at T.k_l_cell_at rfl (da_cons (de_var 0) (da_cons de_int da_nil))) de_int)) (dss_cons (ds_set 7 sc_law.nd rfl (Or.inl rfl) o.xs (de_bin od_add de_int (de_bin od_mod (xe_call 1 o D_l_cell_at hr (by decide) rfl T.g_l_cell_at T.k_l_cell_at rfl (da_cons (de_var 0) (da_cons de_int da_nil))) de_int))) (dss_cons (ds_if (dt_cmp (od_eq hr.units) rfl (de_bin od_mod (xe_call 1 o D_l_cell_at hr (by decide) rfl T.g_l_cell_at T.k_l_cell_at rfl (da_cons (de_var 0) (da_cons de_int da_nil))) de_int) de_int) (dss_one (ds_set 7 sc_law.nd rfl (Or.inl rfl) o.xs (de_bin od_add de_int (de_bin od_mod (xe_call 1 o D_l_cell_at hr (by decide) rfl T.g_l_cell_at T.k_l_cell_at rfl (da_cons (de_var 0) (da_cons de_int da_nil))) de_int)))) dss_nil) (dss_cons (ds_set 8 sc_law.nd rfl (Or.inl rfl) o.xs (xe_call 1 o D_l_number hr (by decide) rfl T.g_l_number T.k_l_number rfl (da_cons (xe_call 1 o D_l_cell_at hr (by decide) rfl T.g_l_cell_at T.k_l_cell_at rfl (da_cons (de_var 0) (da_cons de_int da_nil))) da_nil))) (dss_cons (ds_set 9 sc_law.nd rfl (Or.inl rfl) o.xs (de_bin od_add (de_slice sl_any (sl_go _) (de_var 2) (do_some (de_var 5)) do_none) (de_slice sl_any (sl_go _) (de_var 2) do_none (do_some (de_var 5))))) (dss_cons (ds_own 10 sc_law.nd rfl (Or.inl rfl) o.xs (de_lst (da_cons (de_ix od_ix (fun _ _ => rfl) (de_var 1) de_int) (da_cons (de_ix od_ix (fun _ _ => rfl) (de_var 1) de_int) da_nil)))) (dss_cons (ds_if (dt_w (dw_and (dt_cmp od_gt rfl (de_var 6) de_int) (dw_and1 (dt_cmp od_gt rfl (de_bin od_mod (de_bin od_div (xe_call 1 o D_l_cell_at hr (by decide) rfl T.g_l_cell_at T.k_l_cell_at rfl (da_cons (de_var 0) (da_cons de_int da_nil))) de_int) de_int) de_int)))) (dss_one (ds_putL (de_var 10) de_int (de_ix od_ix (fun _ _ => rfl) (de_var 9) (de_bin od_sub (de_bin od_mod (de_bin od_div (xe_call 1 o D_l_cell_at hr (by decide) rfl T.g_l_cell_at T.k_l_cell_at rfl (da_cons (de_var 0) (da_cons de_int da_nil))) de_int) de_int) de_int)))) dss_nil) (dss_cons (ds_if (dt_cmp (od_eq hr.units) rfl (de_var 6) de_int) (dss_one (ds_putL (de_var 10) de_int (de_ix od_ix (fun _ _ => rfl) (de_var 9) de_int))) dss_nil) (dss_frz 10 o.xs (dss_cons (ds_set 11 sc_law.nd rfl (Or.inl rfl) o.xs (xe_call 1 o D_l_step hr (by decide) rfl T.g_l_step T.k_l_step rfl (da_cons (de_var 6) (da_cons (de_var 9) (da_cons (de_var 10) (da_cons (de_var 7) (da_cons (de_var 8) da_nil))))))) (dss_cons (ds_set 12 sc_law.nd rfl (Or.inl rfl) o.xs (xe_call 2 o D_forth hr (by decide) rfl T.g_forth T.k_forth rfl (da_cons (de_var 11) (da_cons (de_callTy (cd_dict rfl) rfl T.z_dict rfl (da_cons (de_var 3) da_nil)) (da_cons (de_var 8) da_nil))))) (dss_cons (ds_if (dt_not (dt_val (de_isi (t := .dct) rfl T.z_isinstance rfl T.z_dict rfl (de_var 12)))) (dss_one (ds_ret o.xs de_bl)) dss_nil) (dss_cons (ds_set 13 sc_law.nd rfl (Or.inl rfl) o.xs (xe_call 2 o D_l_other hr (by decide) rfl T.g_l_other T.k_l_other rfl (da_cons (de_var 0) (da_cons de_int (da_cons (de_var 11) (da_cons (de_var 12) da_nil)))))) (dss_cons (ds_set 14 sc_law.nd rfl (Or.inl rfl) o.xs (xe_call 2 o D_l_other hr (by decide) rfl T.g_l_other T.k_l_other rfl (da_cons (de_var 0) (da_cons de_int (da_cons (de_var 11) (da_cons (de_var 12) da_nil)))))) (dss_cons (ds_set 15 sc_law.nd rfl (Or.inl rfl) o.xs (xe_call 2 o D_back hr (by decide) rfl T.g_back T.k_back rfl (da_cons (de_var 11) (da_cons (de_callTy (cd_dict rfl) rfl T.z_dict rfl (da_cons (de_var 13) da_nil)) (da_cons (de_callTy (cd_dict rfl) rfl T.z_dict rfl (da_cons (de_var 3) da_nil)) da_nil))))) (dss_cons (ds_set 16 sc_law.nd rfl (Or.inl rfl) o.xs (xe_call 2 o D_back hr (by decide) rfl T.g_back T.k_back rfl (da_cons (de_var 11) (da_cons (de_callTy (cd_dict rfl) rfl T.z_dict rfl (da_cons (de_var 14) da_nil)) (da_cons (de_callTy (cd_dict rfl) rfl T.z_dict rfl (da_cons (de_var 3) da_nil)) da_nil))))) (dss_cons (ds_if (dt_w (dw_or (dt_not (dt_val (de_isi (t := .dct) rfl T.z_isinstance rfl T.z_dict rfl (de_var 15)))) (dw_or1 (dt_not (dt_val (de_isi (t := .dct) rfl T.z_isinstance rfl T.z_dict rfl (de_var 16))))))) (dss_one (ds_ret o.xs de_bl)) dss_nil) (dss_cons (ds_if (dt_cmp (od_ne hr.units) rfl (xe_call 2 o D_back hr (by decide) rfl T.g_back T.k_back rfl (da_cons (de_var 11) (da_cons (de_callTy (cd_dict rfl) rfl T.z_dict rfl (da_cons (de_var 14) da_nil)) (da_cons (de_callTy (cd_dict rfl) rfl T.z_dict rfl (da_cons (de_var 15) da_nil)) da_nil)))) (de_var 16)) (dss_one (ds_ret o.xs de_bl)) dss_nil) (dss_one (ds_ret o.xs (de_and (de_cmp (od_eq hr.units) rfl (xe_call 2 o D_back hr (by decide) rfl T.g_back T.k_back rfl (da_cons (de_var 11) (da_cons (de_callTy (cd_dict rfl) rfl T.z_dict rfl (da_cons (de_var 12) da_nil)) (da_cons (de_callTy (cd_dict rfl) rfl T.z_dict rfl (da_cons (de_var 15) da_nil)) da_nil)))) (de_var 3)) (de_one (de_cmp (od_eq hr.units) rfl (xe_call 2 o D_back hr (by decide) rfl T.g_back T.k_back rfl (da_cons (de_var 11) (da_cons (de_callTy (cd_dict rfl) rfl T.z_dict rfl (da_cons (de_var 12) da_nil)) (da_cons (de_callTy (cd_dict rfl) rfl T.z_dict rfl (da_cons (de_var 16) da_nil)) da_nil)))) (de_var 3))))))))))))))))))))))))))))))
theorem all_mk {l : PySem.W.OpenLaw} {w : World} {K : PySem.W.Frag} {h : Heap} {mg : Str → Option Value} {fa : Addr} {u : Tok} {f_begins_from f_brings f_forth f_back f_l_cell_at f_l_pool f_l_number f_l_step f_l_other f_law : Addr} (X : K.In h) (G : h.Ns mainGlobals mg) (hfa : mg "law" = some (.ref fa))
    {od0 an0 od1 an1 od2 an2 od3 an3 od4 an4 od5 an5 od6 an6 od7 an7 od8 an8 od9 an9 : Option Addr}
    {sl0 sl1 sl2 sl3 sl4 sl5 sl6 sl7 sl8 sl9 : Array (Option Value)} {oc0 kV0 dc0 pm0 cd0 ct0 oc1 kV1 dc1 pm1 cd1 ct1 oc2 kV2 dc2 pm2 cd2 ct2 oc3 kV3 dc3 pm3 cd3 ct3 oc4 kV4 dc4 pm4 cd4 ct4 oc5 kV5 dc5 pm5 cd5 ct5 oc6 kV6 dc6 pm6 cd6 ct6 oc7 kV7 dc7 pm7 cd7 ct7 oc8 kV8 dc8 pm8 cd8 ct8 oc9 kV9 dc9 pm9 cd9 ct9 : Value}
    (a0 : PySem.W.nsIn K mainGlobals "begins_from" = some (some (.ref f_begins_from)))
    (l0 : K.lookup f_begins_from = some ⟨oc0, od0, .func (PySem.W.fnOf "begins_from" "begins_from" (defArgs s_begins_from) (defBody s_begins_from) (defScope s_begins_from) .none kV0 dc0 pm0 an0 cd0 ct0), sl0⟩)
    (c0 : PySem.W.codeIn K cd0 "begins_from" = true) (k0 : PySem.W.keepIn K (.ref f_begins_from) = true)
    (a1 : PySem.W.nsIn K mainGlobals "brings" = some (some (.ref f_brings)))
    (l1 : K.lookup f_brings = some ⟨oc1, od1, .func (PySem.W.fnOf "brings" "brings" (defArgs s_brings) (defBody s_brings) (defScope s_brings) .none kV1 dc1 pm1 an1 cd1 ct1), sl1⟩)
    (c1 : PySem.W.codeIn K cd1 "brings" = true) (k1 : PySem.W.keepIn K (.ref f_brings) = true)
    (a2 : PySem.W.nsIn K mainGlobals "forth" = some (some (.ref f_forth)))
    (l2 : K.lookup f_forth = some ⟨oc2, od2, .func (PySem.W.fnOf "forth" "forth" (defArgs s_forth) (defBody s_forth) (defScope s_forth) .none kV2 dc2 pm2 an2 cd2 ct2), sl2⟩)
    (c2 : PySem.W.codeIn K cd2 "forth" = true) (k2 : PySem.W.keepIn K (.ref f_forth) = true)
    (a3 : PySem.W.nsIn K mainGlobals "back" = some (some (.ref f_back)))
    (l3 : K.lookup f_back = some ⟨oc3, od3, .func (PySem.W.fnOf "back" "back" (defArgs s_back) (defBody s_back) (defScope s_back) .none kV3 dc3 pm3 an3 cd3 ct3), sl3⟩)
    (c3 : PySem.W.codeIn K cd3 "back" = true) (k3 : PySem.W.keepIn K (.ref f_back) = true)
    (a4 : PySem.W.nsIn K mainGlobals "_law_cell_at" = some (some (.ref f_l_cell_at)))
    (l4 : K.lookup f_l_cell_at = some ⟨oc4, od4, .func (PySem.W.fnOf "_law_cell_at" "_law_cell_at" (defArgs s_l_cell_at) (defBody s_l_cell_at) (defScope s_l_cell_at) .none kV4 dc4 pm4 an4 cd4 ct4), sl4⟩)
    (c4 : PySem.W.codeIn K cd4 "_law_cell_at" = true) (k4 : PySem.W.keepIn K (.ref f_l_cell_at) = true)
    (a5 : PySem.W.nsIn K mainGlobals "_law_pool" = some (some (.ref f_l_pool)))
    (l5 : K.lookup f_l_pool = some ⟨oc5, od5, .func (PySem.W.fnOf "_law_pool" "_law_pool" (defArgs s_l_pool) (defBody s_l_pool) (defScope s_l_pool) .none kV5 dc5 pm5 an5 cd5 ct5), sl5⟩)
    (c5 : PySem.W.codeIn K cd5 "_law_pool" = true) (k5 : PySem.W.keepIn K (.ref f_l_pool) = true)
    (a6 : PySem.W.nsIn K mainGlobals "_law_number" = some (some (.ref f_l_number)))
    (l6 : K.lookup f_l_number = some ⟨oc6, od6, .func (PySem.W.fnOf "_law_number" "_law_number" (defArgs s_l_number) (defBody s_l_number) (defScope s_l_number) .none kV6 dc6 pm6 an6 cd6 ct6), sl6⟩)
    (c6 : PySem.W.codeIn K cd6 "_law_number" = true) (k6 : PySem.W.keepIn K (.ref f_l_number) = true)
    (a7 : PySem.W.nsIn K mainGlobals "_law_step" = some (some (.ref f_l_step)))
    (l7 : K.lookup f_l_step = some ⟨oc7, od7, .func (PySem.W.fnOf "_law_step" "_law_step" (defArgs s_l_step) (defBody s_l_step) (defScope s_l_step) .none kV7 dc7 pm7 an7 cd7 ct7), sl7⟩)
    (c7 : PySem.W.codeIn K cd7 "_law_step" = true) (k7 : PySem.W.keepIn K (.ref f_l_step) = true)
    (a8 : PySem.W.nsIn K mainGlobals "_law_other" = some (some (.ref f_l_other)))
    (l8 : K.lookup f_l_other = some ⟨oc8, od8, .func (PySem.W.fnOf "_law_other" "_law_other" (defArgs s_l_other) (defBody s_l_other) (defScope s_l_other) .none kV8 dc8 pm8 an8 cd8 ct8), sl8⟩)
    (c8 : PySem.W.codeIn K cd8 "_law_other" = true) (k8 : PySem.W.keepIn K (.ref f_l_other) = true)
    (a9 : PySem.W.nsIn K mainGlobals "law" = some (some (.ref f_law)))
    (l9 : K.lookup f_law = some ⟨oc9, od9, .func (PySem.W.fnOf "law" "law" (defArgs s_law) (defBody s_law) (defScope s_law) .none kV9 dc9 pm9 an9 cd9 ct9), sl9⟩)
    (c9 : PySem.W.codeIn K cd9 "law" = true) (k9 : PySem.W.keepIn K (.ref f_law) = true)
    (z0 : PySem.W.nsIn K mainGlobals "dict" = some none)
    (z1 : PySem.W.nsIn K mainGlobals "isinstance" = some none)
    (z2 : PySem.W.nsIn K mainGlobals "len" = some none)
    (z3 : PySem.W.nsIn K mainGlobals "range" = some none)
    (z4 : PySem.W.nsIn K mainGlobals "sorted" = some none)
    : ∃ fd : FuncData, (∀ (s : Shared) (v : Value), BindsTo s fd ⟨[v], []⟩ [("_law_script", v)]) ∧ ∀ base : Heap, K.In base → base.Ns mainGlobals mg → FnOk l.prog w K mg base (L2.CX l.prog w) 3 fa fd ["_law_script"] (spD K 0 (fun _ => 0) 1 p_law) := by
  have e := hfa.symm.trans (PySem.W.mg_of X G a9)
  cases e
  have T : Tp K mg u f_begins_from f_brings f_forth f_back f_l_cell_at f_l_pool f_l_number f_l_step f_l_other fa := ⟨PySem.W.mg_none_of X G z0, PySem.W.mg_none_of X G z1, PySem.W.mg_none_of X G z2, PySem.W.mg_none_of X G z3, PySem.W.mg_none_of X G z4, PySem.W.mg_of X G a0, k0, PySem.W.mg_of X G a1, k1, PySem.W.mg_of X G a2, k2, PySem.W.mg_of X G a3, k3, PySem.W.mg_of X G a4, k4, PySem.W.mg_of X G a5, k5, PySem.W.mg_of X G a6, k6, PySem.W.mg_of X G a7, k7, PySem.W.mg_of X G a8, k8, PySem.W.mg_of X G a9, k9⟩
  have F0 := fun_mk (st := s_begins_from) l0 c0 k0
  have B0 := F0.binds (ps := ["step"]) fun _ _ _ _ _ _ us hl => match us, hl with | [_], _ => rfl
  have F1 := fun_mk (st := s_brings) l1 c1 k1
  have B1 := F1.binds (ps := ["step"]) fun _ _ _ _ _ _ us hl => match us, hl with | [_], _ => rfl
  have F2 := fun_mk (st := s_forth) l2 c2 k2
  have B2 := F2.binds (ps := ["step", "reading", "own"]) fun _ _ _ _ _ _ us hl => match us, hl with | [_, _, _], _ => rfl
  have F3 := fun_mk (st := s_back) l3 c3 k3
  have B3 := F3.binds (ps := ["step", "reading", "elder"]) fun _ _ _ _ _ _ us hl => match us, hl with | [_, _, _], _ => rfl
  have F4 := fun_mk (st := s_l_cell_at) l4 c4 k4
  have B4 := F4.binds (ps := ["_law_script", "_law_k"]) fun _ _ _ _ _ _ us hl => match us, hl with | [_, _], _ => rfl
  have F5 := fun_mk (st := s_l_pool) l5 c5 k5
  have B5 := F5.binds (ps := ["_law_cell"]) fun _ _ _ _ _ _ us hl => match us, hl with | [_], _ => rfl
  have F6 := fun_mk (st := s_l_number) l6 c6 k6
  have B6 := F6.binds (ps := ["_law_cell"]) fun _ _ _ _ _ _ us hl => match us, hl with | [_], _ => rfl
  have F7 := fun_mk (st := s_l_step) l7 c7 k7
  have B7 := F7.binds (ps := ["_law_kind", "_law_names", "_law_new", "_law_size", "_law_n"]) fun _ _ _ _ _ _ us hl => match us, hl with | [_, _, _, _, _], _ => rfl
  have F8 := fun_mk (st := s_l_other) l8 c8 k8
  have B8 := F8.binds (ps := ["_law_script", "_law_at", "_law_step_here", "_law_reading"]) fun _ _ _ _ _ _ us hl => match us, hl with | [_, _, _, _], _ => rfl
  have F9 := fun_mk (st := s_law) l9 c9 k9
  have B9 := F9.binds (ps := ["_law_script"]) fun _ _ _ _ _ _ us hl => match us, hl with | [_], _ => rfl
  refine ⟨PySem.W.fnOf "law" "law" (defArgs s_law) (defBody s_law) (defScope s_law) .none kV9 dc9 pm9 an9 cd9 ct9, fun s v => .of_eq rfl, fun base _ _ => ?_⟩
  have D0 : Dfn l.prog w K mg base 0 (fun _ => 0) 1 f_begins_from ["step"] p_begins_from := dfnA F0 sc_begins_from B0 (d_begins_from T )
  have D1 : Dfn l.prog w K mg base 0 (fun _ => 0) 1 f_brings ["step"] p_brings := dfnA F1 sc_brings B1 (d_brings T )
  have D2 : Dfn l.prog w K mg base 0 (fun _ => 0) 2 f_forth ["step", "reading", "own"] p_forth := dfnA F2 sc_forth B2 (d_forth T D0)
  have D3 : Dfn l.prog w K mg base 0 (fun _ => 0) 2 f_back ["step", "reading", "elder"] p_back := dfnA F3 sc_back B3 (d_back T D1)
  have D4 : Dfn l.prog w K mg base 0 (fun _ => 0) 1 f_l_cell_at ["_law_script", "_law_k"] p_l_cell_at := dfnA F4 sc_l_cell_at B4 (d_l_cell_at T )
  have D5 : Dfn l.prog w K mg base 0 (fun _ => 0) 1 f_l_pool ["_law_cell"] p_l_pool := dfnA F5 sc_l_pool B5 (d_l_pool T )
  have D6 : Dfn l.prog w K mg base 0 (fun _ => 0) 1 f_l_number ["_law_cell"] p_l_number := dfnA F6 sc_l_number B6 (d_l_number T )
  have D7 : Dfn l.prog w K mg base 0 (fun _ => 0) 1 f_l_step ["_law_kind", "_law_names", "_law_new", "_law_size", "_law_n"] p_l_step := dfnA F7 sc_l_step B7 (d_l_step T )
  have D8 : Dfn l.prog w K mg base 0 (fun _ => 0) 2 f_l_other ["_law_script", "_law_at", "_law_step_here", "_law_reading"] p_l_other := dfnA F8 sc_l_other B8 (d_l_other T D4 D6)
  exact fnA F9 sc_law (d_law T D4 D6 D8 D5 D7 D3 D2)
end
end K05

open PySem PySem.W PyProof.Rows
set_option maxRecDepth 100000 in
set_option maxHeartbeats 0 in
theorem PySem.Challenge.cw_formlens_k05_back_twice_holds : PySem.Challenge.rw_formlens_k05_back_twice.Holds := by
  w_on; o_law; k_head; (case hw => w_witness2)
  k_fill
  refine Fm.walk_law (l := PySem.Challenge.rw_formlens_k05_back_twice) (Cc := fun _ => 0) (cls := fun _ _ => 0) (psi := K05.p_law) (x := "_law_script") (k := 3) ⟨rfl, by decide, by decide⟩ rfl rfl (fun w h Y => PySem.W.kIn_of Y) K05.law_ok ?F
  case F =>
    intro w mg fa h KX G hmg
    refine' K05.all_mk (u := default) KX G hmg ?a0 ?l0 ?c0 ?k0 ?a1 ?l1 ?c1 ?k1 ?a2 ?l2 ?c2 ?k2 ?a3 ?l3 ?c3 ?k3 ?a4 ?l4 ?c4 ?k4 ?a5 ?l5 ?c5 ?k5 ?a6 ?l6 ?c6 ?k6 ?a7 ?l7 ?c7 ?k7 ?a8 ?l8 ?c8 ?k8 ?a9 ?l9 ?c9 ?k9 ?z0 ?z1 ?z2 ?z3 ?z4
    (case a0 => k_is); (case l0 => k_is); (case c0 => k_is); (case k0 => k_is); (case a1 => k_is); (case l1 => k_is); (case c1 => k_is); (case k1 => k_is); (case a2 => k_is); (case l2 => k_is); (case c2 => k_is); (case k2 => k_is); (case a3 => k_is); (case l3 => k_is); (case c3 => k_is); (case k3 => k_is); (case a4 => k_is); (case l4 => k_is); (case c4 => k_is); (case k4 => k_is); (case a5 => k_is); (case l5 => k_is); (case c5 => k_is); (case k5 => k_is); (case a6 => k_is); (case l6 => k_is); (case c6 => k_is); (case k6 => k_is); (case a7 => k_is); (case l7 => k_is); (case c7 => k_is); (case k7 => k_is); (case a8 => k_is); (case l8 => k_is); (case c8 => k_is); (case k8 => k_is); (case a9 => k_is); (case l9 => k_is); (case c9 => k_is); (case k9 => k_is); (case z0 => k_is); (case z1 => k_is); (case z2 => k_is); (case z3 => k_is); (case z4 => k_is)
