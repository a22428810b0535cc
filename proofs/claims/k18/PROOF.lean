import PyProof.Rows.All
import Wide.All
import OpenK.AllK
import Wide.FinOn
import KE.KStateDown
import HandS.ForMost
import HandS.Exc
import HandS.ExcOwn
import HandS.TryOnly
import HandS.WordsExc
import HandS.IsInst
import HandS.Style
import HandS.Wide
import HandS.WideBits
import HandS.Defaults
import HandS.HeadHook1
import HandS.EndBits
import HandS.HeadEnd
import HandS.HeadHook2
import HandS.Head0
import HandS.Head1
import HandS.Head2
import KE.BitLaws
import PySem.Challenge.RW_formturn_k18_primes_told
set_option Elab.async false
set_option autoImplicit false
set_option linter.all false
set_option maxRecDepth 100000
set_option maxHeartbeats 4000000
/-! A small language of pure values (data, no addresses), its evaluation, and the proof that the model's machine does what the evaluation says. -/
namespace FT
open PySem PySem.Spec PyProof.Rows L2

/-! ### what is computed -/
abbrev D := PyData
/-- an answer: stuck, an exception (its number), a value -/
inductive R (α : Type) where
  | bad
  | exc (c : Nat)
  | ok (a : α)
def R.bind {α β : Type} (x : R α) (f : α → R β) : R β := match x with
  | .bad => .bad
  | .exc c => .exc c
  | .ok a => f a
@[simp] theorem R.bind_ok {α β : Type} (a : α) (f : α → R β) : R.bind (.ok a) f = f a := rfl
@[simp] theorem R.bind_bad {α β : Type} (f : α → R β) : R.bind .bad f = .bad := rfl
@[simp] theorem R.bind_exc {α β : Type} (c : Nat) (f : α → R β) : R.bind (.exc c) f = .exc c := rfl

inductive Op2 where | add | sub | mul | fdiv | mod | pow | shl | shr | band | bor | bxor
  deriving DecidableEq
inductive Cm where | lt | le | gt | ge | eq | ne | is | isnot
  deriving DecidableEq
inductive Ty where | int | bool | tuple | list | str | dict
  deriving DecidableEq
inductive Bi where | len | abs | divmod | tuple
  deriving DecidableEq

inductive Ex where
  | v (i : Nat)
  | int (n : Int)
  | bl (b : Bool)
  | non
  | str (s : Str)
  | glob (k : Nat)
  | bin (o : Op2) (a b : Ex)
  | neg (a : Ex)
  | not (a : Ex)
  | and (a : Ex) (es : List Ex)
  | or (a : Ex) (es : List Ex)
  | cmp (o : Cm) (a b : Ex)
  | tup (es : List Ex)
  | lst (es : List Ex)
  | ix (a b : Ex)
  | ixo (i : Nat) (b : Ex)
  | sl (a : Ex) (lo hi : List Ex)
  | call (k : Nat) (a : Ex) (es : List Ex)
  | bi (b : Bi) (a : Ex) (es : List Ex)
  | isi (a : Ex) (t : Ty)
  | ife (c a b : Ex)

inductive It where
  | seq (e : Ex)
  | rng1 (a : Ex)
  | rng2 (a b : Ex)

inductive Sm where
  | ex (e : Ex)
  | set (i : Nat) (e : Ex)
  | setL (i : Nat) (es : List Ex)
  | app (i : Nat) (e : Ex)
  | ret (e : Ex)
  | ife (c : Ex) (a b : List Sm)
  | for_ (i : Nat) (it : It) (b : List Sm)
  | while_ (c : Ex) (b : List Sm)
  | raise (k : Nat)
  | aug (i : Nat) (o : Op2) (e : Ex)
  | pass
  | frz (i : Nat)

/-! ### operations -/
def mulOk (i j : Int) : Bool := decide (Builtin.Int.intBits i + Builtin.Int.intBits j ≤ 134217728)
def divOk (j : Int) : Bool := decide (0 < j) && decide (j.natAbs.log2 < 9000)
def powOk (i n : Int) : Bool := decide (0 ≤ n) && decide ((Builtin.Int.intBits i : Int) * n ≤ 2 ^ 27)
def shlOk (i n : Int) : Bool := decide (0 ≤ n) && decide ((Builtin.Int.intBits i : Int) + n ≤ 2 ^ 27)
def op2i : Op2 → Int → Int → R D
  | .add, i, j => .ok (.int (i + j))
  | .sub, i, j => .ok (.int (i - j))
  | .mul, i, j => bif mulOk i j then .ok (.int (i * j)) else .bad
  | .fdiv, i, j => bif divOk j then .ok (.int (i / j)) else .bad
  | .mod, i, j => bif decide (0 < j) then .ok (.int (i % j)) else bif decide (j = 0) then .bad else .ok (.int (i.fmod j))
  | .pow, i, j => bif powOk i j then .ok (.int (i ^ j.toNat)) else .bad
  | .shl, i, j => bif shlOk i j then .ok (.int (i * 2 ^ j.toNat)) else .bad
  | .shr, i, j => bif decide (0 ≤ j) then .ok (.int (i / 2 ^ j.toNat)) else .bad
  | .band, i, j => .ok (.int (Builtin.bitAnd i j))
  | .bor, i, j => .ok (.int (Builtin.bitOr i j))
  | .bxor, i, j => .ok (.int (Builtin.bitXor i j))
def op2 (o : Op2) (a b : D) : R D := match a, b with
  | .int i, .int j => op2i o i j
  | _, _ => .bad
def negD : D → R D
  | .int i => .ok (.int (-i))
  | _ => .bad
def notD : D → R D
  | .bool b => .ok (.bool (!b))
  | _ => .bad
def eqG (a b : D) : R Bool := bif SeqAt.shaped a && SeqAt.shaped b then .ok (PyData.eqv a b) else .bad
def cm2i : Cm → Int → Int → R D
  | .lt, i, j => .ok (.bool (decide (i < j)))
  | .le, i, j => .ok (.bool (decide (i ≤ j)))
  | .gt, i, j => .ok (.bool (decide (j < i)))
  | .ge, i, j => .ok (.bool (decide (j ≤ i)))
  | _, _, _ => .bad
def isNon : D → Bool
  | .none => true
  | _ => false
def isG : D → D → R Bool
  | .bool a, .bool b => .ok (decide (a = b))
  | x, .none => .ok (isNon x)
  | _, _ => .bad
def cm2 (o : Cm) (a b : D) : R D := match o with
  | .eq => (eqG a b).bind fun k => .ok (.bool k)
  | .ne => (eqG a b).bind fun k => .ok (.bool (!k))
  | .is => (isG a b).bind fun k => .ok (.bool k)
  | .isnot => (isG a b).bind fun k => .ok (.bool (!k))
  | o => match a, b with
    | .int i, .int j => cm2i o i j
    | _, _ => .bad
def ixD (a b : D) : R D := match a, b with
  | .list xs, .int i => (match atI xs i with | some d => .ok d | none => .bad)
  | .tuple xs, .int i => (match atI xs i with | some d => .ok d | none => .bad)
  | _, _ => .bad
def cutD (xs : List D) (lo hi : Option Int) : List D := (xs.drop (HT.sIx xs.length 0 lo)).take (HT.sIx xs.length xs.length hi - HT.sIx xs.length 0 lo)
def partD : List D → R (Option Int)
  | [] => .ok none
  | [.int i] => .ok (some i)
  | _ => .bad
def slD (a : D) (lo hi : Option Int) : R D := match a with
  | .list xs => .ok (.list (cutD xs lo hi))
  | _ => .bad
def biD : Bi → List D → R D
  | .len, [.list xs] => .ok (.int xs.length)
  | .len, [.tuple xs] => .ok (.int xs.length)
  | .abs, [.int i] => .ok (.int (if i < 0 then -i else i))
  | .divmod, [.int i, .int j] => bif divOk j then .ok (.tuple [.int (i / j), .int (i % j)]) else bif decide (j < 0) && decide (j.natAbs.log2 < 9000) then .ok (.tuple [.int (i.fdiv j), .int (i.fmod j)]) else .bad
  | .tuple, [.list xs] => .ok (.tuple xs)
  | .tuple, [.tuple xs] => .ok (.tuple xs)
  | _, _ => .bad
def tyOf : D → Option Ty
  | .none => none
  | .bool _ => some .bool
  | .int _ => some .int
  | .str _ => some .str
  | .list _ => some .list
  | .tuple _ => some .tuple
  | .dict _ => none
def isiD (d : D) (t : Ty) : R D := match tyOf d with
  | none => .bad
  | some u => .ok (.bool (decide (u = t) || (decide (u = .bool) && decide (t = .int))))

/-! ### evaluation -/
/-- a slot: a value; a list that no other place knows -/
inductive Sl where
  | sh (d : D)
  | own (ds : List D)
abbrev En := List (Option Sl)
structure Ge where
  fn : List (List D → R D)
  co : List D
def Ge.call (G : Ge) (k : Nat) (ds : List D) : R D := match G.fn[k]? with
  | some f => f ds
  | none => .bad

mutual
def evE (G : Ge) : Ex → En → R D
  | .v i, ρ => (match ρ[i]? with | some (some (.sh d)) => .ok d | _ => .bad)
  | .int n, _ => .ok (.int n)
  | .bl b, _ => .ok (.bool b)
  | .non, _ => .ok .none
  | .str s, _ => .ok (.str s)
  | .glob k, _ => (match G.co[k]? with | some d => .ok d | none => .bad)
  | .bin o a b, ρ => (evE G a ρ).bind fun x => (evE G b ρ).bind fun y => op2 o x y
  | .neg a, ρ => (evE G a ρ).bind negD
  | .not a, ρ => (evE G a ρ).bind notD
  | .and a es, ρ => (evE G a ρ).bind fun x => (match x with
    | .bool true => evAnd G es ρ
    | .bool false => .ok (.bool false)
    | _ => .bad)
  | .or a es, ρ => (evE G a ρ).bind fun x => (match x with
    | .bool false => evOr G es ρ
    | .bool true => .ok (.bool true)
    | _ => .bad)
  | .cmp o a b, ρ => (evE G a ρ).bind fun x => (evE G b ρ).bind fun y => cm2 o x y
  | .tup es, ρ => (evEs G es ρ).bind fun ds => .ok (.tuple ds)
  | .lst es, ρ => (evEs G es ρ).bind fun ds => .ok (.list ds)
  | .ix a b, ρ => (evE G a ρ).bind fun x => (evE G b ρ).bind fun y => ixD x y
  | .ixo i b, ρ => (match ρ[i]? with | some (some (.own ds)) => (evE G b ρ).bind fun y => ixD (.list ds) y | _ => .bad)
  | .sl a lo hi, ρ => (evE G a ρ).bind fun x => (evEs G lo ρ).bind fun l => (partD l).bind fun l => (evEs G hi ρ).bind fun h => (partD h).bind fun h => slD x l h
  | .call k a es, ρ => (evE G a ρ).bind fun d => (evEs G es ρ).bind fun ds => G.call k (d :: ds)
  | .bi b a es, ρ => (evE G a ρ).bind fun d => (evEs G es ρ).bind fun ds => biD b (d :: ds)
  | .isi a t, ρ => (evE G a ρ).bind fun x => isiD x t
  | .ife c a b, ρ => (evE G c ρ).bind fun x => (match x with
    | .bool true => evE G a ρ
    | .bool false => evE G b ρ
    | _ => .bad)
def evEs (G : Ge) : List Ex → En → R (List D)
  | [], _ => .ok []
  | e :: es, ρ => (evE G e ρ).bind fun d => (evEs G es ρ).bind fun ds => .ok (d :: ds)
def evAnd (G : Ge) : List Ex → En → R D
  | [], _ => .bad
  | e :: es, ρ => (match es with
    | [] => evE G e ρ
    | _ :: _ => (evE G e ρ).bind fun x => (match x with
      | .bool true => evAnd G es ρ
      | .bool false => .ok (.bool false)
      | _ => .bad))
def evOr (G : Ge) : List Ex → En → R D
  | [], _ => .bad
  | e :: es, ρ => (match es with
    | [] => evE G e ρ
    | _ :: _ => (evE G e ρ).bind fun x => (match x with
      | .bool false => evOr G es ρ
      | .bool true => .ok (.bool true)
      | _ => .bad))
end

/-- behind a statement -/
inductive Fl where
  | bad
  | nx (ρ : En)
  | rt (d : D)
  | xc (c : Nat) (ρ : En)
def Fl.then (x : Fl) (f : En → Fl) : Fl := match x with
  | .nx ρ => f ρ
  | .bad => .bad
  | .rt d => .rt d
  | .xc c ρ => .xc c ρ
@[simp] theorem Fl.then_nx (ρ : En) (f : En → Fl) : Fl.then (.nx ρ) f = f ρ := rfl
@[simp] theorem Fl.then_rt (d : D) (f : En → Fl) : Fl.then (.rt d) f = .rt d := rfl
@[simp] theorem Fl.then_bad (f : En → Fl) : Fl.then .bad f = .bad := rfl
@[simp] theorem Fl.then_xc (c : Nat) (ρ : En) (f : En → Fl) : Fl.then (.xc c ρ) f = .xc c ρ := rfl
/-- an expression's answer, at ρ -/
def R.at {α : Type} (x : R α) (ρ : En) (f : α → Fl) : Fl := match x with
  | .bad => .bad
  | .exc c => .xc c ρ
  | .ok a => f a
@[simp] theorem R.at_ok {α : Type} (a : α) (ρ : En) (f : α → Fl) : R.at (.ok a) ρ f = f a := rfl
@[simp] theorem R.at_bad {α : Type} (ρ : En) (f : α → Fl) : R.at (R.bad : R α) ρ f = .bad := rfl
@[simp] theorem R.at_exc {α : Type} (c : Nat) (ρ : En) (f : α → Fl) : R.at (R.exc c : R α) ρ f = .xc c ρ := rfl

def forL (f : D → En → Fl) : List D → En → Fl
  | [], ρ => .nx ρ
  | d :: ds, ρ => (f d ρ).then (forL f ds)
def whileN (c : En → R D) (b : En → Fl) : Nat → En → Fl
  | 0, _ => .bad
  | n + 1, ρ => (c ρ).at ρ fun x => (match x with
    | .bool true => (b ρ).then (whileN c b n)
    | .bool false => .nx ρ
    | _ => .bad)
open Classical in
noncomputable def whileL (c : En → R D) (b : En → Fl) (ρ : En) : Fl :=
  if h : ∃ n, whileN c b n ρ ≠ .bad then whileN c b h.choose ρ else .bad
/-- what is walked -/
def itD (G : Ge) (it : It) (ρ : En) : R (List D) := match it with
  | .seq e => (evE G e ρ).bind fun d => (match d with | .list ds => .ok ds | .tuple ds => .ok ds | _ => .bad)
  | .rng1 a => (evE G a ρ).bind fun d => (match d with
    | .int j => bif decide (-(2 ^ 62) ≤ j) && decide (j < 2 ^ 62) then .ok ((List.range j.toNat).map fun (k : Nat) => .int ((0 : Int) + (k : Int))) else .bad
    | _ => .bad)
  | .rng2 a b => (evE G a ρ).bind fun d => (evE G b ρ).bind fun e => (match d, e with
    | .int i, .int j => bif (decide (-(2 ^ 62) ≤ i) && decide (i < 2 ^ 62)) && (decide (-(2 ^ 62) ≤ j) && decide (j < 2 ^ 62)) then .ok ((List.range (j - i).toNat).map fun (k : Nat) => .int (i + (k : Int))) else .bad
    | _, _ => .bad)

mutual
noncomputable def evS (G : Ge) : Sm → En → Fl
  | .ex e, ρ => (evE G e ρ).at ρ fun _ => .nx ρ
  | .set i e, ρ => (evE G e ρ).at ρ fun d => .nx (ρ.set i (some (.sh d)))
  | .setL i es, ρ => (evEs G es ρ).at ρ fun ds => .nx (ρ.set i (some (.own ds)))
  | .app i e, ρ => (match ρ[i]? with
    | some (some (.own ds)) => (evE G e ρ).at ρ fun d => bif decide (ds.length < 16777216) then .nx (ρ.set i (some (.own (ds ++ [d])))) else .bad
    | _ => .bad)
  | .ret e, ρ => (evE G e ρ).at ρ fun d => .rt d
  | .ife c a b, ρ => (evE G c ρ).at ρ fun x => (match x with
    | .bool true => evSs G a ρ
    | .bool false => evSs G b ρ
    | _ => .bad)
  | .for_ i it b, ρ => (itD G it ρ).at ρ fun ds => forL (fun d ρ => evSs G b (ρ.set i (some (.sh d)))) ds ρ
  | .while_ c b, ρ => whileL (fun ρ => evE G c ρ) (fun ρ => evSs G b ρ) ρ
  | .raise k, ρ => .xc k ρ
  | .aug i o e, ρ => (match ρ[i]? with
    | some (some (.sh x)) => (evE G e ρ).at ρ fun y => (op2 o x y).at ρ fun z => .nx (ρ.set i (some (.sh z)))
    | _ => .bad)
  | .pass, ρ => .nx ρ
  | .frz i, ρ => (match ρ[i]? with
    | some (some (.own ds)) => .nx (ρ.set i (some (.sh (.list ds))))
    | some (some (.sh d)) => .nx ρ
    | _ => .bad)
noncomputable def evSs (G : Ge) : List Sm → En → Fl
  | [], ρ => .nx ρ
  | s :: ss, ρ => (evS G s ρ).then (evSs G ss)
end
/-- a def's answer -/
def Fl.ans : Fl → R D
  | .nx _ => .ok .none
  | .rt d => .ok d
  | .xc c _ => .exc c
  | .bad => .bad
noncomputable def evF (G : Ge) (np nl : Nat) (b : List Sm) (ds : List D) : R D :=
  bif decide (ds.length = np) then (evSs G b (ds.map (fun d => some (.sh d)) ++ List.replicate (nl - np) none)).ans else .bad

/-! ### whiles -/
theorem whileN_mono (c : En → R D) (b : En → Fl) : ∀ (n : Nat) (ρ : En), whileN c b n ρ ≠ .bad → ∀ k, whileN c b (n + k) ρ = whileN c b n ρ
  | 0, ρ, h, k => absurd rfl h
  | n + 1, ρ, h, k => by
    have e : n + 1 + k = (n + k) + 1 := by omega
    rw [e]
    unfold whileN at h ⊢
    cases hc : c ρ with
    | bad => rfl
    | exc e => rfl
    | ok x =>
      rw [hc] at h
      dsimp only [R.at] at h ⊢
      cases x with
      | bool t =>
        cases t with
        | true =>
          dsimp only at h ⊢
          cases hb : b ρ with
          | nx ρ' =>
            rw [hb] at h
            exact whileN_mono c b n ρ' h k
          | _ => rfl
        | false => rfl
      | _ => rfl
theorem whileN_le {c : En → R D} {b : En → Fl} {n m : Nat} {ρ : En} (h : whileN c b n ρ ≠ .bad) (hm : n ≤ m) : whileN c b m ρ = whileN c b n ρ := by
  have e : m = n + (m - n) := by omega
  rw [e]
  exact whileN_mono c b n ρ h _
theorem whileL_of {c : En → R D} {b : En → Fl} {n : Nat} {ρ : En} (h : whileN c b n ρ ≠ .bad) : whileL c b ρ = whileN c b n ρ := by
  have hx : ∃ n, whileN c b n ρ ≠ .bad := ⟨n, h⟩
  unfold whileL
  rw [dif_pos hx]
  rcases Nat.le_total n hx.choose with q | q
  · exact whileN_le h q
  · exact (whileN_le hx.choose_spec q).symm
theorem whileL_fuel {c : En → R D} {b : En → Fl} {ρ : En} (h : whileL c b ρ ≠ .bad) : ∃ n, whileN c b n ρ = whileL c b ρ := by
  unfold whileL at h ⊢
  by_cases hx : ∃ n, whileN c b n ρ ≠ .bad
  · rw [dif_pos hx] at h ⊢
    exact ⟨_, rfl⟩
  · rw [dif_neg hx] at h
    exact absurd rfl h
/-- the equation of a while -/
theorem whileL_eq (c : En → R D) (b : En → Fl) (ρ : En) : whileL c b ρ = (c ρ).at ρ fun x => (match x with
    | .bool true => (b ρ).then (whileL c b)
    | .bool false => .nx ρ
    | _ => .bad) := by
  have one : ∀ n, whileN c b (n + 1) ρ = (c ρ).at ρ fun x => (match x with
    | .bool true => (b ρ).then (whileN c b n)
    | .bool false => .nx ρ
    | _ => .bad) := fun n => rfl
  cases hc : c ρ with
  | bad =>
    have k : ∀ n, whileN c b n ρ = .bad := fun n => by
      cases n with
      | zero => rfl
      | succ n => rw [one n, hc] <;> rfl
    unfold whileL
    rw [dif_neg (fun ⟨n, h⟩ => h (k n))] <;> rfl
  | exc e =>
    rw [whileL_of (n := 1) (by rw [one 0, hc]; intro q; cases q), one 0, hc] <;> rfl
  | ok x =>
    dsimp only [R.at]
    cases x with
    | bool t =>
      cases t with
      | false => rw [whileL_of (n := 1) (by rw [one 0, hc]; intro q; cases q), one 0, hc] <;> rfl
      | true =>
        dsimp only
        cases hb : b ρ with
        | nx ρ' =>
          dsimp only [Fl.then]
          by_cases hx : ∃ n, whileN c b n ρ' ≠ .bad
          · obtain ⟨n, hn⟩ := hx
            have e1 : whileN c b (n + 1) ρ = whileN c b n ρ' := by rw [one n, hc]; dsimp only [R.at]; rw [hb] <;> rfl
            rw [whileL_of hn, whileL_of (n := n + 1) (by rw [e1]; exact hn), e1] <;> rfl
          · have k : ∀ n, whileN c b n ρ = .bad := fun n => by
              cases n with
              | zero => rfl
              | succ n =>
                rw [one n, hc]
                dsimp only [R.at]
                rw [hb]
                dsimp only [Fl.then]
                by_cases q : whileN c b n ρ' = .bad
                · exact q
                · exact absurd ⟨n, q⟩ hx
            unfold whileL
            rw [dif_neg hx, dif_neg (fun ⟨n, h⟩ => h (k n))]
        | bad =>
          have k : ∀ n, whileN c b n ρ = .bad := fun n => by
            cases n with
            | zero => rfl
            | succ n => rw [one n, hc]; dsimp only [R.at]; rw [hb] <;> rfl
          unfold whileL
          rw [dif_neg (fun ⟨n, h⟩ => h (k n))] <;> rfl
        | rt d => rw [whileL_of (n := 1) (by rw [one 0, hc]; dsimp only [R.at]; rw [hb]; intro q; cases q), one 0, hc]; dsimp only [R.at]; rw [hb] <;> rfl
        | xc e ρ2 => rw [whileL_of (n := 1) (by rw [one 0, hc]; dsimp only [R.at]; rw [hb]; intro q; cases q), one 0, hc]; dsimp only [R.at]; rw [hb] <;> rfl
    | _ =>
      have k : ∀ n, whileN c b n ρ = .bad := fun n => by
        cases n with
        | zero => rfl
        | succ n => rw [one n, hc] <;> rfl
      unfold whileL
      rw [dif_neg (fun ⟨n, h⟩ => h (k n))] <;> rfl
end FT

namespace FT
open PySem PySem.Spec PyProof.Rows L2
abbrev St := L2.St

/-! ### data and values -/
mutual
inductive Rep (K : PySem.W.Frag) (H : Hp) : D → V → Prop
  | non : Rep K H .none .non
  | bl (b : Bool) : Rep K H (.bool b) (.bl b)
  | int (i : Int) : Rep K H (.int i) (.int i)
  | str (x : Str) : Rep K H (.str x) (.str x)
  | lst {a : Addr} {vs : List V} {ds : List D} : SqL K H a vs → Reps K H ds vs → Rep K H (.list ds) (.ref a)
  | tup {a : Addr} {vs : List V} {ds : List D} : SqT K H a vs → Reps K H ds vs → Rep K H (.tuple ds) (.ref a)
inductive Reps (K : PySem.W.Frag) (H : Hp) : List D → List V → Prop
  | nil : Reps K H [] []
  | cons {d : D} {v : V} {ds : List D} {vs : List V} : Rep K H d v → Reps K H ds vs → Reps K H (d :: ds) (v :: vs)
end
theorem same_seqT {K : PySem.W.Frag} {H H' : Hp} {a : Addr} {xs : List V} (e : Same H H') (h : SqT K H a xs) : SqT K H' a xs := by
  rcases h with (h | ⟨o, h⟩) | h
  · exact .inl (.inl (e _ _ h))
  · exact .inl (.inr ⟨o, e _ _ h⟩)
  · exact .inr h
mutual
theorem Rep.mono {K : PySem.W.Frag} {H H' : Hp} (s : Same H H') : ∀ {d : D} {v : V}, Rep K H d v → Rep K H' d v
  | _, _, .non => .non
  | _, _, .bl b => .bl b
  | _, _, .int i => .int i
  | _, _, .str x => .str x
  | _, _, .lst h r => .lst (s.seq h) (Reps.mono s r)
  | _, _, .tup h r => .tup (same_seqT s h) (Reps.mono s r)
theorem Reps.mono {K : PySem.W.Frag} {H H' : Hp} (s : Same H H') : ∀ {ds : List D} {vs : List V}, Reps K H ds vs → Reps K H' ds vs
  | _, _, .nil => .nil
  | _, _, .cons r t => .cons (Rep.mono s r) (Reps.mono s t)
end
mutual
theorem Rep.dp {K : PySem.W.Frag} {H : Hp} : ∀ {d : D} {v : V}, Rep K H d v → Dp K H v d
  | _, _, .non => .non
  | _, _, .bl b => .bl b
  | _, _, .int i => .int i
  | _, _, .str x => .str x
  | _, _, .lst h r => .lst h (Reps.dp r)
  | _, _, .tup h r => .tup h (Reps.dp r)
theorem Reps.dp {K : PySem.W.Frag} {H : Hp} : ∀ {ds : List D} {vs : List V}, Reps K H ds vs → DpAll K H vs ds
  | _, _, .nil => .nil
  | _, _, .cons r t => .cons (Rep.dp r) (Reps.dp t)
end
theorem Reps.length {K : PySem.W.Frag} {H : Hp} : ∀ {ds : List D} {vs : List V}, Reps K H ds vs → ds.length = vs.length
  | _, _, .nil => rfl
  | _, _, .cons _ t => congrArg Nat.succ (Reps.length t)
theorem Reps.get {K : PySem.W.Frag} {H : Hp} : ∀ {ds : List D} {vs : List V} {i : Nat} {d : D}, Reps K H ds vs → ds[i]? = some d → ∃ v, vs[i]? = some v ∧ Rep K H d v
  | _, _, _, _, .nil, e => by simp at e
  | _, _, 0, _, .cons r _, e => by simp at e; subst e; exact ⟨_, rfl, r⟩
  | _, _, i + 1, d, .cons _ t, e => by
    obtain ⟨v, h1, h2⟩ := Reps.get (i := i) (d := d) t (by simpa using e)
    exact ⟨v, by simpa using h1, h2⟩
theorem Reps.append {K : PySem.W.Frag} {H : Hp} : ∀ {ds es : List D} {vs ws : List V}, Reps K H ds vs → Reps K H es ws → Reps K H (ds ++ es) (vs ++ ws)
  | _, _, _, _, .nil, s => s
  | _, _, _, _, .cons r t, s => .cons r (Reps.append t s)
theorem Reps.take {K : PySem.W.Frag} {H : Hp} : ∀ {ds : List D} {vs : List V} (n : Nat), Reps K H ds vs → Reps K H (ds.take n) (vs.take n)
  | _, _, 0, _ => .nil
  | _, _, _ + 1, .nil => .nil
  | _, _, n + 1, .cons r t => .cons r (Reps.take n t)
theorem Reps.drop {K : PySem.W.Frag} {H : Hp} : ∀ {ds : List D} {vs : List V} (n : Nat), Reps K H ds vs → Reps K H (ds.drop n) (vs.drop n)
  | _, _, 0, r => r
  | _, _, _ + 1, .nil => .nil
  | _, _, n + 1, .cons _ t => Reps.drop n t
theorem Reps.ints {K : PySem.W.Frag} {H : Hp} : ∀ (ns : List Int), Reps K H (ns.map PyData.int) (ns.map V.int)
  | [] => .nil
  | n :: ns => .cons (.int n) (Reps.ints ns)
theorem Reps.snoc {K : PySem.W.Frag} {H : Hp} {ds : List D} {vs : List V} {d : D} {v : V} (h : Reps K H ds vs) (r : Rep K H d v) : Reps K H (ds ++ [d]) (vs ++ [v]) := h.append (.cons r .nil)

/-! ### a heap without some addresses -/
open Classical in
noncomputable def mask (B : Addr → Prop) (H : Hp) : Hp := fun a => if B a then none else H a
theorem mask_pos {B : Addr → Prop} {H : Hp} {a : Addr} (h : B a) : mask B H a = none := if_pos h
theorem mask_neg {B : Addr → Prop} {H : Hp} {a : Addr} (h : ¬ B a) : mask B H a = H a := if_neg h
theorem mask_some {B : Addr → Prop} {H : Hp} {a : Addr} {o : HO} (h : mask B H a = some o) : ¬ B a ∧ H a = some o := by
  by_cases q : B a
  · rw [mask_pos q] at h; cases h
  · rw [mask_neg q] at h; exact ⟨q, h⟩
theorem mask_le {B : Addr → Prop} {H : Hp} : Same (mask B H) H := fun _ _ h => (mask_some h).2
theorem mask_same {B B' : Addr → Prop} {H H' : Hp} (s : Same H H') (hb : ∀ a, B' a → B a ∨ H a = none) : Same (mask B H) (mask B' H') := fun a o h => by
  obtain ⟨n, e⟩ := mask_some h
  rw [mask_neg, s a o e]
  intro q
  rcases hb a q with z | z
  · exact n z
  · rw [e] at z; cases z
theorem same_upd {H : Hp} {p : Addr} {o : HO} (h : H p = none) : Same H (upd H p o) := fun b x e => by
  rw [upd_ne (ne_of_none e h)]
  exact e

/-! ### the state -/
def Bo (B : Addr → Prop) (O : Nat → Option Addr) : Addr → Prop := fun a => B a ∨ ∃ i, O i = some a
/-- what is to stay readable (the lists that loops walk) -/
structure Hold where
  P : Hp → Prop
  mono : ∀ H H', Same H H' → P H → P H'
structure StOk (K : PySem.W.Frag) (H0 : Hp) (B : Addr → Prop) (hd : Hold) (O : Nat → Option Addr) (ρ : En) (σ : St) (H : Hp) : Prop where
  same : Same H0 H
  old : ∀ b, B b → ∃ o, H0 b = some o
  len : ρ.length = σ.length
  inj : ∀ i j p, O i = some p → O j = some p → i = j
  new : ∀ i p, O i = some p → H0 p = none ∧ ∃ o, H p = some o
  sh : ∀ (i : Nat) (d : D), ρ[i]? = some (some (.sh d)) → ∃ v, σ[i]? = some (some v) ∧ Rep K (mask (Bo B O) H) d v
  ow : ∀ (i : Nat) (ds : List D), ρ[i]? = some (some (.own ds)) → ∃ p vs, O i = some p ∧ σ[i]? = some (some (.ref p)) ∧ H p = some (.lst vs) ∧ Reps K (mask (Bo B O) H) ds vs
  hold : hd.P (mask (Bo B O) H)
section
variable {K : PySem.W.Frag} {H0 : Hp} {B : Addr → Prop} {hd : Hold} {O : Nat → Option Addr} {ρ : En} {σ : St} {H H' : Hp}
theorem StOk.grow (h : StOk K H0 B hd O ρ σ H) (s : Same H H') : StOk K H0 B hd O ρ σ H' where
  same := h.same.trans s
  old := h.old
  len := h.len
  inj := h.inj
  new := fun i p e => ⟨(h.new i p e).1, let ⟨o, q⟩ := (h.new i p e).2; ⟨o, s _ _ q⟩⟩
  sh := fun i d e => let ⟨v, h1, h2⟩ := h.sh i d e; ⟨v, h1, h2.mono (mask_same s fun _ q => .inl q)⟩
  ow := fun i ds e => let ⟨p, vs, h1, h2, h3, h4⟩ := h.ow i ds e; ⟨p, vs, h1, h2, s _ _ h3, h4.mono (mask_same s fun _ q => .inl q)⟩
  hold := hd.mono _ _ (mask_same s fun _ q => .inl q) h.hold
theorem get_set {α : Type} {l : List α} {i j : Nat} {x y : α} (h : (l.set i x)[j]? = some y) : (i = j ∧ i < l.length ∧ x = y) ∨ (i ≠ j ∧ l[j]? = some y) := by
  by_cases e : i = j
  · subst e
    by_cases hl : i < l.length
    · rw [List.getElem?_set_self hl] at h
      exact .inl ⟨rfl, hl, Option.some.inj h⟩
    · rw [List.getElem?_eq_none (by rw [List.length_set]; omega)] at h
      cases h
  · rw [List.getElem?_set_ne e] at h
    exact .inr ⟨e, h⟩
theorem StOk.setSh (h : StOk K H0 B hd O ρ σ H) {d : D} {v : V} (r : Rep K (mask (Bo B O) H) d v) (i : Nat) : StOk K H0 B hd O (ρ.set i (some (.sh d))) (σ.set i (some v)) H where
  same := h.same
  old := h.old
  len := by rw [List.length_set, List.length_set]; exact h.len
  inj := h.inj
  new := h.new
  sh := fun j d' e => by
    rcases get_set e with ⟨rfl, hl, e⟩ | ⟨ne, e⟩
    · cases e
      exact ⟨v, List.getElem?_set_self (by rw [← h.len]; exact hl), r⟩
    · obtain ⟨v', h1, h2⟩ := h.sh j d' e
      exact ⟨v', by rw [List.getElem?_set_ne ne]; exact h1, h2⟩
  ow := fun j ds e => by
    rcases get_set e with ⟨rfl, hl, e⟩ | ⟨ne, e⟩
    · cases e
    · obtain ⟨p, vs, h1, h2, h3⟩ := h.ow j ds e
      exact ⟨p, vs, h1, by rw [List.getElem?_set_ne ne]; exact h2, h3⟩
  hold := h.hold
open Classical in
theorem StOk.setOwn (h : StOk K H0 B hd O ρ σ H) {ds : List D} {vs : List V} (r : Reps K (mask (Bo B O) H) ds vs) (i : Nat) {p : Addr} (hp : H p = none) :
    ∃ O', StOk K H0 B hd O' (ρ.set i (some (.own ds))) (σ.set i (some (.ref p))) (upd H p (.lst vs)) := by
  have hp0 : H0 p = none := h.same.free hp
  have np : ∀ j q, O j = some q → q ≠ p := fun j q e z => by
    obtain ⟨_, o, e2⟩ := h.new j q e
    rw [z, hp] at e2; cases e2
  have sm : Same H (upd H p (.lst vs)) := same_upd hp
  have ms : Same (mask (Bo B O) H) (mask (Bo B (fun j => if j = i then some p else O j)) (upd H p (.lst vs))) := mask_same sm fun a q => by
    rcases q with q | ⟨j, q⟩
    · exact .inl (.inl q)
    · dsimp only at q
      by_cases e : j = i
      · rw [if_pos e] at q
        have e2 : p = a := Option.some.inj q
        rw [← e2]
        exact .inr hp
      · rw [if_neg e] at q
        exact .inl (.inr ⟨j, q⟩)
  refine ⟨fun j => if j = i then some p else O j, h.same.trans sm, h.old, by rw [List.length_set, List.length_set]; exact h.len, fun a b q e1 e2 => ?_, fun j q e => ?_, fun j d e => ?_, fun j ds' e => ?_, hd.mono _ _ ms h.hold⟩
  · by_cases ha : a = i
    · by_cases hb : b = i
      · rw [ha, hb]
      · rw [if_pos ha] at e1
        rw [if_neg hb] at e2
        exact absurd (Option.some.inj e1).symm (np b q e2)
    · rw [if_neg ha] at e1
      by_cases hb : b = i
      · rw [if_pos hb] at e2
        exact absurd (Option.some.inj e2).symm (np a q e1)
      · rw [if_neg hb] at e2
        exact h.inj a b q e1 e2
  · by_cases hj : j = i
    · rw [if_pos hj] at e
      have e2 : p = q := Option.some.inj e
      rw [← e2]
      exact ⟨hp0, _, upd_same⟩
    · rw [if_neg hj] at e
      obtain ⟨h1, o, h2⟩ := h.new j q e
      exact ⟨h1, o, sm _ _ h2⟩
  · rcases get_set e with ⟨rfl, hl, e⟩ | ⟨ne, e⟩
    · cases e
    · obtain ⟨v', h1, h2⟩ := h.sh j d e
      exact ⟨v', by rw [List.getElem?_set_ne ne]; exact h1, h2.mono ms⟩
  · rcases get_set e with ⟨rfl, hl, e⟩ | ⟨ne, e⟩
    · cases e
      exact ⟨p, vs, if_pos rfl, List.getElem?_set_self (by rw [← h.len]; exact hl), upd_same, r.mono ms⟩
    · obtain ⟨q, ws, h1, h2, h3, h4⟩ := h.ow j ds' e
      exact ⟨q, ws, by rw [if_neg (Ne.symm ne)]; exact h1, by rw [List.getElem?_set_ne ne]; exact h2, sm _ _ h3, h4.mono ms⟩
theorem mask_upd {B : Addr → Prop} {H : Hp} {p : Addr} {o : HO} (h : B p) : mask B (upd H p o) = mask B H := by
  funext a
  by_cases q : B a
  · rw [mask_pos q, mask_pos q]
  · rw [mask_neg q, mask_neg q, upd_ne]
    intro z
    rw [z] at q
    exact q h
theorem StOk.app (h : StOk K H0 B hd O ρ σ H) {i : Nat} {ds : List D} (e : ρ[i]? = some (some (.own ds))) {d : D} {v : V} (r : Rep K (mask (Bo B O) H) d v) {p : Addr} {vs : List V} (hO : O i = some p) (hp : H p = some (.lst vs)) (hr : Reps K (mask (Bo B O) H) ds vs) :
    StOk K H0 B hd O (ρ.set i (some (.own (ds ++ [d])))) σ (upd H p (.lst (vs ++ [v]))) := by
  have hp0 : H0 p = none := (h.new i p hO).1
  have em : mask (Bo B O) (upd H p (.lst (vs ++ [v]))) = mask (Bo B O) H := mask_upd (.inr ⟨i, hO⟩)
  refine ⟨fun a o q => ?_, h.old, by rw [List.length_set]; exact h.len, h.inj, fun j q e2 => ?_, fun j d' e2 => ?_, fun j ds' e2 => ?_, by rw [em]; exact h.hold⟩
  · rw [upd_ne (ne_of_none q hp0)]
    exact h.same a o q
  · obtain ⟨h1, o, h2⟩ := h.new j q e2
    refine ⟨h1, ?_⟩
    by_cases z : q = p
    · rw [z]; exact ⟨_, upd_same⟩
    · exact ⟨o, by rw [upd_ne z]; exact h2⟩
  · rcases get_set e2 with ⟨rfl, hl, e2⟩ | ⟨ne, e2⟩
    · cases e2
    · rw [em]
      exact h.sh j d' e2
  · rcases get_set e2 with ⟨rfl, hl, e2⟩ | ⟨ne, e2⟩
    · cases e2
      obtain ⟨q, ws, h1, h2, h3, h4⟩ := h.ow i ds e
      rw [hO] at h1
      cases h1
      exact ⟨p, vs ++ [v], hO, h2, upd_same, by rw [em]; exact hr.snoc r⟩
    · obtain ⟨q, ws, h1, h2, h3, h4⟩ := h.ow j ds' e2
      have nq : q ≠ p := fun z => ne (h.inj _ _ _ hO (z ▸ h1))
      exact ⟨q, ws, h1, h2, by rw [upd_ne nq]; exact h3, by rw [em]; exact h4⟩
open Classical in
theorem StOk.frz (h : StOk K H0 B hd O ρ σ H) {i : Nat} {ds : List D} (e : ρ[i]? = some (some (.own ds))) : ∃ O', StOk K H0 B hd O' (ρ.set i (some (.sh (.list ds)))) σ H := by
  obtain ⟨p, vs, hO, hσ, hp, hr⟩ := h.ow i ds e
  have hp0 : H0 p = none := (h.new i p hO).1
  have sub : ∀ a, Bo B (fun j => if j = i then none else O j) a → Bo B O a := fun a q => by
    rcases q with q | ⟨j, q⟩
    · exact .inl q
    · dsimp only at q
      by_cases z : j = i
      · rw [if_pos z] at q; cases q
      · rw [if_neg z] at q; exact .inr ⟨j, q⟩
  have ms : Same (mask (Bo B O) H) (mask (Bo B (fun j => if j = i then none else O j)) H) := mask_same (Same.refl H) fun a q => .inl (sub a q)
  have np : ¬ Bo B (fun j => if j = i then none else O j) p := fun q => by
    rcases q with q | ⟨j, q⟩
    · obtain ⟨o, z⟩ := h.old p q
      rw [hp0] at z; cases z
    · dsimp only at q
      by_cases z : j = i
      · rw [if_pos z] at q; cases q
      · rw [if_neg z] at q
        exact z (h.inj _ _ _ q hO)
  have get : ∀ {j q}, (if j = i then none else O j) = some q → O j = some q := fun {j q} e => by
    by_cases z : j = i
    · rw [if_pos z] at e; cases e
    · rw [if_neg z] at e; exact e
  refine ⟨fun j => if j = i then none else O j, h.same, h.old, by rw [List.length_set]; exact h.len, fun a b q e1 e2 => h.inj a b q (get e1) (get e2), fun j q e2 => h.new j q (get e2), fun j d' e2 => ?_, fun j ds' e2 => ?_, hd.mono _ _ ms h.hold⟩
  · rcases get_set e2 with ⟨rfl, hl, e2⟩ | ⟨ne, e2⟩
    · cases e2
      exact ⟨.ref p, hσ, .lst (SqL.of (by rw [mask_neg np]; exact hp)) (hr.mono ms)⟩
    · obtain ⟨v', h1, h2⟩ := h.sh j d' e2
      exact ⟨v', h1, h2.mono ms⟩
  · rcases get_set e2 with ⟨rfl, hl, e2⟩ | ⟨ne, e2⟩
    · cases e2
    · obtain ⟨q, ws, h1, h2, h3, h4⟩ := h.ow j ds' e2
      exact ⟨q, ws, by rw [if_neg (Ne.symm ne)]; exact h1, h2, h3, h4.mono ms⟩
theorem StOk.held {hd' : Hold} (h : StOk K H0 B hd O ρ σ H) (k : hd'.P (mask (Bo B O) H)) : StOk K H0 B hd' O ρ σ H := ⟨h.same, h.old, h.len, h.inj, h.new, h.sh, h.ow, k⟩
end
end FT

namespace FT
open PySem PySem.Spec PyProof.Rows L2

/-! ### the text against the small language -/
structure Ctx where
  N : List Str
  sc : Scope
  fns : List Str
  cons : List Str
  excs : List (Nat × Str)
def Ctx.vis (c : Ctx) (i : Nat) (x : Str) : Bool := decide (c.N[i]? = some x) && (decide (c.sc.names.lookup x = some .local) || decide (c.sc.names.lookup x = some .cell) || decide (c.sc.names.lookup x = some .free)) && !(x == ("__debug__" : Str)) && !(x == ("__classdict__" : Str))
def Ctx.loc (c : Ctx) (i : Nat) (x : Str) : Bool := decide (c.N[i]? = some x) && (decide (c.sc.names.lookup x = some .local) || decide (c.sc.names.lookup x = some .cell))
def Ctx.gl (c : Ctx) (x : Str) : Bool := decide (c.sc.names.lookup x = some .globalImplicit) && !(x == ("__debug__" : Str))
def pH : Expr → Bool
  | .Starred .. => false
  | .Slice .. => false
  | .ListComp .. => false
  | .SetComp .. => false
  | .DictComp .. => false
  | .Set .. => false
  | _ => true
def opA : Op2 → Operator
  | .add => .Add | .sub => .Sub | .mul => .Mult | .fdiv => .FloorDiv | .mod => .Mod | .pow => .Pow | .shl => .LShift | .shr => .RShift | .band => .BitAnd | .bor => .BitOr | .bxor => .BitXor
def cmA : Cm → CmpOp
  | .lt => .Lt | .le => .LtE | .gt => .Gt | .ge => .GtE | .eq => .Eq | .ne => .NotEq | .is => .Is | .isnot => .IsNot
def tyA : Ty → Str
  | .int => "int" | .bool => "bool" | .tuple => "tuple" | .list => "list" | .str => "str" | .dict => "dict"
def biA : Bi → Str
  | .len => "len" | .abs => "abs" | .divmod => "divmod" | .tuple => "tuple"
def chkPart (f : Expr → Bool) : Option Expr → Bool
  | none => false
  | some e => f e

mutual
def chkE (c : Ctx) : Ex → Expr → Bool
  | .v i, e => pH e && (match e with | .Name x _ => c.vis i x | _ => false)
  | .int n, e => pH e && (match e with | .Constant (.int m) _ _ => decide (n = m) | _ => false)
  | .bl b, e => pH e && (match e with | .Constant (.bool d) _ _ => decide (b = d) | _ => false)
  | .non, e => pH e && (match e with | .Constant .none _ _ => true | _ => false)
  | .str s, e => pH e && (match e with | .Constant (.str x) _ _ => decide (s = x) | _ => false)
  | .glob k, e => pH e && (match e with | .Name x _ => decide (c.cons[k]? = some x) && c.gl x | _ => false)
  | .bin o a b, e => pH e && (match e with | .BinOp l p r _ => decide (p = opA o) && (chkE c a l && chkE c b r) | _ => false)
  | .neg a, e => pH e && (match e with | .UnaryOp p x _ => decide (p = .USub) && chkE c a x | _ => false)
  | .not a, e => pH e && (match e with | .UnaryOp p x _ => decide (p = .Not) && chkE c a x | _ => false)
  | .and a es, e => pH e && (match e with | .BoolOp p (v :: vs) _ => decide (p = .And) && (chkE c a v && (chkEs c es vs && !es.isEmpty)) | _ => false)
  | .or a es, e => pH e && (match e with | .BoolOp p (v :: vs) _ => decide (p = .Or) && (chkE c a v && (chkEs c es vs && !es.isEmpty)) | _ => false)
  | .cmp o a b, e => pH e && (match e with | .Compare l [p] [r] _ => decide (p = cmA o) && (chkE c a l && chkE c b r) | _ => false)
  | .tup es, e => pH e && (match e with | .Tuple vs _ _ => chkEs c es vs && decide (es.length ≤ 1000) | _ => false)
  | .lst es, e => pH e && (match e with | .List vs _ => chkEs c es vs && decide (es.length ≤ 1000) | _ => false)
  | .ix a b, e => pH e && (match e with | .Subscript l r _ => chkE c a l && chkE c b r | _ => false)
  | .ixo i b, e => pH e && (match e with | .Subscript l r _ => (match l with | .Name x _ => c.vis i x && chkE c b r | _ => false) | _ => false)
  | .sl a lo hi, e => pH e && (match e with
    | .Subscript l (.Slice u w none _) _ => chkE c a l && ((match u with | none => lo.isEmpty | some u => chkEs c lo [u]) && (match w with | none => hi.isEmpty | some w => chkEs c hi [w]))
    | _ => false)
  | .call k a es, e => pH e && (match e with | .Call (.Name x _) (v :: vs) [] _ => (decide (c.fns[k]? = some x) && c.gl x) && (chkE c a v && chkEs c es vs) | _ => false)
  | .bi b a es, e => pH e && (match e with | .Call (.Name x _) (v :: vs) [] _ => (decide (x = biA b) && c.gl x) && (chkE c a v && chkEs c es vs) | _ => false)
  | .isi a t, e => pH e && (match e with | .Call (.Name x _) [v, .Name y _] [] _ => (decide (x = "isinstance") && c.gl x) && ((decide (y = tyA t) && c.gl y) && chkE c a v) | _ => false)
  | .ife t a b, e => pH e && (match e with | .IfExp f l r _ => chkE c t f && (chkE c a l && chkE c b r) | _ => false)
def chkEs (c : Ctx) : List Ex → List Expr → Bool
  | [], vs => vs.isEmpty
  | x :: xs, vs => (match vs with | v :: vs => chkE c x v && chkEs c xs vs | [] => false)
end

def chkIt (c : Ctx) : It → Expr → Bool
  | .seq x, e => chkE c x e
  | .rng1 x, e => (match e with | .Call (.Name f _) [a] [] _ => (decide (f = "range") && c.gl f) && chkE c x a | _ => false)
  | .rng2 x y, e => (match e with | .Call (.Name f _) [a, b] [] _ => (decide (f = "range") && c.gl f) && (chkE c x a && chkE c y b) | _ => false)

mutual
def chkS (c : Ctx) : Sm → Stmt → Bool
  | .ex x, s => (match s with | .Expr e _ => chkE c x e | _ => false)
  | .set i x, s => (match s with | .Assign [.Name n _] e _ => c.loc i n && chkE c x e | _ => false)
  | .setL i xs, s => (match s with | .Assign [.Name n _] (.List vs _) _ => c.loc i n && (chkEs c xs vs && decide (xs.length ≤ 1000)) | _ => false)
  | .app i x, s => (match s with
    | .Expr (.Call (.Attribute (.Name n _) m apos) [e] [] pos) _ => (c.vis i n && decide (m = "append")) && (decide (apos.endLine = pos.line) && chkE c x e)
    | _ => false)
  | .ret x, s => (match s with | .Return (some e) _ => chkE c x e | _ => false)
  | .ife t a b, s => (match s with | .If e u w _ => chkE c t e && (chkSs c a u && chkSs c b w) | _ => false)
  | .for_ i it b, s => (match s with | .For (.Name n _) e u [] _ => (c.loc i n && chkIt c it e) && chkSs c b u | _ => false)
  | .while_ t b, s => (match s with | .While e u [] _ => chkE c t e && chkSs c b u | _ => false)
  | .raise k, s => (match s with | .Raise (some (.Call (.Name x _) [.Constant (.str _) _ _] [] _)) none _ => decide (c.excs.lookup k = some x) && c.gl x | _ => false)
  | .aug i o x, s => (match s with | .AugAssign (.Name n _) p e _ => (c.loc i n && (decide (p = .Add) && decide (o = .add))) && chkE c x e | _ => false)
  | .pass, s => (match s with | .Pass _ => true | _ => false)
  | .frz _, _ => false
def chkSs (c : Ctx) : List Sm → List Stmt → Bool
  | [], ss => ss.isEmpty
  | x :: xs, ss => (match x with
    | .frz _ => chkSs c xs ss
    | x => (match ss with | s :: ss => chkS c x s && chkSs c xs ss | [] => false))
end

theorem ba {a b : Bool} (h : (a && b) = true) : a = true ∧ b = true := Bool.and_eq_true_iff.mp h
theorem chk_pH {c : Ctx} {x : Ex} {e : Expr} (h : chkE c x e = true) : pH e = true := by
  cases x <;> (unfold chkE at h; exact (ba h).1)
section
variable {e : Expr} {env : Env}
theorem pH_star (h : pH e = true) (es : List Expr) : starEach (e :: es) env = (false, eval e env) :: starEach es env := by
  cases e <;> first | rfl | cases h
theorem pH_ix (h : pH e = true) : PlainIx e := by
  cases e <;> first | (intro _ _; rfl) | cases h
theorem pH_swap (h : pH e = true) (t : Option Expr) (l : Nat) : swapsWith e t l env = pure false := by
  cases e <;> first | rfl | cases h
theorem pH_fold (h : pH e = true) : ∀ x, foldedSetIterable e env x = pure x := by
  cases e <;> first | (intro _; rfl) | cases h
theorem pH_mark (h : pH e = true) (op : CmpOp) : behindInMarks op e = false := by
  cases e <;> first | rfl | cases h
end
theorem chks_star {c : Ctx} {env : Env} : ∀ {xs : List Ex} {es : List Expr} {pos : Pos}, chkEs c xs es = true → (backTo pos (starEach es env)).any (·.1) = false
  | [], [], _, _ => rfl
  | [], _ :: _, _, h => by unfold chkEs at h; cases h
  | x :: xs, [], _, h => by unfold chkEs at h; cases h
  | x :: xs, e :: es, pos, h => by
    unfold chkEs at h
    obtain ⟨h1, h2⟩ := ba h
    rw [pH_star (chk_pH h1)]
    show (false || (backTo pos (starEach es env)).any (·.1)) = false
    rw [chks_star h2]
    rfl
theorem vis_ok {c : Ctx} {i : Nat} {x : Str} (h : c.vis i x = true) : c.N[i]? = some x ∧ Vis c.sc x ∧ (x == ("__debug__" : Str)) = false ∧ (x == ("__classdict__" : Str)) = false := by
  obtain ⟨h, h4⟩ := ba h
  obtain ⟨h, h3⟩ := ba h
  obtain ⟨h1, h2⟩ := ba h
  refine ⟨of_decide_eq_true h1, ?_, by simpa using h3, by simpa using h4⟩
  rcases Bool.or_eq_true_iff.mp h2 with h2 | h2
  · rcases Bool.or_eq_true_iff.mp h2 with h2 | h2
    · exact .inl (of_decide_eq_true h2)
    · exact .inr (.inl (of_decide_eq_true h2))
  · exact .inr (.inr (of_decide_eq_true h2))
theorem loc_ok {c : Ctx} {i : Nat} {x : Str} (h : c.loc i x = true) : c.N[i]? = some x ∧ Loc c.sc x := by
  obtain ⟨h1, h2⟩ := ba h
  refine ⟨of_decide_eq_true h1, ?_⟩
  rcases Bool.or_eq_true_iff.mp h2 with h2 | h2
  · exact .inl (of_decide_eq_true h2)
  · exact .inr (of_decide_eq_true h2)
theorem gl_ok {c : Ctx} {x : Str} (h : c.gl x = true) : c.sc.names.lookup x = some .globalImplicit ∧ (x == ("__debug__" : Str)) = false := by
  obtain ⟨h1, h2⟩ := ba h
  exact ⟨of_decide_eq_true h1, by simpa using h2⟩
end FT

namespace FT
open PySem PySem.Spec PyProof.Rows L2

/-! ### what is wanted behind an answer -/
structure Pa where
  K : PySem.W.Frag
  cl : Nat → Value
  W : WX
  H0 : Hp
  B : Addr → Prop
abbrev Pa.St (p : Pa) (hd : Hold) (O : Nat → Option Addr) (ρ : En) (σ : L2.St) (H : Hp) : Prop := StOk p.K p.H0 p.B hd O ρ σ H
@[reducible] noncomputable def Pa.M (p : Pa) (O : Nat → Option Addr) (H : Hp) : Hp := mask (Bo p.B O) H
def post (p : Pa) (r : R D) (O : Nat → Option Addr) (σ : L2.St) (H : Hp) (Q : VK) : Prop := match r with
  | .bad => False
  | .exc c => ∀ H', Same H H' → p.W (p.cl c) none σ H'
  | .ok d => ∀ v H', Same H H' → Rep p.K (p.M O H') d v → Q v H'
def postL (p : Pa) (r : R (List D)) (O : Nat → Option Addr) (σ : L2.St) (H : Hp) (Q : List V → Hp → Prop) : Prop := match r with
  | .bad => False
  | .exc c => ∀ H', Same H H' → p.W (p.cl c) none σ H'
  | .ok d => ∀ v H', Same H H' → Reps p.K (p.M O H') d v → Q v H'
def postB (p : Pa) (r : R D) (O : Nat → Option Addr) (σ : L2.St) (H : Hp) (Q : Bool → Hp → Prop) : Prop := match r with
  | .exc c => ∀ H', Same H H' → p.W (p.cl c) none σ H'
  | .ok (.bool b) => ∀ H', Same H H' → Q b H'
  | _ => False
def tD (p : Pa) (rf : En → R D) : TE := fun σ H Q => ∃ hd O ρ, p.St hd O ρ σ H ∧ post p (rf ρ) O σ H Q
def tDs (p : Pa) (rf : En → R (List D)) : TA := fun σ H Q => ∃ hd O ρ, p.St hd O ρ σ H ∧ postL p (rf ρ) O σ H Q
def tDB (p : Pa) (rf : En → R D) : TT := fun σ H Q => ∃ hd O ρ, p.St hd O ρ σ H ∧ postB p (rf ρ) O σ H Q
def postS (p : Pa) (hd : Hold) (f : Fl) (D : Ends) : Prop := match f with
  | .bad => False
  | .nx ρ => ∀ O σ H, p.St hd O ρ σ H → D.nx σ H
  | .rt d => ∀ v H, Same p.H0 H → Rep p.K (mask p.B H) d v → D.rt v H
  | .xc c ρ => ∀ O σ H, p.St hd O ρ σ H → p.W (p.cl c) none σ H
def tDS (p : Pa) (f : En → Fl) : TS := fun D σ H => ∃ hd O ρ, p.St hd O ρ σ H ∧ postS p hd (f ρ) D

section
variable {p : Pa} {hd : Hold} {O : Nat → Option Addr} {ρ : En} {σ : L2.St} {H H' : Hp} {Q Q' : VK}
theorem post_grow {r : R D} (h : post p r O σ H Q) (s : Same H H') : post p r O σ H' Q := by
  cases r with
  | bad => exact h
  | exc c => exact fun H2 s2 => h H2 (s.trans s2)
  | ok d => exact fun v H2 s2 q => h v H2 (s.trans s2) q
theorem postL_grow {r : R (List D)} {Q : List V → Hp → Prop} (h : postL p r O σ H Q) (s : Same H H') : postL p r O σ H' Q := by
  cases r with
  | bad => exact h
  | exc c => exact fun H2 s2 => h H2 (s.trans s2)
  | ok d => exact fun v H2 s2 q => h v H2 (s.trans s2) q
theorem postB_grow {r : R D} {Q : Bool → Hp → Prop} (h : postB p r O σ H Q) (s : Same H H') : postB p r O σ H' Q := by
  cases r with
  | bad => exact h
  | exc c => exact fun H2 s2 => h H2 (s.trans s2)
  | ok d => cases d with
    | bool b => exact fun H2 s2 => h H2 (s.trans s2)
    | _ => exact h
theorem M_grow (s : Same H H') : Same (p.M O H) (p.M O H') := mask_same s fun _ q => .inl q
theorem St_dom (st : p.St hd O ρ σ H) : ∀ a, Bo p.B O a → H a ≠ none := fun a q z => by
  rcases q with q | ⟨i, q⟩
  · obtain ⟨o, e⟩ := st.old a q
    rw [st.same _ _ e] at z; cases z
  · obtain ⟨_, o, e⟩ := st.new i a q
    rw [e] at z; cases z
theorem tD_bind {ra : En → R D} {f : D → R D} (st : p.St hd O ρ σ H) (h : post p ((ra ρ).bind f) O σ H Q)
    (k : ∀ x v H1, ra ρ = .ok x → Same H H1 → p.St hd O ρ σ H1 → Rep p.K (p.M O H1) x v → post p (f x) O σ H1 Q → Q' v H1) : tD p ra σ H Q' := by
  refine ⟨hd, O, ρ, st, ?_⟩
  cases hr : ra ρ with
  | bad => rw [hr] at h; exact h
  | exc c => rw [hr] at h; exact h
  | ok x =>
    rw [hr] at h
    exact fun v H1 s r => k x v H1 hr s (st.grow s) r (post_grow h s)
theorem tDs_bind {ra : En → R (List D)} {f : List D → R D} {Q' : List V → Hp → Prop} (st : p.St hd O ρ σ H) (h : post p ((ra ρ).bind f) O σ H Q)
    (k : ∀ x v H1, ra ρ = .ok x → Same H H1 → p.St hd O ρ σ H1 → Reps p.K (p.M O H1) x v → post p (f x) O σ H1 Q → Q' v H1) : tDs p ra σ H Q' := by
  refine ⟨hd, O, ρ, st, ?_⟩
  cases hr : ra ρ with
  | bad => rw [hr] at h; exact h
  | exc c => rw [hr] at h; exact h
  | ok x =>
    rw [hr] at h
    exact fun v H1 s r => k x v H1 hr s (st.grow s) r (post_grow h s)
theorem tD_bindL {ra : En → R D} {f : D → R (List D)} {Q : List V → Hp → Prop} (st : p.St hd O ρ σ H) (h : postL p ((ra ρ).bind f) O σ H Q)
    (k : ∀ x v H1, ra ρ = .ok x → Same H H1 → p.St hd O ρ σ H1 → Rep p.K (p.M O H1) x v → postL p (f x) O σ H1 Q → Q' v H1) : tD p ra σ H Q' := by
  refine ⟨hd, O, ρ, st, ?_⟩
  cases hr : ra ρ with
  | bad => rw [hr] at h; exact h
  | exc c => rw [hr] at h; exact h
  | ok x =>
    rw [hr] at h
    exact fun v H1 s r => k x v H1 hr s (st.grow s) r (postL_grow h s)
theorem tDs_bindL {ra : En → R (List D)} {f : List D → R (List D)} {Q : List V → Hp → Prop} {Q' : List V → Hp → Prop} (st : p.St hd O ρ σ H) (h : postL p ((ra ρ).bind f) O σ H Q)
    (k : ∀ x v H1, ra ρ = .ok x → Same H H1 → p.St hd O ρ σ H1 → Reps p.K (p.M O H1) x v → postL p (f x) O σ H1 Q → Q' v H1) : tDs p ra σ H Q' := by
  refine ⟨hd, O, ρ, st, ?_⟩
  cases hr : ra ρ with
  | bad => rw [hr] at h; exact h
  | exc c => rw [hr] at h; exact h
  | ok x =>
    rw [hr] at h
    exact fun v H1 s r => k x v H1 hr s (st.grow s) r (postL_grow h s)
theorem xc_of (st : p.St hd O ρ σ H) {c : Nat} {D : Ends} (h : postS p hd (.xc c ρ) D) : ∀ H', Same H H' → p.W (p.cl c) none σ H' := fun H' s => h O σ H' (st.grow s)
theorem tD_at {ra : En → R D} {f : D → Fl} {D : Ends} (st : p.St hd O ρ σ H) (h : postS p hd ((ra ρ).at ρ f) D)
    (k : ∀ x v H1, ra ρ = .ok x → Same H H1 → p.St hd O ρ σ H1 → Rep p.K (p.M O H1) x v → postS p hd (f x) D → Q' v H1) : tD p ra σ H Q' := by
  refine ⟨hd, O, ρ, st, ?_⟩
  cases hr : ra ρ with
  | bad => rw [hr] at h; exact h
  | exc c => rw [hr] at h; exact xc_of st h
  | ok x =>
    rw [hr] at h
    exact fun v H1 s r => k x v H1 hr s (st.grow s) r h
theorem tDs_at {ra : En → R (List D)} {f : List D → Fl} {D : Ends} {Q' : List V → Hp → Prop} (st : p.St hd O ρ σ H) (h : postS p hd ((ra ρ).at ρ f) D)
    (k : ∀ x v H1, ra ρ = .ok x → Same H H1 → p.St hd O ρ σ H1 → Reps p.K (p.M O H1) x v → postS p hd (f x) D → Q' v H1) : tDs p ra σ H Q' := by
  refine ⟨hd, O, ρ, st, ?_⟩
  cases hr : ra ρ with
  | bad => rw [hr] at h; exact h
  | exc c => rw [hr] at h; exact xc_of st h
  | ok x =>
    rw [hr] at h
    exact fun v H1 s r => k x v H1 hr s (st.grow s) r h
theorem tDB_at {ra : En → R D} {f : D → Fl} {D : Ends} {Q' : Bool → Hp → Prop} (st : p.St hd O ρ σ H) (h : postS p hd ((ra ρ).at ρ f) D) (hb : ∀ x, (∀ b, x ≠ .bool b) → f x = .bad)
    (k : ∀ b H1, ra ρ = .ok (.bool b) → Same H H1 → p.St hd O ρ σ H1 → postS p hd (f (.bool b)) D → Q' b H1) : tDB p ra σ H Q' := by
  refine ⟨hd, O, ρ, st, ?_⟩
  cases hr : ra ρ with
  | bad => rw [hr] at h; exact h
  | exc c => rw [hr] at h; exact xc_of st h
  | ok x =>
    rw [hr] at h
    have h2 : postS p hd (f x) D := h
    cases x with
    | bool b => exact fun H1 s => k b H1 hr s (st.grow s) h2
    | _ => rw [hb _ (fun b q => by cases q)] at h2; exact h2
end
section
variable {X : Cx}
theorem PE.imp {e : Expr} {t t' : TE} (h : PE X e t) (f : ∀ σ H Q, t' σ H Q → t σ H Q) : PE X e t' := ⟨fun pins s σ H Q I q => h.run pins s σ H Q I (f _ _ _ q)⟩
theorem PT.imp {e : Expr} {t t' : TT} (h : PT X e t) (f : ∀ σ H Q, t' σ H Q → t σ H Q) : PT X e t' := ⟨fun pins s σ H Q I q => h.run pins s σ H Q I (f _ _ _ q)⟩
theorem PW.imp {e : Expr} {t t' : TT} (h : PW X e t) (f : ∀ σ H Q, t' σ H Q → t σ H Q) : PW X e t' := ⟨fun w pins s σ H Q I q => h.run w pins s σ H Q I (f _ _ _ q)⟩
theorem PA.imp {e : List Expr} {t t' : TA} (h : PA X e t) (f : ∀ σ H Q, t' σ H Q → t σ H Q) : PA X e t' := ⟨fun po pins s σ H Q I q => h.run po pins s σ H Q I (f _ _ _ q)⟩
theorem PS.imp {e : Stmt} {t t' : TS} (h : PS X e t) (f : ∀ D σ H, t' D σ H → t D σ H) : PS X e t' := ⟨fun pins s σ H D I q => h.run pins s σ H D I (f _ _ _ q)⟩
theorem PSs.imp {e : List Stmt} {t t' : TS} (h : PSs X e t) (f : ∀ D σ H, t' D σ H → t D σ H) : PSs X e t' := ⟨fun pins s σ H D I q => h.run pins s σ H D I (f _ _ _ q)⟩
theorem OpR.imp {f : Value → Value → Sem Value} {r r' : R2} (h : OpR X f r) (g : ∀ x y H Q, r' x y H Q → r x y H Q) : OpR X f r' := fun pins s σ H x y v u Q I rx ry q => h pins s σ H x y v u Q I rx ry (g _ _ _ _ q)
theorem UnR.imp {f : Value → Sem Value} {r r' : V → Hp → VK → Prop} (h : UnR X f r) (g : ∀ x H Q, r' x H Q → r x H Q) : UnR X f r' := fun pins s σ H x v Q I rx q => h pins s σ H x v Q I rx (g _ _ _ q)
theorem CallR.imp {f : Value} {r r' : List V → Hp → VK → Prop} (h : CallR X f r) (g : ∀ xs H Q, r' xs H Q → r xs H Q) : CallR X f r' := fun pins s σ H xs us Q I rx q => h pins s σ H xs us Q I rx (g _ _ _ q)
theorem IxR.imp {r r' : R2} (h : IxR X r) (g : ∀ x y H Q, r' x y H Q → r x y H Q) : IxR X r' := fun a b pins s σ H x y v u Q I rx ry q e => h a b pins s σ H x y v u Q I rx ry (g _ _ _ _ q) e
theorem SlR.imp {r r' : V → Option Int → Option Int → Hp → VK → Prop} (h : SlR X r) (g : ∀ x l u H Q, r' x l u H Q → r x l u H Q) : SlR X r' := fun pins s σ H x v vl vu lo hi sl Q I rx hs pl pu q => h pins s σ H x v vl vu lo hi sl Q I rx hs pl pu (g _ _ _ _ _ q)

/-! ### operations on values -/
/-- a two-place operation that gives what F gives -/
def r2 (K : PySem.W.Frag) (F : D → D → R D) : R2 := fun x y H Q => ∃ (M : Addr → Prop) (d e z : D), (∀ a, M a → H a ≠ none) ∧ Rep K (mask M H) d x ∧ Rep K (mask M H) e y ∧ F d e = .ok z ∧ ∀ v H', Same H H' → Rep K (mask M H') z v → Q v H'
def r1 (K : PySem.W.Frag) (F : D → R D) : V → Hp → VK → Prop := fun x H Q => ∃ (M : Addr → Prop) (d z : D), (∀ a, M a → H a ≠ none) ∧ Rep K (mask M H) d x ∧ F d = .ok z ∧ ∀ v H', Same H H' → Rep K (mask M H') z v → Q v H'
def rn (K : PySem.W.Frag) (F : List D → R D) : List V → Hp → VK → Prop := fun xs H Q => ∃ (M : Addr → Prop) (ds : List D) (z : D), (∀ a, M a → H a ≠ none) ∧ Reps K (mask M H) ds xs ∧ F ds = .ok z ∧ ∀ v H', Same H H' → Rep K (mask M H') z v → Q v H'
theorem op2_ints {o : Op2} {d e z : D} (h : op2 o d e = .ok z) : ∃ i j, d = .int i ∧ e = .int j ∧ op2i o i j = .ok z := by
  unfold op2 at h
  split at h
  · exact ⟨_, _, rfl, rfl, h⟩
  · cases h
theorem rep_int {K : PySem.W.Frag} {H : Hp} {i : Int} {v : V} (r : Rep K H (.int i) v) : v = .int i := by cases r; rfl
theorem rep_bool {K : PySem.W.Frag} {H : Hp} {i : Bool} {v : V} (r : Rep K H (.bool i) v) : v = .bl i := by cases r; rfl
theorem bif_ok {c : Bool} {z d : D} (h : (bif c then (R.ok d) else .bad) = .ok z) : c = true ∧ z = d := by
  cases c with
  | true => exact ⟨rfl, by cases h; rfl⟩
  | false => cases h
theorem ok_int {i : Int} {z : D} (h : (R.ok (PyData.int i)) = .ok z) : z = .int i := by cases h; rfl
theorem ok_bool {i : Bool} {z : D} (h : (R.ok (PyData.bool i)) = .ok z) : z = .bool i := by cases h; rfl
theorem mul_ok {i j : Int} (h : mulOk i j = true) : CMulX i j := by
  have := of_decide_eq_true h
  unfold CMulX
  omega
theorem op_fdivG : OpR X (binaryOp .FloorDiv) (rI (fun _ j => 0 < j ∧ j.natAbs.log2 < 9000) fun i j => .int (i / j)) := opI fun i j _ _ _ _ _ hc q => by
  have h1 : (0 : Int) < j := hc.1
  exact floordiv_int (by omega) (by rw [Int.fdiv_eq_ediv_of_nonneg i (by omega)]; exact q) (.inl (PyProof.noPylong_of_log2 hc.2))
theorem op_powG : OpR X (binaryOp .Pow) (rI (fun i j => 0 ≤ j ∧ (Builtin.Int.intBits i : Int) * j ≤ 2 ^ 27) fun i j => .int (i ^ j.toNat)) := opI fun _ _ _ _ _ _ _ hc q => pow_int hc.1 hc.2 q
theorem op_all (o : Op2) : OpR X (binaryOp (opA o)) (r2 X.K (op2 o)) := by
  have fin : ∀ {M : Addr → Prop} {H : Hp} {z : D} {i : Int} {Q : VK}, z = .int i → (∀ v H', Same H H' → Rep X.K (mask M H') z v → Q v H') → Q (.int i) H := fun {M H z i Q} e q => by
    subst e
    exact q _ _ (Same.refl _) (.int _)
  cases o with
  | add =>
    refine OpR.imp op_add fun x y H Q ⟨M, d, e, z, _, rx, ry, hz, q⟩ => ?_
    obtain ⟨i, j, rfl, rfl, hz⟩ := op2_ints hz
    exact ⟨i, j, rep_int rx, rep_int ry, fin (ok_int hz) q⟩
  | sub =>
    refine OpR.imp op_sub fun x y H Q ⟨M, d, e, z, _, rx, ry, hz, q⟩ => ?_
    obtain ⟨i, j, rfl, rfl, hz⟩ := op2_ints hz
    exact ⟨i, j, rep_int rx, rep_int ry, fin (ok_int hz) q⟩
  | mul =>
    refine OpR.imp op_mulX fun x y H Q ⟨M, d, e, z, _, rx, ry, hz, q⟩ => ?_
    obtain ⟨i, j, rfl, rfl, hz⟩ := op2_ints hz
    obtain ⟨c, hz⟩ := bif_ok hz
    exact ⟨i, j, rep_int rx, rep_int ry, mul_ok c, fin hz q⟩
  | fdiv =>
    refine OpR.imp op_fdivG fun x y H Q ⟨M, d, e, z, _, rx, ry, hz, q⟩ => ?_
    obtain ⟨i, j, rfl, rfl, hz⟩ := op2_ints hz
    obtain ⟨c, hz⟩ := bif_ok hz
    obtain ⟨c1, c2⟩ := ba c
    exact ⟨i, j, rep_int rx, rep_int ry, ⟨of_decide_eq_true c1, of_decide_eq_true c2⟩, fin hz q⟩
  | mod =>
    refine OpR.imp (OpR.or op_mod op_modN) fun x y H Q ⟨M, d, e, z, _, rx, ry, hz, q⟩ => ?_
    obtain ⟨i, j, rfl, rfl, hy⟩ := op2_ints hz
    by_cases h1 : 0 < j
    · have e1 : op2i .mod i j = .ok (.int (i % j)) := by show (bif decide (0 < j) then _ else _) = _; rw [decide_eq_true h1]; rfl
      rw [e1] at hy
      exact .inl ⟨i, j, rep_int rx, rep_int ry, h1, fin (ok_int hy) q⟩
    · by_cases h2 : j = 0
      · have e1 : op2i .mod i j = .bad := by show (bif decide (0 < j) then _ else (bif decide (j = 0) then _ else _)) = _; rw [decide_eq_false h1, decide_eq_true h2]; rfl
        rw [e1] at hy; cases hy
      · have e1 : op2i .mod i j = .ok (.int (i.fmod j)) := by show (bif decide (0 < j) then _ else (bif decide (j = 0) then _ else _)) = _; rw [decide_eq_false h1, decide_eq_false h2]; rfl
        rw [e1] at hy
        exact .inr ⟨i, j, rep_int rx, rep_int ry, h2, fin (ok_int hy) q⟩
  | pow =>
    refine OpR.imp op_powG fun x y H Q ⟨M, d, e, z, _, rx, ry, hz, q⟩ => ?_
    obtain ⟨i, j, rfl, rfl, hz⟩ := op2_ints hz
    obtain ⟨c, hz⟩ := bif_ok hz
    obtain ⟨c1, c2⟩ := ba c
    exact ⟨i, j, rep_int rx, rep_int ry, ⟨of_decide_eq_true c1, of_decide_eq_true c2⟩, fin hz q⟩
  | shl =>
    refine OpR.imp op_shlW fun x y H Q ⟨M, d, e, z, _, rx, ry, hz, q⟩ => ?_
    obtain ⟨i, j, rfl, rfl, hz⟩ := op2_ints hz
    obtain ⟨c, hz⟩ := bif_ok hz
    obtain ⟨c1, c2⟩ := ba c
    exact ⟨i, j, rep_int rx, rep_int ry, ⟨of_decide_eq_true c1, of_decide_eq_true c2⟩, fin hz q⟩
  | shr =>
    refine OpR.imp op_shr fun x y H Q ⟨M, d, e, z, _, rx, ry, hz, q⟩ => ?_
    obtain ⟨i, j, rfl, rfl, hz⟩ := op2_ints hz
    obtain ⟨c, hz⟩ := bif_ok hz
    exact ⟨i, j, rep_int rx, rep_int ry, of_decide_eq_true c, fin hz q⟩
  | band =>
    refine OpR.imp op_and fun x y H Q ⟨M, d, e, z, _, rx, ry, hz, q⟩ => ?_
    obtain ⟨i, j, rfl, rfl, hz⟩ := op2_ints hz
    exact ⟨i, j, rep_int rx, rep_int ry, fin (ok_int hz) q⟩
  | bor =>
    refine OpR.imp op_or fun x y H Q ⟨M, d, e, z, _, rx, ry, hz, q⟩ => ?_
    obtain ⟨i, j, rfl, rfl, hz⟩ := op2_ints hz
    exact ⟨i, j, rep_int rx, rep_int ry, fin (ok_int hz) q⟩
  | bxor =>
    refine OpR.imp op_xor fun x y H Q ⟨M, d, e, z, _, rx, ry, hz, q⟩ => ?_
    obtain ⟨i, j, rfl, rfl, hz⟩ := op2_ints hz
    exact ⟨i, j, rep_int rx, rep_int ry, fin (ok_int hz) q⟩
/-- x op= y gives the same -/
theorem iop_add_all : OpR X (inplaceOp .Add) (r2 X.K (op2 .add)) := by
  refine OpR.imp iop_add fun x y H Q ⟨M, d, e, z, _, rx, ry, hz, q⟩ => ?_
  obtain ⟨i, j, rfl, rfl, hz⟩ := op2_ints hz
  obtain rfl := ok_int hz
  exact ⟨i, j, rep_int rx, rep_int ry, q _ _ (Same.refl _) (.int _)⟩
theorem cm_ints {o : Cm} {d e z : D} (h : cm2 o d e = .ok z) (h1 : o ≠ .eq) (h2 : o ≠ .ne) (h3 : o ≠ .is) (h4 : o ≠ .isnot) : ∃ i j, d = .int i ∧ e = .int j ∧ cm2i o i j = .ok z := by
  unfold cm2 at h
  split at h
  · exact absurd rfl h1
  · exact absurd rfl h2
  · exact absurd rfl h3
  · exact absurd rfl h4
  · split at h
    · exact ⟨_, _, rfl, rfl, h⟩
    · cases h
theorem bind_okB {r : R Bool} {f : Bool → Bool} {z : D} (h : (r.bind fun k => R.ok (PyData.bool (f k))) = .ok z) : ∃ k, r = .ok k ∧ z = .bool (f k) := by
  cases r with
  | bad => cases h
  | exc c => cases h
  | ok k => exact ⟨k, rfl, by cases h; rfl⟩
theorem eqG_ok {d e : D} {k : Bool} (h : eqG d e = .ok k) : SeqAt.shaped d = true ∧ SeqAt.shaped e = true ∧ k = PyData.eqv d e := by
  unfold eqG at h
  cases c : (SeqAt.shaped d && SeqAt.shaped e) with
  | true =>
    rw [c] at h
    obtain ⟨c1, c2⟩ := ba c
    exact ⟨c1, c2, by cases h; rfl⟩
  | false => rw [c] at h; cases h
theorem isG_ok {d e : D} {k : Bool} (h : isG d e = .ok k) : (∃ a b, d = .bool a ∧ e = .bool b ∧ k = decide (a = b)) ∨ (e = .none ∧ k = isNon d) := by
  unfold isG at h
  split at h
  · exact .inl ⟨_, _, rfl, rfl, by cases h; rfl⟩
  · exact .inr ⟨rfl, by cases h; rfl⟩
  · cases h
theorem rep_non {K : PySem.W.Frag} {H : Hp} {d : D} {v : V} (r : Rep K H d v) : decide (v = .non) = isNon d := by
  cases r <;> rfl
theorem cm_all (hu : X.A.units + 64 < cLine) (o : Cm) : OpR X (compareOp (cmA o)) (r2 X.K (cm2 o)) := by
  have fin : ∀ {M : Addr → Prop} {H : Hp} {z : D} {i : Bool} {Q : VK}, z = .bool i → (∀ v H', Same H H' → Rep X.K (mask M H') z v → Q v H') → Q (.bl i) H := fun {M H z i Q} e q => by
    subst e
    exact q _ _ (Same.refl _) (.bl _)
  cases o with
  | lt =>
    refine OpR.imp op_lt fun x y H Q ⟨M, d, e, z, _, rx, ry, hz, q⟩ => ?_
    obtain ⟨i, j, rfl, rfl, hz⟩ := cm_ints hz (fun q => nomatch q) (fun q => nomatch q) (fun q => nomatch q) (fun q => nomatch q)
    exact ⟨i, j, rep_int rx, rep_int ry, fin (ok_bool hz) q⟩
  | le =>
    refine OpR.imp op_le fun x y H Q ⟨M, d, e, z, _, rx, ry, hz, q⟩ => ?_
    obtain ⟨i, j, rfl, rfl, hz⟩ := cm_ints hz (fun q => nomatch q) (fun q => nomatch q) (fun q => nomatch q) (fun q => nomatch q)
    exact ⟨i, j, rep_int rx, rep_int ry, fin (ok_bool hz) q⟩
  | gt =>
    refine OpR.imp op_gt fun x y H Q ⟨M, d, e, z, _, rx, ry, hz, q⟩ => ?_
    obtain ⟨i, j, rfl, rfl, hz⟩ := cm_ints hz (fun q => nomatch q) (fun q => nomatch q) (fun q => nomatch q) (fun q => nomatch q)
    exact ⟨i, j, rep_int rx, rep_int ry, fin (ok_bool hz) q⟩
  | ge =>
    refine OpR.imp op_ge fun x y H Q ⟨M, d, e, z, _, rx, ry, hz, q⟩ => ?_
    obtain ⟨i, j, rfl, rfl, hz⟩ := cm_ints hz (fun q => nomatch q) (fun q => nomatch q) (fun q => nomatch q) (fun q => nomatch q)
    exact ⟨i, j, rep_int rx, rep_int ry, fin (ok_bool hz) q⟩
  | eq =>
    refine OpR.imp (op_eqD hu) fun x y H Q ⟨M, d, e, z, _, rx, ry, hz, q⟩ => ?_
    obtain ⟨k, hk, hz⟩ := bind_okB (f := fun k => k) hz
    obtain ⟨s1, s2, rfl⟩ := eqG_ok hk
    exact ⟨d, e, (rx.mono mask_le).dp, (ry.mono mask_le).dp, s1, s2, fin hz q⟩
  | ne =>
    refine OpR.imp (op_neD hu) fun x y H Q ⟨M, d, e, z, _, rx, ry, hz, q⟩ => ?_
    obtain ⟨k, hk, hz⟩ := bind_okB (f := fun k => !k) hz
    obtain ⟨s1, s2, rfl⟩ := eqG_ok hk
    exact ⟨d, e, (rx.mono mask_le).dp, (ry.mono mask_le).dp, s1, s2, fin hz q⟩
  | is =>
    refine OpR.imp (op_isBl.or op_isN) fun x y H Q ⟨M, d, e, z, _, rx, ry, hz, q⟩ => ?_
    obtain ⟨k, hk, hz⟩ := bind_okB (f := fun k => k) hz
    rcases isG_ok hk with ⟨a, b, rfl, rfl, rfl⟩ | ⟨rfl, rfl⟩
    · exact .inl ⟨a, b, rep_bool rx, rep_bool ry, fin hz q⟩
    · refine .inr ⟨by cases ry; rfl, ?_⟩
      rw [rep_non rx]
      exact fin hz q
  | isnot =>
    refine OpR.imp (op_notBl.or op_notN) fun x y H Q ⟨M, d, e, z, _, rx, ry, hz, q⟩ => ?_
    obtain ⟨k, hk, hz⟩ := bind_okB (f := fun k => !k) hz
    rcases isG_ok hk with ⟨a, b, rfl, rfl, rfl⟩ | ⟨rfl, rfl⟩
    · exact .inl ⟨a, b, rep_bool rx, rep_bool ry, fin hz q⟩
    · refine .inr ⟨by cases ry; rfl, ?_⟩
      rw [rep_non rx]
      exact fin hz q
theorem atI_rep {K : PySem.W.Frag} {H : Hp} {ds : List D} {vs : List V} {i : Int} {d : D} (r : Reps K H ds vs) (h : atI ds i = some d) : ∃ v, atI vs i = some v ∧ Rep K H d v := by
  unfold atI at h ⊢
  rw [← r.length]
  cases e : ixN ds.length i with
  | none => rw [e] at h; cases h
  | some j =>
    rw [e] at h
    exact r.get h
theorem ix_all : IxR X (r2 X.K ixD) := by
  refine IxR.imp (ix_list.or ix_tup) fun x y H Q ⟨M, d, e, z, _, rx, ry, hz, q⟩ => ?_
  unfold ixD at hz
  split at hz
  · rename_i ds i
    cases rx with
    | lst hs hr =>
      cases ha : atI ds i with
      | none => rw [ha] at hz; cases hz
      | some d' =>
        rw [ha] at hz
        obtain rfl : d' = z := by cases hz; rfl
        obtain ⟨v, hv, rv⟩ := atI_rep hr ha
        exact .inl ⟨_, _, i, v, rfl, rep_int ry, Same.seq mask_le hs, hv, q _ _ (Same.refl _) rv⟩
  · rename_i ds i
    cases rx with
    | tup hs hr =>
      cases ha : atI ds i with
      | none => rw [ha] at hz; cases hz
      | some d' =>
        rw [ha] at hz
        obtain rfl : d' = z := by cases hz; rfl
        obtain ⟨v, hv, rv⟩ := atI_rep hr ha
        exact .inr ⟨_, _, i, v, rfl, rep_int ry, same_seqT mask_le hs, hv, q _ _ (Same.refl _) rv⟩
  · cases hz
/-- a new object, tracked and seen -/
theorem new_seen {M : Addr → Prop} {H : Hp} {p : Addr} {o : HO} (dom : ∀ a, M a → H a ≠ none) (hp : H p = none) : mask M (upd H p o) p = some o := by
  rw [mask_neg (fun q => dom p q hp), upd_same]
theorem call_lenG : CallR X (.builtin "len") (rn X.K (biD .len)) := by
  refine CallR.imp call_len_seq fun xs H Q ⟨M, ds, z, _, r, hz, q⟩ => ?_
  unfold biD at hz
  split at hz <;> try (first | (cases hz; done) | contradiction)
  · cases r with
    | cons r1 r2 =>
      cases r2
      cases r1 with
      | @lst _ vs _ hs hr =>
        cases hz
        refine ⟨_, vs, rfl, .inl (Same.seq mask_le hs), ?_⟩
        rw [← hr.length]
        exact q _ _ (Same.refl _) (.int _)
  · cases r with
    | cons r1 r2 =>
      cases r2
      cases r1 with
      | @tup _ vs _ hs hr =>
        cases hz
        refine ⟨_, vs, rfl, .inr (same_seqT mask_le hs), ?_⟩
        rw [← hr.length]
        exact q _ _ (Same.refl _) (.int _)
end
end FT

namespace FT
open PySem PySem.Spec PyProof.Rows L2
section
variable {X : Cx}
theorem reps_one {K : PySem.W.Frag} {H : Hp} {d : D} {xs : List V} (r : Reps K H [d] xs) : ∃ v, xs = [v] ∧ Rep K H d v := by
  cases r with
  | cons r1 r2 => cases r2; exact ⟨_, rfl, r1⟩
theorem reps_two {K : PySem.W.Frag} {H : Hp} {d e : D} {xs : List V} (r : Reps K H [d, e] xs) : ∃ v w, xs = [v, w] ∧ Rep K H d v ∧ Rep K H e w := by
  cases r with
  | cons r1 r2 =>
    obtain ⟨w, rfl, r3⟩ := reps_one r2
    exact ⟨_, w, rfl, r1, r3⟩
theorem call_absG : CallR X (.builtin "abs") (rn X.K (biD .abs)) := by
  refine CallR.imp call_abs fun xs H Q ⟨M, ds, z, _, r, hz, q⟩ => ?_
  unfold biD at hz
  split at hz <;> try (first | (cases hz; done) | contradiction)
  obtain ⟨v, rfl, r1⟩ := reps_one r
  cases hz
  exact ⟨_, by rw [rep_int r1], q _ _ (Same.refl _) (.int _)⟩
def CDivG (i j : Int) : Prop := j ≠ 0 ∧ Builtin.divisionGoesByPylong i j = false
theorem call_divmodX : CallR X (.builtin "divmod") (fun xs H Q => ∃ i j, xs = [.int i, .int j] ∧ CDivG i j ∧ ∀ p, H p = none → Q (.ref p) (upd H p (.tup [.int (i.fdiv j), .int (i.fmod j)]))) := by
  intro pins s σ H xs us Q I r h
  obtain ⟨i, j, rfl, ⟨h1, h2⟩, q⟩ := h
  obtain ⟨u, w', rfl, ⟨t, rfl⟩, ⟨t', rfl⟩⟩ := vals2 r
  refine divmod_int (by omega) ?_ (.inl h2)
  have hn : H s.heap.objs.size = none := I.hok.fresh (Nat.le_refl _)
  refine ⟨.ref s.heap.objs.size, _, ?_, rfl, q _ hn⟩
  refine I.laid (fun b o e => Heap.get?_push_of_some _ e) (Nat.le_refl _) ⟨by simp only [List.length_cons, List.length_nil]; rw [sizeLine_eq]; decide, [.int (i.fdiv j) s.toks, .int (i.fmod j) (s.toks + 1)], .cons ⟨_, rfl⟩ (.cons ⟨_, rfl⟩ .nil), ?_⟩
  exact ⟨_, Heap.get?_push_size s.heap rfl, rfl, 0, rfl⟩
theorem call_divmodG : CallR X (.builtin "divmod") (rn X.K (biD .divmod)) := by
  refine CallR.imp call_divmodX fun xs H Q ⟨M, ds, z, dom, r, hz, q⟩ => ?_
  unfold biD at hz
  split at hz <;> try (first | (cases hz; done) | contradiction)
  rename_i i j _
  obtain ⟨v, w, rfl, r1, r2⟩ := reps_two r
  rw [rep_int r1, rep_int r2]
  have fin : z = .tuple [.int (i.fdiv j), .int (i.fmod j)] → ∀ p, H p = none → Q (.ref p) (upd H p (.tup [.int (i.fdiv j), .int (i.fmod j)])) := fun e p hp => by
    subst e
    exact q _ _ (same_upd hp) (.tup (SqT.of (new_seen dom hp)) (.cons (.int _) (.cons (.int _) .nil)))
  cases c : divOk j with
  | true =>
    rw [c] at hz
    obtain ⟨c1, c2⟩ := ba c
    have h1 := of_decide_eq_true c1
    refine ⟨i, j, rfl, ⟨by omega, PyProof.noPylong_of_log2 (of_decide_eq_true c2)⟩, fin ?_⟩
    rw [Int.fdiv_eq_ediv_of_nonneg i (by omega), Int.fmod_eq_emod_of_nonneg i (by omega)]
    cases hz; rfl
  | false =>
    rw [c] at hz
    obtain ⟨c, hz⟩ := bif_ok hz
    obtain ⟨c1, c2⟩ := ba c
    have h1 := of_decide_eq_true c1
    exact ⟨i, j, rfl, ⟨by omega, PyProof.noPylong_of_log2 (of_decide_eq_true c2)⟩, fin hz⟩
theorem call_tupleG : CallR X (.type "tuple") (rn X.K (biD .tuple)) := by
  refine CallR.imp call_tuple_of fun xs H Q ⟨M, ds, z, dom, r, hz, q⟩ => ?_
  unfold biD at hz
  split at hz <;> try (first | (cases hz; done) | contradiction)
  · obtain ⟨v, rfl, r1⟩ := reps_one r
    cases r1 with
    | @lst a vs ds hs hr =>
      cases hz
      refine ⟨a, vs, rfl, .inl ⟨Same.seq mask_le hs, fun l hl => q _ _ (same_upd hl) (.tup (SqT.of (new_seen dom hl)) (hr.mono (mask_same (same_upd hl) fun _ z => .inl z)))⟩⟩
  · obtain ⟨v, rfl, r1⟩ := reps_one r
    cases r1 with
    | @tup a vs ds hs hr =>
      cases hz
      exact ⟨a, vs, rfl, .inr ⟨same_seqT mask_le hs, q _ _ (Same.refl _) (.tup hs hr)⟩⟩
def tyN : Ty → String
  | .int => "int" | .bool => "bool" | .tuple => "tuple" | .list => "list" | .str => "str" | .dict => "dict"
theorem kit_all (u t : Ty) : kitB (tyN u) (tyN t) = some (decide (u = t) || (decide (u = .bool) && decide (t = .int))) := by
  cases u <;> cases t <;> decide +kernel
theorem rep_ty {K : PySem.W.Frag} {H : Hp} {d : D} {v : V} {u : Ty} (r : Rep K H d v) (h : tyOf d = some u) : TyX K H v (.type (tyN u)) := by
  cases r with
  | non => cases h
  | bl b => cases h; exact .base (.bl b)
  | int i => cases h; exact .base (.int i)
  | str x => cases h; exact .base (.str x)
  | lst hs hr =>
    cases h
    rcases hs with (hs | ⟨o, hs⟩) | ⟨o, its, n, h1, h2, _⟩
    · exact .base (.lst hs)
    · exact .base (.frz hs)
    · exact .kList h1 h2
  | tup hs hr =>
    cases h
    rcases hs with (hs | ⟨o, hs⟩) | ⟨o, its, n, h1, h2, _⟩
    · exact .base (.tup hs)
    · exact .fTuple hs
    · exact .kTuple h1 h2
/-- built-in names that no module of ours binds -/
def bltL : List Str := ["len", "abs", "divmod", "tuple", "isinstance", "int", "bool", "list", "str", "dict", "range", "sorted", "max", "min", "enumerate"]
def bltOk (x : Str) (u : Value) : Prop := bootBuiltins x = some u
theorem boot_ty (t : Ty) : bootBuiltins (tyA t) = some (.type (tyN t)) := by cases t <;> decide +kernel
theorem ty_mem (t : Ty) : tyA t ∈ bltL := by cases t <;> decide +kernel
theorem ty_name (t : Ty) : tyA t ≠ "__name__" := by cases t <;> decide +kernel
/-! ### where one stands -/
def FnB (P : Program) (w : World) (K : PySem.W.Frag) (mg : Str → Option Value) (base : Heap) (k : Nat) (cl : Nat → Value) (x : Str) (f : List D → R D) : Prop :=
  ∃ (a : Addr) (fd : FuncData) (ps : List Str) (sp : Sp), mg x = some (.ref a) ∧ PySem.W.keepIn K (.ref a) = true ∧ Binds K fd ps [] ∧ FnOk P w K mg base (L2.CX P w) k a fd ps sp ∧
    ∀ (B : Addr → Prop) (H : Hp) (ds : List D) (vs : List V) (Q : VK) (E : XK), (∀ b, B b → ∃ o, H b = some o) → Reps K (mask B H) ds vs →
      (match f ds with
        | .bad => False
        | .exc c => ∀ H', Same H H' → E (cl c) none H'
        | .ok d => ∀ v H', Same H H' → Rep K (mask B H') d v → Q v H') → sp vs H Q E
structure Sd (X : Cx) (c : Ctx) (G : Ge) (k : Nat) (p : Pa) : Prop where
  hK : p.K = X.K
  hN : X.N = c.N
  nd : c.N.Nodup
  sc : X.env.scope = c.sc
  fn : ∀ x, X.fn x = true
  calm : X.calm = true
  room : Room k X.A
  tk : Takes X p.W
  pw : PassesOwn (model X.prog X.w) X.A X.env X.xe
  fns : ∀ (j : Nat) (x : Str), c.fns[j]? = some x → ∃ f, G.fn[j]? = some f ∧ FnB X.prog X.w X.K X.mg X.base k p.cl x f
  cons : ∀ (j : Nat) (x : Str), c.cons[j]? = some x → ∃ d v u, G.co[j]? = some d ∧ X.mg x = some u ∧ RelV v u ∧ ∀ H, Rep X.K H d v
  excs : ∀ (j : Nat) (x : Str), c.excs.lookup j = some x → ∃ C, X.mg x = some (.ref C) ∧ p.cl j = .ref C ∧ PySem.W.excIn X.K C He.veBase "ValueError.__new__" = true ∧ PySem.W.keepIn X.K (.ref C) = true ∧ Raises X (.ref C)
  blt : ∀ x ∈ bltL, X.mg x = none
section
variable {c : Ctx} {G : Ge} {k : Nat} {p : Pa}
theorem Sd.gl (S : Sd X c G k p) {x : Str} (h : c.gl x = true) : Gl X x ∧ (x == ("__debug__" : Str)) = false := by
  obtain ⟨h1, h2⟩ := gl_ok h
  refine ⟨?_, h2⟩
  show X.env.scope.names.lookup x = _
  rw [S.sc]
  exact h1
theorem Sd.vis (S : Sd X c G k p) {i : Nat} {x : Str} {pos : Pos} (h : c.vis i x = true) : PE X (.Name x pos) (tVar i) := by
  obtain ⟨h1, h2, h3, h4⟩ := vis_ok h
  exact pe_var (by rw [S.hN]; exact h1) (by rw [S.sc]; exact h2) h3 h4
theorem Sd.loc (S : Sd X c G k p) {i : Nat} {x : Str} (h : c.loc i x = true) : X.N[i]? = some x ∧ Loc X.env.scope x := by
  obtain ⟨h1, h2⟩ := loc_ok h
  exact ⟨by rw [S.hN]; exact h1, by rw [S.sc]; exact h2⟩
theorem Sd.ndX (S : Sd X c G k p) : X.N.Nodup := by rw [S.hN]; exact S.nd
/-! ### expressions -/
theorem snd_const {e : Expr} {v : V} {d : D} (h : PE X e (tC v)) (r : ∀ H, Rep p.K H d v) {rf : En → R D} (hr : ∀ ρ, rf ρ = .ok d) : PE X e (tD p rf) :=
  PE.imp h fun σ H Q ⟨hd, O, ρ, st, q⟩ => by
    rw [hr ρ] at q
    exact q v H (Same.refl _) (r _)
theorem snd_v (S : Sd X c G k p) {i : Nat} {x : Str} {pos : Pos} (h : c.vis i x = true) : PE X (.Name x pos) (tD p (evE G (.v i))) := by
  refine PE.imp (S.vis h) fun σ H Q ⟨hd, O, ρ, st, q⟩ => ?_
  unfold evE at q
  split at q
  · rename_i d e
    obtain ⟨v, h1, h2⟩ := st.sh i d e
    exact ⟨v, h1, q v H (Same.refl _) h2⟩
  · exact False.elim q
theorem fin2 {F : D → D → R D} {O : Nat → Option Addr} {hd : Hold} {ρ : En} {σ : L2.St} {H : Hp} {Q : VK} {x y : D} {vx vy : V} (st : p.St hd O ρ σ H) (rx : Rep p.K (p.M O H) x vx) (ry : Rep p.K (p.M O H) y vy) (q : post p (F x y) O σ H Q) (ne : ∀ n, F x y ≠ .exc n) :
    r2 p.K F vx vy H Q := by
  cases hf : F x y with
  | bad => rw [hf] at q; exact False.elim q
  | exc n => exact absurd hf (ne n)
  | ok z =>
    rw [hf] at q
    exact ⟨Bo p.B O, x, y, z, St_dom st, rx, ry, hf, q⟩
theorem two {xa xb : Ex} {F : D → D → R D} {ra : En → R D} (hr : ∀ ρ, ra ρ = (evE G xa ρ).bind fun x => (evE G xb ρ).bind fun y => F x y) (ne : ∀ x y n, F x y ≠ .exc n) {r : R2} (hr2 : ∀ x y H Q, r2 p.K F x y H Q → r x y H Q)
    {σ : L2.St} {H : Hp} {Q : VK} (h : tD p ra σ H Q) : tOp r (tD p (evE G xa)) (tD p (evE G xb)) σ H Q := by
  obtain ⟨hd, O, ρ, st, q⟩ := h
  rw [hr ρ] at q
  exact tD_bind st q fun x vx H1 _ s1 st1 r1 q1 => tD_bind st1 q1 fun y vy H2 _ s2 st2 r2 q2 => hr2 _ _ _ _ (fin2 st2 (r1.mono (M_grow s2)) r2 q2 (ne x y))
theorem bif_ne {c : Bool} {a : D} {n : Nat} (h : (bif c then (R.ok a) else .bad) = .exc n) : False := by cases c <;> cases h
theorem ne_op2 (o : Op2) (x y : D) (n : Nat) : op2 o x y ≠ .exc n := by
  intro h
  unfold op2 at h
  split at h
  · rename_i i j
    cases o with
    | mul => exact bif_ne (c := mulOk i j) h
    | fdiv => exact bif_ne (c := divOk j) h
    | mod =>
      unfold op2i at h
      dsimp only at h
      cases hc : decide (0 < j) with
      | true => rw [hc] at h; cases h
      | false =>
        rw [hc] at h
        dsimp only [cond_false] at h
        cases hc2 : decide (j = 0) <;> (rw [hc2] at h; cases h)
    | pow => exact bif_ne (c := powOk i j) h
    | shl => exact bif_ne (c := shlOk i j) h
    | shr => exact bif_ne (c := decide (0 ≤ j)) h
    | _ => cases h
  · cases h
theorem ne_cm2 (o : Cm) (x y : D) (n : Nat) : cm2 o x y ≠ .exc n := by
  intro h
  have h1 : ∀ f : Bool → Bool, ((eqG x y).bind fun k => R.ok (PyData.bool (f k))) ≠ .exc n := fun f h => by
    unfold eqG at h
    cases hc : (SeqAt.shaped x && SeqAt.shaped y) <;> (rw [hc] at h; cases h)
  have h2 : ∀ f : Bool → Bool, ((isG x y).bind fun k => R.ok (PyData.bool (f k))) ≠ .exc n := fun f h => by
    unfold isG at h
    split at h <;> cases h
  unfold cm2 at h
  split at h
  · exact h1 (fun k => k) h
  · exact h1 (fun k => !k) h
  · exact h2 (fun k => k) h
  · exact h2 (fun k => !k) h
  · split at h
    · unfold cm2i at h
      split at h <;> cases h
    · cases h
theorem ne_ix (x y : D) (n : Nat) : ixD x y ≠ .exc n := by
  intro h
  unfold ixD at h
  split at h
  · split at h <;> cases h
  · split at h <;> cases h
  · cases h
theorem snd_bin (S : Sd X c G k p) {o : Op2} {xa xb : Ex} {a b : Expr} {pos : Pos} (ha : PE X a (tD p (evE G xa))) (hb : PE X b (tD p (evE G xb))) : PE X (.BinOp a (opA o) b pos) (tD p (evE G (.bin o xa xb))) :=
  PE.imp (pe_op (op_all o) ha hb) fun σ H Q h => two (F := op2 o) (fun ρ => by rw [evE]) (ne_op2 o) (fun x y H Q q => by rw [← S.hK]; exact q) h
theorem snd_cmp (S : Sd X c G k p) {o : Cm} {xa xb : Ex} {a b : Expr} {pos : Pos} (ha : PE X a (tD p (evE G xa))) (hb : PE X b (tD p (evE G xb))) (hm : behindInMarks (cmA o) b = false) : PE X (.Compare a [cmA o] [b] pos) (tD p (evE G (.cmp o xa xb))) :=
  PE.imp (pe_cmpR (cm_all S.room.units o) ha hb hm) fun σ H Q h => two (F := cm2 o) (fun ρ => by rw [evE]) (ne_cm2 o) (fun x y H Q q => by rw [← S.hK]; exact q) h
theorem snd_ix (S : Sd X c G k p) {xa xb : Ex} {a b : Expr} {pos : Pos} (ha : PE X a (tD p (evE G xa))) (hb : PE X b (tD p (evE G xb))) (hp : PlainIx b) : PE X (.Subscript a b pos) (tD p (evE G (.ix xa xb))) :=
  PE.imp (pe_ix ix_all ha hb hp) fun σ H Q h => two (F := ixD) (fun ρ => by rw [evE]) ne_ix (fun x y H Q q => by rw [← S.hK]; exact q) h
theorem snd_ixo (S : Sd X c G k p) {i : Nat} {x : Str} {xb : Ex} {b : Expr} {pos pn : Pos} (h : c.vis i x = true) (hb : PE X b (tD p (evE G xb))) (hp : PlainIx b) : PE X (.Subscript (.Name x pn) b pos) (tD p (evE G (.ixo i xb))) := by
  refine PE.imp (pe_ix ix_list (S.vis h) hb hp) fun σ H Q ⟨hd, O, ρ, st, q⟩ => ?_
  rw [evE] at q
  split at q
  · rename_i ds e
    obtain ⟨a, vs, hO, hσ, ha, hr⟩ := st.ow i ds e
    refine ⟨.ref a, hσ, tD_bind st q fun y vy H1 _ s1 st1 r1 q1 => ?_⟩
    cases y with
    | int n =>
      unfold ixD at q1
      dsimp only at q1
      cases hx : atI ds n with
      | none => rw [hx] at q1; exact False.elim q1
      | some d =>
        rw [hx] at q1
        obtain ⟨v, hv, rv⟩ := atI_rep (hr.mono (M_grow s1)) hx
        exact ⟨a, vs, n, v, rfl, rep_int r1, SqL.of (s1 _ _ ha), hv, q1 _ _ (Same.refl _) rv⟩
    | _ => exact False.elim q1
  · exact False.elim q
theorem snd_neg {xa : Ex} {a : Expr} {pos : Pos} (ha : PE X a (tD p (evE G xa))) : PE X (.UnaryOp .USub a pos) (tD p (evE G (.neg xa))) := by
  refine PE.imp (pe_un un_neg ha) fun σ H Q ⟨hd, O, ρ, st, q⟩ => ?_
  rw [evE] at q
  refine tD_bind st q fun x v H1 _ s1 st1 r1 q1 => ?_
  cases x with
  | int i => exact ⟨i, rep_int r1, q1 _ _ (Same.refl _) (.int _)⟩
  | _ => exact False.elim q1
theorem snd_not {xa : Ex} {a : Expr} {pos : Pos} (ha : PE X a (tD p (evE G xa))) : PE X (.UnaryOp .Not a pos) (tD p (evE G (.not xa))) := by
  refine PE.imp (pe_not ha) fun σ H Q ⟨hd, O, ρ, st, q⟩ => ?_
  rw [evE] at q
  refine tD_bind st q fun x v H1 _ s1 st1 r1 q1 => ?_
  cases x with
  | bool i => exact ⟨i, rep_bool r1, q1 _ _ (Same.refl _) (.bl _)⟩
  | _ => exact False.elim q1
theorem snd_nil : PA X [] (tDs p (evEs G [])) := PA.imp pa_nil fun σ H Q ⟨hd, O, ρ, st, q⟩ => by
  rw [evEs] at q
  exact q [] H (Same.refl _) .nil
theorem snd_cons {x : Ex} {xs : List Ex} {e : Expr} {es : List Expr} (ha : PE X e (tD p (evE G x))) (hr : PA X es (tDs p (evEs G xs))) (hp : pH e = true) : PA X (e :: es) (tDs p (evEs G (x :: xs))) := by
  refine PA.imp (pa_cons ha hr (pH_star hp es)) fun σ H Q ⟨hd, O, ρ, st, q⟩ => ?_
  rw [evEs] at q
  exact tD_bindL st q fun d v H1 _ s1 st1 r1 q1 => tDs_bindL st1 q1 fun ds vs H2 _ s2 st2 r2 q2 => q2 _ _ (Same.refl _) (.cons (r1.mono (M_grow s2)) r2)
theorem snd_tup {xs : List Ex} {es : List Expr} {k1 : Nat} {pos : Pos} (h : PA X es (tDs p (evEs G xs))) (hl : ∀ ρ ds, evEs G xs ρ = .ok ds → ds.length ≤ 1000) : PE X (.Tuple es k1 pos) (tD p (evE G (.tup xs))) := by
  refine PE.imp (pe_tup h) fun σ H Q ⟨hd, O, ρ, st, q⟩ => ?_
  rw [evE] at q
  refine tDs_bind st q fun ds vs H1 e s1 st1 r1 q1 => ⟨?_, fun a ha => q1 _ _ (same_upd ha) (.tup (SqT.of (new_seen (St_dom st1) ha)) (r1.mono (mask_same (same_upd ha) fun _ z => .inl z)))⟩
  rw [← r1.length]
  exact Nat.le_of_lt (small1000 (hl ρ ds e))
theorem snd_lst {xs : List Ex} {es : List Expr} {pos : Pos} (h : PA X es (tDs p (evEs G xs))) (hl : ∀ ρ ds, evEs G xs ρ = .ok ds → ds.length ≤ 1000) : PE X (.List es pos) (tD p (evE G (.lst xs))) := by
  refine PE.imp (pe_lst h) fun σ H Q ⟨hd, O, ρ, st, q⟩ => ?_
  rw [evE] at q
  refine tDs_bind st q fun ds vs H1 e s1 st1 r1 q1 => ⟨?_, fun a ha => q1 _ _ (same_upd ha) (.lst (SqL.of (new_seen (St_dom st1) ha)) (r1.mono (mask_same (same_upd ha) fun _ z => .inl z)))⟩
  rw [← r1.length]
  exact Nat.le_of_lt (small1000 (hl ρ ds e))
theorem evEs_len {G : Ge} : ∀ (xs : List Ex) (ρ : En) (ds : List D), evEs G xs ρ = .ok ds → ds.length = xs.length
  | [], ρ, ds, h => by rw [evEs] at h; cases h; rfl
  | x :: xs, ρ, ds, h => by
    rw [evEs] at h
    cases h1 : evE G x ρ with
    | bad => rw [h1] at h; cases h
    | exc c => rw [h1] at h; cases h
    | ok d =>
      rw [h1] at h
      cases h2 : evEs G xs ρ with
      | bad => rw [h2] at h; cases h
      | exc c => rw [h2] at h; cases h
      | ok es =>
        rw [h2] at h
        cases h
        exact congrArg Nat.succ (evEs_len xs ρ es h2)
end
end
end FT

namespace FT
open PySem PySem.Spec PyProof.Rows L2
section
variable {X : Cx} {c : Ctx} {G : Ge} {k : Nat} {p : Pa}
/-! ### and, or -/
theorem snd_one {op : BoolOp} {x : Ex} {e : Expr} {pos : Pos} {rf : En → R D} (h : PE X e (tD p (evE G x))) (hr : ∀ ρ, rf ρ = evE G x ρ) : PE X (.BoolOp op [e] pos) (tD p rf) :=
  PE.imp (pe_one h) fun σ H Q ⟨hd, O, ρ, st, q⟩ => ⟨hd, O, ρ, st, by rw [← hr ρ]; exact q⟩
theorem snd_and2 {x : Ex} {e e2 : Expr} {es : List Expr} {pos : Pos} {rf rg : En → R D} (h : PE X e (tD p (evE G x))) (hs : PE X (.BoolOp .And (e2 :: es) pos) (tD p rg))
    (hr : ∀ ρ, rf ρ = (evE G x ρ).bind fun x => (match x with | .bool true => rg ρ | .bool false => .ok (.bool false) | _ => .bad)) : PE X (.BoolOp .And (e :: e2 :: es) pos) (tD p rf) := by
  refine PE.imp (pe_and h hs) fun σ H Q ⟨hd, O, ρ, st, q⟩ => ?_
  rw [hr ρ] at q
  refine tD_bind st q fun d v H1 _ s1 st1 r1 q1 => ?_
  cases d with
  | bool b =>
    refine ⟨b, rep_bool r1, ?_⟩
    cases b with
    | true => exact ⟨hd, O, ρ, st1, q1⟩
    | false => exact q1 _ _ (Same.refl _) (.bl _)
  | _ => exact False.elim q1
theorem snd_or2 {x : Ex} {e e2 : Expr} {es : List Expr} {pos : Pos} {rf rg : En → R D} (h : PE X e (tD p (evE G x))) (hs : PE X (.BoolOp .Or (e2 :: es) pos) (tD p rg))
    (hr : ∀ ρ, rf ρ = (evE G x ρ).bind fun x => (match x with | .bool false => rg ρ | .bool true => .ok (.bool true) | _ => .bad)) : PE X (.BoolOp .Or (e :: e2 :: es) pos) (tD p rf) := by
  refine PE.imp (pe_or h hs) fun σ H Q ⟨hd, O, ρ, st, q⟩ => ?_
  rw [hr ρ] at q
  refine tD_bind st q fun d v H1 _ s1 st1 r1 q1 => ?_
  cases d with
  | bool b =>
    refine ⟨b, rep_bool r1, ?_⟩
    cases b with
    | false => exact ⟨hd, O, ρ, st1, q1⟩
    | true => exact q1 _ _ (Same.refl _) (.bl _)
  | _ => exact False.elim q1
theorem snd_ife {xc xa xb : Ex} {e a b : Expr} {pos : Pos} (hc : PT X e (tDB p (evE G xc))) (ha : PE X a (tD p (evE G xa))) (hb : PE X b (tD p (evE G xb))) : PE X (.IfExp e a b pos) (tD p (evE G (.ife xc xa xb))) := by
  refine PE.imp (pe_ifExp hc ha hb) fun σ H Q ⟨hd, O, ρ, st, q⟩ => ?_
  rw [evE] at q
  refine ⟨hd, O, ρ, st, ?_⟩
  cases hr : evE G xc ρ with
  | bad => rw [hr] at q; exact q
  | exc n => rw [hr] at q; exact q
  | ok d =>
    rw [hr] at q
    cases d with
    | bool b =>
      cases b with
      | true => exact fun H1 s => ⟨hd, O, ρ, st.grow s, post_grow q s⟩
      | false => exact fun H1 s => ⟨hd, O, ρ, st.grow s, post_grow q s⟩
    | _ => exact q
/-! ### slices -/
def tPO (p : Pa) (rf : En → R (List D)) : TO := fun σ H Q => ∃ hd O ρ, p.St hd O ρ σ H ∧ (match (rf ρ).bind partD with
  | .bad => False
  | .exc c => ∀ H', Same H H' → p.W (p.cl c) none σ H'
  | .ok o => ∀ H', Same H H' → Q o H')
theorem PO.imp {e : Option Expr} {t t' : TO} (h : PO X e t) (f : ∀ σ H Q, t' σ H Q → t σ H Q) : PO X e t' := ⟨fun pins s σ H Q I q => h.run pins s σ H Q I (f _ _ _ q)⟩
theorem po_nil : PO X none (tPO p (evEs G [])) := PO.imp po_none fun σ H Q ⟨hd, O, ρ, st, q⟩ => by
  rw [evEs] at q
  exact q H (Same.refl _)
theorem po_ex {x : Ex} {e : Expr} (h : PE X e (tD p (evE G x))) : PO X (some e) (tPO p (evEs G [x])) := by
  refine PO.imp (po_some h) fun σ H Q ⟨hd, O, ρ, st, q⟩ => ⟨hd, O, ρ, st, ?_⟩
  rw [evEs] at q
  cases hr : evE G x ρ with
  | bad => rw [hr] at q; exact q
  | exc n => rw [hr] at q; exact q
  | ok d =>
    rw [hr, evEs] at q
    cases d with
    | int i => exact fun v H1 s r => ⟨i, rep_int r, q H1 s⟩
    | _ => exact False.elim q
theorem Reps.cut {K : PySem.W.Frag} {H : Hp} {ds : List D} {vs : List V} (r : Reps K H ds vs) (lo hi : Option Int) : Reps K H (cutD ds lo hi) (cutV vs lo hi) := by
  unfold cutD cutV
  rw [← r.length]
  exact (r.drop _).take _
theorem snd_sl (S : Sd X c G k p) {xa : Ex} {lo hi : List Ex} {a : Expr} {u w : Option Expr} {pos p2 : Pos} (ha : PE X a (tD p (evE G xa))) (hl : PO X u (tPO p (evEs G lo))) (hh : PO X w (tPO p (evEs G hi))) : PE X (.Subscript a (.Slice u w none p2) pos) (tD p (evE G (.sl xa lo hi))) := by
  refine PE.imp (pe_slice sl_list ha hl hh) fun σ H Q ⟨hd, O, ρ, st, q⟩ => ?_
  rw [evE] at q
  refine tD_bind st q fun d v H1 _ s1 st1 r1 q1 => ⟨hd, O, ρ, st1, ?_⟩
  -- both parts are read ahead of their use
  cases hlo : evEs G lo ρ with
  | bad => rw [hlo] at q1; exact False.elim q1
  | exc n => rw [hlo] at q1; exact q1
  | ok l =>
    rw [hlo] at q1
    dsimp only [R.bind] at q1 ⊢
    cases hpl : partD l with
    | bad => rw [hpl] at q1; exact q1
    | exc n => exact absurd hpl (by unfold partD; split <;> (intro q; cases q))
    | ok ol =>
      rw [hpl] at q1
      dsimp only [R.bind] at q1
      intro H2 s2
      refine ⟨hd, O, ρ, st1.grow s2, ?_⟩
      cases hhi : evEs G hi ρ with
      | bad => rw [hhi] at q1; exact False.elim q1
      | exc n => rw [hhi] at q1; exact fun H3 s3 => q1 H3 (s2.trans s3)
      | ok h =>
        rw [hhi] at q1
        dsimp only [R.bind] at q1 ⊢
        cases hph : partD h with
        | bad => rw [hph] at q1; exact q1
        | exc n => exact absurd hph (by unfold partD; split <;> (intro q; cases q))
        | ok oh =>
          rw [hph] at q1
          intro H3 s3
          cases d with
          | list ds =>
            have r3 := r1.mono (M_grow (O := O) (p := p) (s2.trans s3))
            cases r3 with
            | @lst b vs _ hs hr =>
              refine ⟨b, vs, rfl, by rw [← S.hK]; exact Same.seq mask_le hs, fun l hl => q1 _ _ ((s2.trans s3).trans (same_upd hl)) (.lst (SqL.of (new_seen (St_dom (st1.grow (s2.trans s3))) hl)) ((hr.cut ol oh).mono (mask_same (same_upd hl) fun _ z => .inl z)))⟩
          | _ => exact False.elim q1
/-! ### calls -/
theorem evEs_call {xs : Ex} {es : List Ex} {ρ : En} {F : List D → R D} : ((evE G xs ρ).bind fun d => (evEs G es ρ).bind fun ds => F (d :: ds)) = (evEs G (xs :: es) ρ).bind F := by
  rw [evEs]
  cases evE G xs ρ with
  | bad => rfl
  | exc n => rfl
  | ok d =>
    cases evEs G es ρ with
    | bad => rfl
    | exc n => rfl
    | ok ds => rfl
theorem snd_call (S : Sd X c G k p) {j : Nat} {xa : Ex} {xs : List Ex} {x : Str} {e : Expr} {es : List Expr} {pos pn : Pos} (hj : c.fns[j]? = some x) (hg : c.gl x = true) (ha : PA X (e :: es) (tDs p (evEs G (xa :: xs)))) (hp : pH e = true) (hpl : (backTo pos (starEach es X.env)).any (·.1) = false) :
    PE X (.Call (.Name x pn) (e :: es) [] pos) (tD p (evE G (.call j xa xs))) := by
  obtain ⟨f, hf, a, fd, ps, sp, hm, hk, hb, F, hsp⟩ := S.fns j x hj
  obtain ⟨h1, h2⟩ := S.gl hg
  refine PE.imp (pe_callS F S.room h1 hm hk hb (fun σ => passAt S.tk σ) ha h2 (pH_star hp es) hpl) fun σ H Q ⟨hd, O, ρ, st, q⟩ => ?_
  rw [evE, evEs_call] at q
  refine tDs_bind st q fun ds vs H1 _ s1 st1 r1 q1 => ?_
  refine hsp (Bo p.B O) H1 ds vs Q _ (fun b hb => ?_) (by rw [← S.hK]; exact r1) ?_
  · cases e : H1 b with
    | none => exact absurd e (St_dom st1 b hb)
    | some o => exact ⟨o, rfl⟩
  · have e2 : G.call j ds = f ds := by unfold Ge.call; rw [hf]
    rw [e2] at q1
    cases hfd : f ds with
    | bad => rw [hfd] at q1; exact q1
    | exc n => rw [hfd] at q1; exact q1
    | ok d => rw [hfd] at q1; rw [← S.hK]; exact q1
theorem ne_bi (b : Bi) (ds : List D) (n : Nat) : biD b ds ≠ .exc n := by
  intro h
  unfold biD at h
  split at h <;> try (cases h; done)
  rename_i i j
  cases hc : divOk j with
  | true => rw [hc] at h; cases h
  | false => rw [hc] at h; exact bif_ne (c := decide (j < 0) && decide (j.natAbs.log2 < 9000)) h
theorem bi_fin (S : Sd X c G k p) {b : Bi} {xa : Ex} {xs : List Ex} {r : List V → Hp → VK → Prop} (hr : ∀ xs H Q, rn X.K (biD b) xs H Q → r xs H Q) {σ : L2.St} {H : Hp} {Q : VK} (h : tD p (evE G (.bi b xa xs)) σ H Q) : tCB r (tDs p (evEs G (xa :: xs))) σ H Q := by
  obtain ⟨hd, O, ρ, st, q⟩ := h
  rw [evE, evEs_call] at q
  refine tDs_bind st q fun ds vs H1 _ s1 st1 r1 q1 => hr _ _ _ ?_
  cases hb : biD b ds with
  | bad => rw [hb] at q1; exact False.elim q1
  | exc n => exact absurd hb (ne_bi b ds n)
  | ok z => rw [hb] at q1; rw [← S.hK]; exact ⟨Bo p.B O, ds, z, St_dom st1, r1, hb, q1⟩
theorem bi_mem (b : Bi) : biA b ∈ bltL := by cases b <;> decide +kernel
theorem snd_bi (S : Sd X c G k p) {b : Bi} {xa : Ex} {xs : List Ex} {e : Expr} {es : List Expr} {pos pn : Pos} (hg : c.gl (biA b) = true) (ha : PA X (e :: es) (tDs p (evEs G (xa :: xs)))) (hp : pH e = true) (hpl : (backTo pos (starEach es X.env)).any (·.1) = false) :
    PE X (.Call (.Name (biA b) pn) (e :: es) [] pos) (tD p (evE G (.bi b xa xs))) := by
  obtain ⟨h1, h2⟩ := S.gl hg
  have hm := S.blt _ (bi_mem b)
  cases b with
  | len => exact PE.imp (pe_callB call_lenG h1 hm (by decide +kernel) ha (by decide +kernel) h2 (pH_star hp es) hpl) fun σ H Q h => bi_fin S (fun _ _ _ q => q) h
  | abs => exact PE.imp (pe_callB call_absG h1 hm (by decide +kernel) ha (by decide +kernel) h2 (pH_star hp es) hpl) fun σ H Q h => bi_fin S (fun _ _ _ q => q) h
  | divmod => exact PE.imp (pe_callB call_divmodG h1 hm (by decide +kernel) ha (by decide +kernel) h2 (pH_star hp es) hpl) fun σ H Q h => bi_fin S (fun _ _ _ q => q) h
  | tuple => exact PE.imp (pe_callTy call_tupleG h1 hm (by decide +kernel) ha (by decide +kernel) h2 (pH_star hp es) hpl) fun σ H Q h => bi_fin S (fun _ _ _ q => q) h
theorem snd_isi (S : Sd X c G k p) {t : Ty} {xa : Ex} {e : Expr} {pos pn pm : Pos} (hg : c.gl "isinstance" = true) (ht : c.gl (tyA t) = true) (ha : PE X e (tD p (evE G xa))) (hp : pH e = true) :
    PE X (.Call (.Name "isinstance" pn) [e, .Name (tyA t) pm] [] pos) (tD p (evE G (.isi xa t))) := by
  obtain ⟨h1, h2⟩ := S.gl hg
  obtain ⟨g1, g2⟩ := S.gl ht
  have hy : PE X (.Name (tyA t) pm) (tC (.ty (tyN t))) := pe_bltn g1 (S.blt _ (ty_mem t)) (boot_ty t) rfl (ty_name t) g2
  have hA : PA X [e, .Name (tyA t) pm] (tCons (tD p (evE G xa)) (tCons (tC (.ty (tyN t))) tNil)) := pa_cons ha (pa_cons hy pa_nil) (pH_star hp _)
  refine PE.imp (pe_callB call_isi h1 (S.blt _ (by decide +kernel)) (by decide +kernel) hA (by decide +kernel) h2 (pH_star hp _)) fun σ H Q ⟨hd, O, ρ, st, q⟩ => ?_
  rw [evE] at q
  refine tD_bind st q fun d v H1 _ s1 st1 r1 q1 => ?_
  unfold isiD at q1
  cases hd : tyOf d with
  | none => rw [hd] at q1; exact False.elim q1
  | some u =>
    rw [hd] at q1
    exact ⟨v, .ty (tyN t), _, _, _, rfl, .ty _, rep_ty (by rw [← S.hK]; exact r1.mono mask_le) hd, kit_ty (kit_all u t), q1 _ _ (Same.refl _) (.bl _)⟩
theorem snd_glob (S : Sd X c G k p) {j : Nat} {x : Str} {pn : Pos} (hj : c.cons[j]? = some x) (hg : c.gl x = true) : PE X (.Name x pn) (tD p (evE G (.glob j))) := by
  obtain ⟨d, v, u, hd, hm, hr, rep⟩ := S.cons j x hj
  obtain ⟨h1, h2⟩ := S.gl hg
  exact snd_const (pe_glob h1 hm hr h2) (fun H => by rw [S.hK]; exact rep H) fun ρ => by rw [evE, hd]
/-! ### tests -/
theorem tDB_tD {rf : En → R D} {σ : L2.St} {H : Hp} {Q : Bool → Hp → Prop} (h : tDB p rf σ H Q) : tD p rf σ H fun x H' => ∃ b, x = .bl b ∧ Q b H' := by
  obtain ⟨hd, O, ρ, st, q⟩ := h
  refine ⟨hd, O, ρ, st, ?_⟩
  cases hr : rf ρ with
  | bad => rw [hr] at q; exact q
  | exc n => rw [hr] at q; exact q
  | ok d =>
    rw [hr] at q
    cases d with
    | bool b => exact fun v H1 s r => ⟨b, rep_bool r, q H1 s⟩
    | _ => exact False.elim q
theorem tst_val {e : Expr} {rf : En → R D} (h : PE X e (tD p rf)) (he : ∀ whole, PySem.isTrue e X.env whole = (do let v ← whole; standAt e.pos; holding [v] (truthy v))) : PT X e (tDB p rf) :=
  PT.imp (pt_val h he) fun σ H Q q => tDB_tD q
theorem tst_cmp (S : Sd X c G k p) {o : Cm} {xa xb : Ex} {a b : Expr} {pos : Pos} (ha : PE X a (tD p (evE G xa))) (hb : PE X b (tD p (evE G xb))) (hm : behindInMarks (cmA o) b = false) : PT X (.Compare a [cmA o] [b] pos) (tDB p (evE G (.cmp o xa xb))) :=
  PT.imp (pt_cmpR (cm_all S.room.units o) ha hb hm) fun σ H Q h => two (F := cm2 o) (fun ρ => by rw [evE]) (ne_cm2 o) (fun x y H Q q => by rw [← S.hK]; exact q) (tDB_tD h)
theorem tst_not {xa : Ex} {a : Expr} {pos : Pos} (ha : PT X a (tDB p (evE G xa))) : PT X (.UnaryOp .Not a pos) (tDB p (evE G (.not xa))) := by
  refine PT.imp (pt_not ha) fun σ H Q ⟨hd, O, ρ, st, q⟩ => ⟨hd, O, ρ, st, ?_⟩
  rw [evE] at q
  cases hr : evE G xa ρ with
  | bad => rw [hr] at q; exact q
  | exc n => rw [hr] at q; exact q
  | ok d =>
    rw [hr] at q
    cases d with
    | bool b => exact q
    | _ => exact q
theorem tst_one {op : BoolOp} {x : Ex} {e : Expr} {pos : Pos} {rf : En → R D} (h : PT X e (tDB p (evE G x))) (hr : ∀ ρ, rf ρ = evE G x ρ) : PW X (.BoolOp op [e] pos) (tDB p rf) := by
  cases op with
  | And => exact PW.imp (pw_and1 h) fun σ H Q ⟨hd, O, ρ, st, q⟩ => ⟨hd, O, ρ, st, by rw [← hr ρ]; exact q⟩
  | Or => exact PW.imp (pw_or1 h) fun σ H Q ⟨hd, O, ρ, st, q⟩ => ⟨hd, O, ρ, st, by rw [← hr ρ]; exact q⟩
theorem tst_and2 {x : Ex} {e e2 : Expr} {es : List Expr} {pos : Pos} {rf rg : En → R D} (h : PT X e (tDB p (evE G x))) (hs : PW X (.BoolOp .And (e2 :: es) pos) (tDB p rg))
    (hr : ∀ ρ, rf ρ = (evE G x ρ).bind fun x => (match x with | .bool true => rg ρ | .bool false => .ok (.bool false) | _ => .bad)) : PW X (.BoolOp .And (e :: e2 :: es) pos) (tDB p rf) := by
  refine PW.imp (pw_and h hs) fun σ H Q ⟨hd, O, ρ, st, q⟩ => ⟨hd, O, ρ, st, ?_⟩
  rw [hr ρ] at q
  cases he : evE G x ρ with
  | bad => rw [he] at q; exact q
  | exc n => rw [he] at q; exact q
  | ok d =>
    rw [he] at q
    cases d with
    | bool b =>
      cases b with
      | true => exact fun H1 s => ⟨hd, O, ρ, st.grow s, postB_grow q s⟩
      | false => exact q
    | _ => exact q
theorem tst_or2 {x : Ex} {e e2 : Expr} {es : List Expr} {pos : Pos} {rf rg : En → R D} (h : PT X e (tDB p (evE G x))) (hs : PW X (.BoolOp .Or (e2 :: es) pos) (tDB p rg))
    (hr : ∀ ρ, rf ρ = (evE G x ρ).bind fun x => (match x with | .bool false => rg ρ | .bool true => .ok (.bool true) | _ => .bad)) : PW X (.BoolOp .Or (e :: e2 :: es) pos) (tDB p rf) := by
  refine PW.imp (pw_or h hs) fun σ H Q ⟨hd, O, ρ, st, q⟩ => ⟨hd, O, ρ, st, ?_⟩
  rw [hr ρ] at q
  cases he : evE G x ρ with
  | bad => rw [he] at q; exact q
  | exc n => rw [he] at q; exact q
  | ok d =>
    rw [he] at q
    cases d with
    | bool b =>
      cases b with
      | false => exact fun H1 s => ⟨hd, O, ρ, st.grow s, postB_grow q s⟩
      | true => exact q
    | _ => exact q
theorem tst_ife {xc xa xb : Ex} {e a b : Expr} {pos : Pos} (hc : PT X e (tDB p (evE G xc))) (ha : PT X a (tDB p (evE G xa))) (hb : PT X b (tDB p (evE G xb))) : PT X (.IfExp e a b pos) (tDB p (evE G (.ife xc xa xb))) := by
  refine ⟨fun pins s σ H Q I ⟨hd, O, ρ, st, q⟩ => ?_⟩
  have e1 : PySem.isTrue (.IfExp e a b pos) X.env (eval (.IfExp e a b pos) X.env) = (do if ← PySem.isTrue e X.env (eval e X.env) then PySem.isTrue a X.env (eval a X.env) else PySem.isTrue b X.env (eval b X.env)) := by rw [PySem.isTrue]
  rw [e1]
  rw [evE] at q
  refine wpAny_bind (thn (hc.run pins s σ H (fun t H1 => Same H H1 ∧ evE G xc ρ = .ok (.bool t)) I ⟨hd, O, ρ, st, ?_⟩) fun t s1 ⟨H1, I1, sm, q1⟩ => ?_)
  · cases he : evE G xc ρ with
    | bad => rw [he] at q; exact q
    | exc n => rw [he] at q; exact q
    | ok d =>
      rw [he] at q
      cases d with
      | bool t => exact fun H1 s => ⟨s, rfl⟩
      | _ => exact q
  · rw [q1] at q
    cases t with
    | true => exact ha.run pins s1 σ H1 Q I1 ⟨hd, O, ρ, st.grow sm, postB_grow q sm⟩
    | false => exact hb.run pins s1 σ H1 Q I1 ⟨hd, O, ρ, st.grow sm, postB_grow q sm⟩
end
end FT

namespace FT
open PySem PySem.Spec PyProof.Rows L2
section
variable {X : Cx} {c : Ctx} {G : Ge} {k : Nat} {p : Pa}
mutual
theorem sndE (S : Sd X c G k p) : ∀ (x : Ex) (e : Expr), chkE c x e = true → PE X e (tD p (evE G x))
  | .v i, e, h => by
    unfold chkE at h
    obtain ⟨h0, h⟩ := ba h
    split at h
    · exact snd_v S h
    · cases h
  | .int n, e, h => by
    unfold chkE at h
    obtain ⟨h0, h⟩ := ba h
    split at h
    · obtain rfl := of_decide_eq_true h
      exact snd_const pe_int (fun _ => .int _) fun ρ => by rw [evE]
    · cases h
  | .bl b, e, h => by
    unfold chkE at h
    obtain ⟨h0, h⟩ := ba h
    split at h
    · obtain rfl := of_decide_eq_true h
      exact snd_const pe_bl (fun _ => .bl _) fun ρ => by rw [evE]
    · cases h
  | .non, e, h => by
    unfold chkE at h
    obtain ⟨h0, h⟩ := ba h
    split at h
    · exact snd_const pe_non (fun _ => .non) fun ρ => by rw [evE]
    · cases h
  | .str s, e, h => by
    unfold chkE at h
    obtain ⟨h0, h⟩ := ba h
    split at h
    · obtain rfl := of_decide_eq_true h
      exact snd_const pe_str (fun _ => .str _) fun ρ => by rw [evE]
    · cases h
  | .glob j, e, h => by
    unfold chkE at h
    obtain ⟨h0, h⟩ := ba h
    split at h
    · obtain ⟨h1, h2⟩ := ba h
      exact snd_glob S (of_decide_eq_true h1) h2
    · cases h
  | .bin o a b, e, h => by
    unfold chkE at h
    obtain ⟨h0, h⟩ := ba h
    split at h
    · obtain ⟨h1, h⟩ := ba h
      obtain ⟨h2, h3⟩ := ba h
      obtain rfl := of_decide_eq_true h1
      exact snd_bin S (sndE S a _ h2) (sndE S b _ h3)
    · cases h
  | .neg a, e, h => by
    unfold chkE at h
    obtain ⟨h0, h⟩ := ba h
    split at h
    · obtain ⟨h1, h2⟩ := ba h
      obtain rfl := of_decide_eq_true h1
      exact snd_neg (sndE S a _ h2)
    · cases h
  | .not a, e, h => by
    unfold chkE at h
    obtain ⟨h0, h⟩ := ba h
    split at h
    · obtain ⟨h1, h2⟩ := ba h
      obtain rfl := of_decide_eq_true h1
      exact snd_not (sndE S a _ h2)
    · cases h
  | .and a es, e, h => by
    unfold chkE at h
    obtain ⟨h0, h⟩ := ba h
    split at h
    · rename_i q v vs pos _
      obtain ⟨h1, h⟩ := ba h
      obtain ⟨h2, h⟩ := ba h
      obtain ⟨h3, h4⟩ := ba h
      obtain rfl := of_decide_eq_true h1
      cases es with
      | nil => cases h4
      | cons x xs =>
        cases vs with
        | nil => unfold chkEs at h3; cases h3
        | cons w ws => exact snd_and2 (sndE S a _ h2) (sndAnd S (x :: xs) (w :: ws) (fun q => by cases q) h3 pos) fun ρ => by rw [evE] <;> exact rfl
    · cases h
  | .or a es, e, h => by
    unfold chkE at h
    obtain ⟨h0, h⟩ := ba h
    split at h
    · rename_i q v vs pos _
      obtain ⟨h1, h⟩ := ba h
      obtain ⟨h2, h⟩ := ba h
      obtain ⟨h3, h4⟩ := ba h
      obtain rfl := of_decide_eq_true h1
      cases es with
      | nil => cases h4
      | cons x xs =>
        cases vs with
        | nil => unfold chkEs at h3; cases h3
        | cons w ws => exact snd_or2 (sndE S a _ h2) (sndOr S (x :: xs) (w :: ws) (fun q => by cases q) h3 pos) fun ρ => by rw [evE] <;> exact rfl
    · cases h
  | .cmp o a b, e, h => by
    unfold chkE at h
    obtain ⟨h0, h⟩ := ba h
    split at h
    · obtain ⟨h1, h⟩ := ba h
      obtain ⟨h2, h3⟩ := ba h
      obtain rfl := of_decide_eq_true h1
      exact snd_cmp S (sndE S a _ h2) (sndE S b _ h3) (pH_mark (chk_pH h3) _)
    · cases h
  | .tup es, e, h => by
    unfold chkE at h
    obtain ⟨h0, h⟩ := ba h
    split at h
    · obtain ⟨h1, h2⟩ := ba h
      exact snd_tup (sndEs S es _ h1) fun ρ ds q => by rw [evEs_len es ρ ds q]; exact of_decide_eq_true h2
    · cases h
  | .lst es, e, h => by
    unfold chkE at h
    obtain ⟨h0, h⟩ := ba h
    split at h
    · obtain ⟨h1, h2⟩ := ba h
      exact snd_lst (sndEs S es _ h1) fun ρ ds q => by rw [evEs_len es ρ ds q]; exact of_decide_eq_true h2
    · cases h
  | .ix a b, e, h => by
    unfold chkE at h
    obtain ⟨h0, h⟩ := ba h
    split at h
    · obtain ⟨h1, h2⟩ := ba h
      exact snd_ix S (sndE S a _ h1) (sndE S b _ h2) (pH_ix (chk_pH h2))
    · cases h
  | .ixo i b, e, h => by
    unfold chkE at h
    obtain ⟨h0, h⟩ := ba h
    split at h
    · split at h
      · obtain ⟨h1, h2⟩ := ba h
        exact snd_ixo S h1 (sndE S b _ h2) (pH_ix (chk_pH h2))
      · cases h
    · cases h
  | .sl a lo hi, e, h => by
    unfold chkE at h
    obtain ⟨h0, h⟩ := ba h
    split at h
    · rename_i l u w _ _ _
      obtain ⟨h1, h⟩ := ba h
      obtain ⟨h2, h3⟩ := ba h
      have f1 : PO X u (tPO p (evEs G lo)) := by
        cases u with
        | none =>
          cases lo with
          | nil => exact po_nil
          | cons x xs => cases h2
        | some u =>
          match lo, h2 with
          | [], h2 => unfold chkEs at h2; cases h2
          | [x], h2 =>
            unfold chkEs at h2
            exact po_ex (sndE S x _ (ba h2).1)
          | x :: y :: r, h2 =>
            unfold chkEs at h2
            obtain ⟨_, h2⟩ := ba h2
            unfold chkEs at h2
            cases h2
      have f2 : PO X w (tPO p (evEs G hi)) := by
        cases w with
        | none =>
          cases hi with
          | nil => exact po_nil
          | cons x xs => cases h3
        | some w =>
          match hi, h3 with
          | [], h3 => unfold chkEs at h3; cases h3
          | [x], h3 =>
            unfold chkEs at h3
            exact po_ex (sndE S x _ (ba h3).1)
          | x :: y :: r, h3 =>
            unfold chkEs at h3
            obtain ⟨_, h3⟩ := ba h3
            unfold chkEs at h3
            cases h3
      exact snd_sl S (sndE S a _ h1) f1 f2
    · cases h
  | .call j a es, e, h => by
    unfold chkE at h
    obtain ⟨h0, h⟩ := ba h
    split at h
    · obtain ⟨h1, h⟩ := ba h
      obtain ⟨h1, h2⟩ := ba h1
      obtain ⟨h3, h4⟩ := ba h
      exact snd_call S (of_decide_eq_true h1) h2 (snd_cons (sndE S a _ h3) (sndEs S es _ h4) (chk_pH h3)) (chk_pH h3) (chks_star h4)
    · cases h
  | .bi b a es, e, h => by
    unfold chkE at h
    obtain ⟨h0, h⟩ := ba h
    split at h
    · obtain ⟨h1, h⟩ := ba h
      obtain ⟨h1, h2⟩ := ba h1
      obtain ⟨h3, h4⟩ := ba h
      obtain rfl := of_decide_eq_true h1
      exact snd_bi S h2 (snd_cons (sndE S a _ h3) (sndEs S es _ h4) (chk_pH h3)) (chk_pH h3) (chks_star h4)
    · cases h
  | .isi a t, e, h => by
    unfold chkE at h
    obtain ⟨h0, h⟩ := ba h
    split at h
    · obtain ⟨h1, h⟩ := ba h
      obtain ⟨h1, h2⟩ := ba h1
      obtain ⟨h3, h4⟩ := ba h
      obtain ⟨h3, h5⟩ := ba h3
      obtain rfl := of_decide_eq_true h1
      obtain rfl := of_decide_eq_true h3
      exact snd_isi S h2 h5 (sndE S a _ h4) (chk_pH h4)
    · cases h
  | .ife t a b, e, h => by
    unfold chkE at h
    obtain ⟨h0, h⟩ := ba h
    split at h
    · obtain ⟨h1, h⟩ := ba h
      obtain ⟨h2, h3⟩ := ba h
      exact snd_ife (sndT S t _ h1) (sndE S a _ h2) (sndE S b _ h3)
    · cases h
theorem sndEs (S : Sd X c G k p) : ∀ (xs : List Ex) (es : List Expr), chkEs c xs es = true → PA X es (tDs p (evEs G xs))
  | [], [], _ => snd_nil
  | [], _ :: _, h => by unfold chkEs at h; cases h
  | x :: xs, [], h => by unfold chkEs at h; cases h
  | x :: xs, e :: es, h => by
    unfold chkEs at h
    obtain ⟨h1, h2⟩ := ba h
    exact snd_cons (sndE S x e h1) (sndEs S xs es h2) (chk_pH h1)
theorem sndAnd (S : Sd X c G k p) : ∀ (xs : List Ex) (es : List Expr), xs ≠ [] → chkEs c xs es = true → ∀ pos, PE X (.BoolOp .And es pos) (tD p (evAnd G xs))
  | [], _, h, _, _ => absurd rfl h
  | [x], [], _, h, _ => by unfold chkEs at h; cases h
  | [x], [e], _, h, pos => by
    unfold chkEs at h
    exact snd_one (sndE S x e (ba h).1) fun ρ => by rw [evAnd]
  | [x], e :: e2 :: r, _, h, _ => by
    unfold chkEs at h
    obtain ⟨_, h⟩ := ba h
    unfold chkEs at h
    cases h
  | x :: y :: ys, [], _, h, _ => by unfold chkEs at h; cases h
  | x :: y :: ys, [e], _, h, _ => by
    unfold chkEs at h
    obtain ⟨_, h⟩ := ba h
    unfold chkEs at h
    cases h
  | x :: y :: ys, e :: e2 :: r, _, h, pos => by
    unfold chkEs at h
    obtain ⟨h1, h2⟩ := ba h
    exact snd_and2 (sndE S x e h1) (sndAnd S (y :: ys) (e2 :: r) (fun q => by cases q) h2 pos) fun ρ => by rw [evAnd] <;> exact rfl
theorem sndOr (S : Sd X c G k p) : ∀ (xs : List Ex) (es : List Expr), xs ≠ [] → chkEs c xs es = true → ∀ pos, PE X (.BoolOp .Or es pos) (tD p (evOr G xs))
  | [], _, h, _, _ => absurd rfl h
  | [x], [], _, h, _ => by unfold chkEs at h; cases h
  | [x], [e], _, h, pos => by
    unfold chkEs at h
    exact snd_one (sndE S x e (ba h).1) fun ρ => by rw [evOr]
  | [x], e :: e2 :: r, _, h, _ => by
    unfold chkEs at h
    obtain ⟨_, h⟩ := ba h
    unfold chkEs at h
    cases h
  | x :: y :: ys, [], _, h, _ => by unfold chkEs at h; cases h
  | x :: y :: ys, [e], _, h, _ => by
    unfold chkEs at h
    obtain ⟨_, h⟩ := ba h
    unfold chkEs at h
    cases h
  | x :: y :: ys, e :: e2 :: r, _, h, pos => by
    unfold chkEs at h
    obtain ⟨h1, h2⟩ := ba h
    exact snd_or2 (sndE S x e h1) (sndOr S (y :: ys) (e2 :: r) (fun q => by cases q) h2 pos) fun ρ => by rw [evOr] <;> exact rfl
theorem sndT (S : Sd X c G k p) : ∀ (x : Ex) (e : Expr), chkE c x e = true → PT X e (tDB p (evE G x))
  | .not a, e, h => by
    unfold chkE at h
    obtain ⟨h0, h⟩ := ba h
    split at h
    · obtain ⟨h1, h2⟩ := ba h
      obtain rfl := of_decide_eq_true h1
      exact tst_not (sndT S a _ h2)
    · cases h
  | .and a es, e, h => by
    unfold chkE at h
    obtain ⟨h0, h⟩ := ba h
    split at h
    · rename_i q v vs pos _
      obtain ⟨h1, h⟩ := ba h
      obtain ⟨h2, h⟩ := ba h
      obtain ⟨h3, h4⟩ := ba h
      obtain rfl := of_decide_eq_true h1
      cases es with
      | nil => cases h4
      | cons x xs =>
        cases vs with
        | nil => unfold chkEs at h3; cases h3
        | cons w ws => exact PW.pt (tst_and2 (sndT S a _ h2) (sndTand S (x :: xs) (w :: ws) (fun q => by cases q) h3 pos) fun ρ => by rw [evE] <;> exact rfl)
    · cases h
  | .or a es, e, h => by
    unfold chkE at h
    obtain ⟨h0, h⟩ := ba h
    split at h
    · rename_i q v vs pos _
      obtain ⟨h1, h⟩ := ba h
      obtain ⟨h2, h⟩ := ba h
      obtain ⟨h3, h4⟩ := ba h
      obtain rfl := of_decide_eq_true h1
      cases es with
      | nil => cases h4
      | cons x xs =>
        cases vs with
        | nil => unfold chkEs at h3; cases h3
        | cons w ws => exact PW.pt (tst_or2 (sndT S a _ h2) (sndTor S (x :: xs) (w :: ws) (fun q => by cases q) h3 pos) fun ρ => by rw [evE] <;> exact rfl)
    · cases h
  | .cmp o a b, e, h => by
    unfold chkE at h
    obtain ⟨h0, h⟩ := ba h
    split at h
    · obtain ⟨h1, h⟩ := ba h
      obtain ⟨h2, h3⟩ := ba h
      obtain rfl := of_decide_eq_true h1
      exact tst_cmp S (sndE S a _ h2) (sndE S b _ h3) (pH_mark (chk_pH h3) _)
    · cases h
  | .ife t a b, e, h => by
    unfold chkE at h
    obtain ⟨h0, h⟩ := ba h
    split at h
    · obtain ⟨h1, h⟩ := ba h
      obtain ⟨h2, h3⟩ := ba h
      exact tst_ife (sndT S t _ h1) (sndT S a _ h2) (sndT S b _ h3)
    · cases h
  | .neg a, e, h => tst_val (sndE S _ e h) (by unfold chkE at h; obtain ⟨h0, h⟩ := ba h; split at h; (obtain ⟨h1, h2⟩ := ba h; obtain rfl := of_decide_eq_true h1; exact fun _ => rfl); cases h)
  | .v i, e, h => tst_val (sndE S _ e h) (by unfold chkE at h; obtain ⟨h0, h⟩ := ba h; split at h; exact fun _ => rfl; cases h)
  | .int n, e, h => tst_val (sndE S _ e h) (by unfold chkE at h; obtain ⟨h0, h⟩ := ba h; split at h; exact fun _ => rfl; cases h)
  | .bl n, e, h => tst_val (sndE S _ e h) (by unfold chkE at h; obtain ⟨h0, h⟩ := ba h; split at h; exact fun _ => rfl; cases h)
  | .non, e, h => tst_val (sndE S _ e h) (by unfold chkE at h; obtain ⟨h0, h⟩ := ba h; split at h; exact fun _ => rfl; cases h)
  | .str s, e, h => tst_val (sndE S _ e h) (by unfold chkE at h; obtain ⟨h0, h⟩ := ba h; split at h; exact fun _ => rfl; cases h)
  | .glob j, e, h => tst_val (sndE S _ e h) (by unfold chkE at h; obtain ⟨h0, h⟩ := ba h; split at h; exact fun _ => rfl; cases h)
  | .bin o a b, e, h => tst_val (sndE S _ e h) (by unfold chkE at h; obtain ⟨h0, h⟩ := ba h; split at h; exact fun _ => rfl; cases h)
  | .tup es, e, h => tst_val (sndE S _ e h) (by unfold chkE at h; obtain ⟨h0, h⟩ := ba h; split at h; exact fun _ => rfl; cases h)
  | .lst es, e, h => tst_val (sndE S _ e h) (by unfold chkE at h; obtain ⟨h0, h⟩ := ba h; split at h; exact fun _ => rfl; cases h)
  | .ix a b, e, h => tst_val (sndE S _ e h) (by unfold chkE at h; obtain ⟨h0, h⟩ := ba h; split at h; exact fun _ => rfl; cases h)
  | .ixo a b, e, h => tst_val (sndE S _ e h) (by unfold chkE at h; obtain ⟨h0, h⟩ := ba h; split at h; exact fun _ => rfl; cases h)
  | .sl a lo hi, e, h => tst_val (sndE S _ e h) (by unfold chkE at h; obtain ⟨h0, h⟩ := ba h; split at h; exact fun _ => rfl; cases h)
  | .call j a es, e, h => tst_val (sndE S _ e h) (by unfold chkE at h; obtain ⟨h0, h⟩ := ba h; split at h; exact fun _ => rfl; cases h)
  | .bi b a es, e, h => tst_val (sndE S _ e h) (by unfold chkE at h; obtain ⟨h0, h⟩ := ba h; split at h; exact fun _ => rfl; cases h)
  | .isi a t, e, h => tst_val (sndE S _ e h) (by unfold chkE at h; obtain ⟨h0, h⟩ := ba h; split at h; exact fun _ => rfl; cases h)
theorem sndTand (S : Sd X c G k p) : ∀ (xs : List Ex) (es : List Expr), xs ≠ [] → chkEs c xs es = true → ∀ pos, PW X (.BoolOp .And es pos) (tDB p (evAnd G xs))
  | [], _, h, _, _ => absurd rfl h
  | [x], [], _, h, _ => by unfold chkEs at h; cases h
  | [x], [e], _, h, pos => by
    unfold chkEs at h
    exact tst_one (sndT S x e (ba h).1) fun ρ => by rw [evAnd]
  | [x], e :: e2 :: r, _, h, _ => by
    unfold chkEs at h
    obtain ⟨_, h⟩ := ba h
    unfold chkEs at h
    cases h
  | x :: y :: ys, [], _, h, _ => by unfold chkEs at h; cases h
  | x :: y :: ys, [e], _, h, _ => by
    unfold chkEs at h
    obtain ⟨_, h⟩ := ba h
    unfold chkEs at h
    cases h
  | x :: y :: ys, e :: e2 :: r, _, h, pos => by
    unfold chkEs at h
    obtain ⟨h1, h2⟩ := ba h
    exact tst_and2 (sndT S x e h1) (sndTand S (y :: ys) (e2 :: r) (fun q => by cases q) h2 pos) fun ρ => by rw [evAnd] <;> exact rfl
theorem sndTor (S : Sd X c G k p) : ∀ (xs : List Ex) (es : List Expr), xs ≠ [] → chkEs c xs es = true → ∀ pos, PW X (.BoolOp .Or es pos) (tDB p (evOr G xs))
  | [], _, h, _, _ => absurd rfl h
  | [x], [], _, h, _ => by unfold chkEs at h; cases h
  | [x], [e], _, h, pos => by
    unfold chkEs at h
    exact tst_one (sndT S x e (ba h).1) fun ρ => by rw [evOr]
  | [x], e :: e2 :: r, _, h, _ => by
    unfold chkEs at h
    obtain ⟨_, h⟩ := ba h
    unfold chkEs at h
    cases h
  | x :: y :: ys, [], _, h, _ => by unfold chkEs at h; cases h
  | x :: y :: ys, [e], _, h, _ => by
    unfold chkEs at h
    obtain ⟨_, h⟩ := ba h
    unfold chkEs at h
    cases h
  | x :: y :: ys, e :: e2 :: r, _, h, pos => by
    unfold chkEs at h
    obtain ⟨h1, h2⟩ := ba h
    exact tst_or2 (sndT S x e h1) (sndTor S (y :: ys) (e2 :: r) (fun q => by cases q) h2 pos) fun ρ => by rw [evOr] <;> exact rfl
end
end
end FT

namespace FT
open PySem PySem.Spec PyProof.Rows L2
section
variable {X : Cx} {c : Ctx} {G : Ge} {k : Nat} {p : Pa}
/-! ### statements -/
theorem stm_ex {x : Ex} {e : Expr} {pos : Pos} (h : PE X e (tD p (evE G x))) (hp : pH e = true) : PS X (.Expr e pos) (tDS p (evS G (.ex x))) := by
  refine PS.imp (ps_expr h (pH_swap hp _ _)) fun D σ H ⟨hd, O, ρ, st, q⟩ => ?_
  rw [evS] at q
  exact tD_at st q fun d v H1 _ s1 st1 r1 q1 => q1 _ _ _ st1
theorem stm_set (S : Sd X c G k p) {i : Nat} {n : Str} {x : Ex} {e : Expr} {pos pn : Pos} (hl : c.loc i n = true) (h : PE X e (tD p (evE G x))) (hp : pH e = true) : PS X (.Assign [.Name n pn] e pos) (tDS p (evS G (.set i x))) := by
  obtain ⟨h1, h2⟩ := S.loc hl
  refine PS.imp (ps_set S.ndX h1 h2 h (pH_swap hp _ _) (.inl (S.fn n))) fun D σ H ⟨hd, O, ρ, st, q⟩ => ?_
  rw [evS] at q
  exact tD_at st q fun d v H1 _ s1 st1 r1 q1 => q1 _ _ _ (st1.setSh r1 i)
theorem stm_setL (S : Sd X c G k p) {i : Nat} {n : Str} {xs : List Ex} {es : List Expr} {pos pn pl : Pos} (hl : c.loc i n = true) (h : PA X es (tDs p (evEs G xs))) (hz : xs.length ≤ 1000) : PS X (.Assign [.Name n pn] (.List es pl) pos) (tDS p (evS G (.setL i xs))) := by
  obtain ⟨h1, h2⟩ := S.loc hl
  refine PS.imp (ps_set S.ndX h1 h2 (pe_lst h) rfl (.inl (S.fn n))) fun D σ H ⟨hd, O, ρ, st, q⟩ => ?_
  rw [evS] at q
  refine tDs_at st q fun ds vs H1 e s1 st1 r1 q1 => ⟨?_, fun a ha => ?_⟩
  · rw [← r1.length, evEs_len xs ρ ds e]
    exact Nat.le_of_lt (small1000 hz)
  · obtain ⟨O', st2⟩ := st1.setOwn r1 i ha
    exact q1 _ _ _ st2
theorem stm_app (S : Sd X c G k p) {i : Nat} {n : Str} {x : Ex} {e : Expr} {pn apos pos pos' : Pos} (hv : c.vis i n = true) (hline : apos.endLine = pos.line) (h : PE X e (tD p (evE G x))) (hp : pH e = true) :
    PS X (.Expr (.Call (.Attribute (.Name n pn) "append" apos) [e] [] pos) pos') (tDS p (evS G (.app i x))) := by
  have hs := pH_star (env := X.env) hp []
  refine PS.imp (ps_expr (pe_bm PySem.F.plainAttrs_list PySem.F.slot_list_append PySem.F.type_list_append mt_append (S.vis hv) (pa_cons h pa_nil hs) rfl (by rw [hs]; rfl) (by rw [hline]; exact beq_self_eq_true _) hs rfl) rfl) fun D σ H ⟨hd, O, ρ, st, q⟩ => ?_
  rw [evS] at q
  split at q
  · rename_i ds e
    obtain ⟨a, vs, hO, hσ, ha, hr⟩ := st.ow i ds e
    refine ⟨.ref a, hσ, .inl ⟨rfl, _, SqL.of ha⟩, tD_at st q fun d v H1 _ s1 st1 r1 q1 => ?_⟩
    cases hc : decide (ds.length < 16777216) with
    | false => rw [hc] at q1; exact False.elim q1
    | true =>
      rw [hc] at q1
      refine ⟨a, vs, v, rfl, rfl, s1 _ _ ha, ?_, q1 _ _ _ (st1.app e r1 hO (s1 _ _ ha) (hr.mono (M_grow s1)))⟩
      rw [← hr.length, sizeLine_eq]
      exact of_decide_eq_true hc
  · exact False.elim q
theorem stm_ret {x : Ex} {e : Expr} {pos : Pos} (h : PE X e (tD p (evE G x))) : PS X (.Return (some e) pos) (tDS p (evS G (.ret x))) := by
  refine PS.imp (ps_ret h) fun D σ H ⟨hd, O, ρ, st, q⟩ => ?_
  rw [evS] at q
  exact tD_at st q fun d v H1 _ s1 st1 r1 q1 => q1 v H1 st1.same (r1.mono (mask_same (Same.refl _) fun a q => .inl (.inl q)))
theorem stm_ife {x : Ex} {e : Expr} {a b : List Sm} {u w : List Stmt} {pos : Pos} (h : PT X e (tDB p (evE G x))) (ha : PSs X u (tDS p (evSs G a))) (hb : PSs X w (tDS p (evSs G b))) : PS X (.If e u w pos) (tDS p (evS G (.ife x a b))) := by
  refine PS.imp (ps_if h ha hb) fun D σ H ⟨hd, O, ρ, st, q⟩ => ?_
  rw [evS] at q
  refine tDB_at st q (fun d hd => ?_) fun t H1 _ s1 st1 q1 => ?_
  · cases d with
    | bool b => exact absurd rfl (hd b)
    | _ => rfl
  · cases t with
    | true => exact ⟨hd, O, ρ, st1, q1⟩
    | false => exact ⟨hd, O, ρ, st1, q1⟩
theorem stm_while (S : Sd X c G k p) {x : Ex} {e : Expr} {b : List Sm} {u : List Stmt} {pos : Pos} (h : PT X e (tDB p (evE G x))) (hb : PSs X u (tDS p (evSs G b))) : PS X (.While e u [] pos) (tDS p (evS G (.while_ x b))) := by
  refine PS.imp (ps_while S.pw h hb) fun D σ H ⟨hd, O, ρ, st, q⟩ => ?_
  rw [evS] at q
  have ne : whileL (fun ρ => evE G x ρ) (fun ρ => evSs G b ρ) ρ ≠ .bad := fun z => by rw [z] at q; exact q
  obtain ⟨n, hn⟩ := whileL_fuel ne
  rw [← hn] at q
  refine ⟨fun m σ H => ∃ O ρ, p.St hd O ρ σ H ∧ postS p hd (whileN (fun ρ => evE G x ρ) (fun ρ => evSs G b ρ) m ρ) D, ⟨n, O, ρ, st, q⟩, fun m σ1 H1 ⟨O1, ρ1, st1, q1⟩ => ?_⟩
  cases m with
  | zero => exact False.elim q1
  | succ m =>
    unfold whileN at q1
    refine tDB_at st1 q1 (fun d hd => ?_) fun t H2 _ s2 st2 q2 => ?_
    · cases d with
      | bool b => exact absurd rfl (hd b)
      | _ => rfl
    · cases t with
      | false => exact q2 _ _ _ st2
      | true =>
        refine ⟨fun σ' H' => ∃ O ρ, p.St hd O ρ σ' H' ∧ postS p hd (whileN (fun ρ => evE G x ρ) (fun ρ => evSs G b ρ) m ρ) D, fun σ' H' z => ⟨m, by omega, z⟩, hd, O1, ρ1, st2, ?_⟩
        dsimp only at q2
        cases hb2 : evSs G b ρ1 with
        | bad => rw [hb2] at q2; exact q2
        | nx ρ' => rw [hb2] at q2; exact fun O3 σ3 H3 st3 => ⟨O3, ρ', st3, q2⟩
        | rt d => rw [hb2] at q2; exact q2
        | xc n ρ' => rw [hb2] at q2; exact q2
theorem stm_raise (S : Sd X c G k p) {j : Nat} {x m : Str} {pn pc pos pos' : Pos} {k1 : Nat} (hj : c.excs.lookup j = some x) (hg : c.gl x = true) : PS X (.Raise (some (.Call (.Name x pn) [.Constant (.str m) k1 pc] [] pos)) none pos') (tDS p (evS G (.raise j))) := by
  obtain ⟨C, hm, hc, hx, hk, hr⟩ := S.excs j x hj
  obtain ⟨h1, h2⟩ := S.gl hg
  refine PS.imp (ps_raise S.calm S.tk (pmk_own PySem.F.excBase_ValueError hx hm hk hr h1 h2)) fun D σ H ⟨hd, O, ρ, st, q⟩ => ?_
  rw [evS] at q
  rw [← hc]
  exact q _ _ _ st
theorem stm_aug (S : Sd X c G k p) {i : Nat} {n : Str} {x : Ex} {e : Expr} {pos pn : Pos} (hl : c.loc i n = true) (h : PE X e (tD p (evE G x))) : PS X (.AugAssign (.Name n pn) .Add e pos) (tDS p (evS G (.aug i .add x))) := by
  obtain ⟨h1, h2⟩ := S.loc hl
  refine PS.imp (ps_aug S.ndX h1 h2 h (show PIp X .Add (r2 X.K (op2 .add)) from iop_add_all) (.inl (S.fn n))) fun D σ H ⟨hd, O, ρ, st, q⟩ => ?_
  rw [evS] at q
  split at q
  · rename_i d e
    obtain ⟨v, hv, rv⟩ := st.sh i d e
    refine ⟨v, hv, tD_at st q fun y vy H1 _ s1 st1 r1 q1 => ?_⟩
    cases ho : op2 .add d y with
    | bad => rw [ho] at q1; exact False.elim q1
    | exc n => exact absurd ho (ne_op2 _ _ _ n)
    | ok z =>
      rw [ho] at q1
      have hK := S.hK
      refine ⟨Bo p.B O, d, y, z, St_dom st1, by rw [← hK]; exact rv.mono (M_grow s1), by rw [← hK]; exact r1, ho, fun v H' s r => q1 _ _ _ ((st1.grow s).setSh (by rw [hK]; exact r) i)⟩
  · exact False.elim q
theorem stm_pass {pos : Pos} : PS X (.Pass pos) (tDS p (evS G .pass)) := PS.imp ps_pass fun D σ H ⟨hd, O, ρ, st, q⟩ => by
  rw [evS] at q
  exact q _ _ _ st
theorem stms_nil : PSs X [] (tDS p (evSs G [])) := PSs.imp pss_nil fun D σ H ⟨hd, O, ρ, st, q⟩ => by
  rw [evSs] at q
  exact q _ _ _ st
theorem stms_cons {x : Sm} {xs : List Sm} {s : Stmt} {ss : List Stmt} (h : PS X s (tDS p (evS G x))) (hs : PSs X ss (tDS p (evSs G xs))) : PSs X (s :: ss) (tDS p (evSs G (x :: xs))) := by
  refine PSs.imp (pss_cons h hs) fun D σ H ⟨hd, O, ρ, st, q⟩ => ⟨hd, O, ρ, st, ?_⟩
  rw [evSs] at q
  cases he : evS G x ρ with
  | bad => rw [he] at q; exact q
  | nx ρ' => rw [he] at q; exact fun O2 σ2 H2 st2 => ⟨hd, O2, ρ', st2, q⟩
  | rt d => rw [he] at q; exact q
  | xc n ρ' => rw [he] at q; exact q
theorem stms_frz {i : Nat} {xs : List Sm} {ss : List Stmt} (hs : PSs X ss (tDS p (evSs G xs))) : PSs X ss (tDS p (evSs G (.frz i :: xs))) := by
  refine PSs.imp hs fun D σ H ⟨hd, O, ρ, st, q⟩ => ?_
  rw [evSs, evS] at q
  split at q
  · rename_i ds e
    obtain ⟨O', st'⟩ := st.frz e
    exact ⟨hd, O', _, st', q⟩
  · exact ⟨hd, O, ρ, st, q⟩
  · exact False.elim q
/-! ### for -/
def holdL (hd : Hold) (K : PySem.W.Frag) (a : Addr) (vs : List V) (ds : List D) : Hold := ⟨fun Hm => hd.P Hm ∧ SqL K Hm a vs ∧ Reps K Hm ds vs, fun A B s ⟨q1, q2, q3⟩ => ⟨hd.mono A B s q1, s.seq q2, q3.mono s⟩⟩
def holdT (hd : Hold) (K : PySem.W.Frag) (a : Addr) (vs : List V) (ds : List D) : Hold := ⟨fun Hm => hd.P Hm ∧ SqT K Hm a vs ∧ Reps K Hm ds vs, fun A B s ⟨q1, q2, q3⟩ => ⟨hd.mono A B s q1, same_seqT s q2, q3.mono s⟩⟩
theorem PI.or {tg it : Expr} {wi wi' : TI} (h : PI X tg it wi) (h' : PI X tg it wi') : PI X tg it (fun σ H R => wi σ H R ∨ wi' σ H R) := ⟨fun pins s σ H R I q => q.elim (h.run pins s σ H R I) (h'.run pins s σ H R I)⟩
theorem drop_get {α : Type} {ds : List α} {i : Nat} {d : α} (h : ds[i]? = some d) : ds.drop i = d :: ds.drop (i + 1) := by
  obtain ⟨hl, e⟩ := List.getElem?_eq_some_iff.mp h
  rw [List.drop_eq_getElem_cons hl, e]
/-- one turn -/
theorem turn {hd : Hold} {i j : Nat} {ds : List D} {d : D} {v : V} {b : List Sm} {D' : Ends} {O : Nat → Option Addr} {ρ : En} {σ : L2.St} {H : Hp} {Pv : L2.St → Hp → Prop} {bk : L2.St → Hp → Prop} (hd' : Hold) (hh : ∀ Hm, hd'.P Hm → hd.P Hm)
    (st : p.St hd' O ρ σ H) (r : Rep p.K (p.M O H) d v) (hi : ds[j]? = some d) (q : postS p hd (forL (fun d ρ => evSs G b (ρ.set i (some (.sh d)))) (ds.drop j) ρ) D')
    (hP : ∀ O ρ σ H, p.St hd' O ρ σ H → postS p hd (forL (fun d ρ => evSs G b (ρ.set i (some (.sh d)))) (ds.drop (j + 1)) ρ) D' → Pv σ H) :
    tDS p (evSs G b) { D' with nx := Pv, ct := Pv, bk := bk } (σ.set i (some v)) H := by
  rw [drop_get hi] at q
  unfold forL at q
  refine ⟨hd', O, ρ.set i (some (.sh d)), st.setSh r i, ?_⟩
  cases he : evSs G b (ρ.set i (some (.sh d))) with
  | bad => rw [he] at q; exact q
  | nx ρ' => rw [he] at q; exact fun O2 σ2 H2 st2 => hP O2 ρ' σ2 H2 st2 q
  | rt d => rw [he] at q; exact q
  | xc n ρ' =>
    rw [he] at q
    exact fun O2 σ2 H2 st2 => q O2 σ2 H2 (st2.held (hh _ st2.hold))
theorem ends {hd hd' : Hold} {i : Nat} {ds : List D} {b : List Sm} {D' : Ends} {O : Nat → Option Addr} {ρ : En} {σ : L2.St} {H : Hp} (hh : ∀ Hm, hd'.P Hm → hd.P Hm) (st : p.St hd' O ρ σ H) {n : Nat} (hn : ds.length ≤ n)
    (q : postS p hd (forL (fun d ρ => evSs G b (ρ.set i (some (.sh d)))) (ds.drop n) ρ) D') : D'.nx σ H := by
  rw [List.drop_eq_nil_of_le hn] at q
  exact q O σ H (st.held (hh _ st.hold))
theorem stm_forS (S : Sd X c G k p) {i : Nat} {n : Str} {x : Ex} {e : Expr} {b : List Sm} {u : List Stmt} {pos pn : Pos} (hl : c.loc i n = true) (h : PE X e (tD p (evE G x))) (hp : pH e = true) (hb : PSs X u (tDS p (evSs G b))) :
    PS X (.For (.Name n pn) e u [] pos) (tDS p (evS G (.for_ i (.seq x) b))) := by
  obtain ⟨h1, h2⟩ := S.loc hl
  refine PS.imp (ps_for S.pw S.calm (PI.or (pi_list h) (pi_tup h)) (pg_name S.ndX h1 h2 (.inl (S.fn n))) hb (pH_fold hp)) fun D σ H ⟨hd, O, ρ, st, q⟩ => ?_
  rw [evS] at q
  have hK := S.hK
  cases he : evE G x ρ with
  | bad => unfold itD at q; dsimp only at q; rw [he] at q; exact False.elim q
  | exc m =>
    unfold itD at q
    dsimp only at q
    rw [he] at q
    refine .inl ⟨hd, O, ρ, st, ?_⟩
    rw [he]
    exact xc_of st q
  | ok d =>
    unfold itD at q
    dsimp only at q
    rw [he] at q
    cases d with
    | list ds =>
      refine .inl ⟨hd, O, ρ, st, ?_⟩
      rw [he]
      intro v H1 s1 r1
      cases r1 with
      | @lst a vs _ hs hr =>
        refine ⟨a, rfl, ⟨vs, by rw [← hK]; exact Same.seq mask_le hs⟩, ?_⟩
        have st1 : p.St (holdL hd p.K a vs ds) O ρ σ H1 := (st.grow s1).held ⟨(st.grow s1).hold, hs, hr⟩
        refine for_list (K := X.K) (a := a) (xs := vs) (fun j σ H => ∃ O ρ, p.St (holdL hd p.K a vs ds) O ρ σ H ∧ postS p hd (forL (fun d ρ => evSs G b (ρ.set i (some (.sh d)))) (ds.drop j) ρ) D)
          ⟨O, ρ, st1, by rw [List.drop_zero]; exact q⟩ (fun j σ H _ ⟨O, ρ, st, _⟩ => by rw [← hK]; exact Same.seq mask_le st.hold.2.1) (fun j v σ H hv ⟨O, ρ, st, q⟩ => ?_) fun σ H ⟨O, ρ, st, q⟩ => ends (hd' := holdL hd p.K a vs ds) (fun _ z => z.1) st (Nat.le_of_eq hr.length) q
        have hj : j < ds.length := by rw [hr.length]; exact (List.getElem?_eq_some_iff.mp hv).1
        obtain ⟨v', hv', rv⟩ := st.hold.2.2.get (List.getElem?_eq_getElem hj)
        rw [hv] at hv'
        cases hv'
        exact turn (holdL hd p.K a vs ds) (fun _ z => z.1) st rv (List.getElem?_eq_getElem hj) q fun O ρ σ H st q => ⟨O, ρ, st, q⟩
    | tuple ds =>
      refine .inr ⟨hd, O, ρ, st, ?_⟩
      rw [he]
      intro v H1 s1 r1
      cases r1 with
      | @tup a vs _ hs hr =>
        refine ⟨a, rfl, ⟨vs, by rw [← hK]; exact same_seqT mask_le hs⟩, ?_⟩
        have st1 : p.St (holdT hd p.K a vs ds) O ρ σ H1 := (st.grow s1).held ⟨(st.grow s1).hold, hs, hr⟩
        refine for_tup (K := X.K) (a := a) (xs := vs) (fun j σ H => ∃ O ρ, p.St (holdT hd p.K a vs ds) O ρ σ H ∧ postS p hd (forL (fun d ρ => evSs G b (ρ.set i (some (.sh d)))) (ds.drop j) ρ) D)
          ⟨O, ρ, st1, by rw [List.drop_zero]; exact q⟩ (fun j σ H _ ⟨O, ρ, st, _⟩ => by rw [← hK]; exact same_seqT mask_le st.hold.2.1) (fun j v σ H hv ⟨O, ρ, st, q⟩ => ?_) fun σ H ⟨O, ρ, st, q⟩ => ends (hd' := holdT hd p.K a vs ds) (fun _ z => z.1) st (Nat.le_of_eq hr.length) q
        have hj : j < ds.length := by rw [hr.length]; exact (List.getElem?_eq_some_iff.mp hv).1
        obtain ⟨v', hv', rv⟩ := st.hold.2.2.get (List.getElem?_eq_getElem hj)
        rw [hv] at hv'
        cases hv'
        exact turn (holdT hd p.K a vs ds) (fun _ z => z.1) st rv (List.getElem?_eq_getElem hj) q fun O ρ σ H st q => ⟨O, ρ, st, q⟩
    | _ => exact False.elim q
/-- a range -/
theorem rng_go {hd : Hold} {i n : Nat} {lo : Int} {b : List Sm} {D' : Ends} {O : Nat → Option Addr} {ρ : En} {σ : L2.St} {H : Hp} (st : p.St hd O ρ σ H)
    (q : postS p hd (forL (fun d ρ => evSs G b (ρ.set i (some (.sh d)))) ((List.range n).map fun (k : Nat) => PyData.int (lo + (k : Int))) ρ) D') :
    ∃ W : Nat → Nat → L2.St → Hp → Prop, (∃ m, W 0 m σ H) ∧ ∀ j m σ H, W j m σ H →
      ((Itr lo n).stop j H ∧ D'.nx σ H) ∨ ((Itr lo n).go j H ∧ ∃ N : L2.St → Hp → Prop, (∀ σ' H', N σ' H' → ∃ m', m' < m ∧ W (j + 1) m' σ' H') ∧ ∀ x H', (Itr lo n).yld j H x H' → gName i x σ H' fun σ2 H2 => tDS p (evSs G b) { D' with nx := N, ct := N, bk := D'.nx } σ2 H2) := by
  have hlen : ((List.range n).map fun (k : Nat) => PyData.int (lo + (k : Int))).length = n := by rw [List.length_map, List.length_range]
  refine for_range (lo := lo) (n := n) (fun j σ H => ∃ O ρ, p.St hd O ρ σ H ∧ postS p hd (forL (fun d ρ => evSs G b (ρ.set i (some (.sh d)))) (((List.range n).map fun (k : Nat) => PyData.int (lo + (k : Int))).drop j) ρ) D')
    ⟨O, ρ, st, by rw [List.drop_zero]; exact q⟩ (fun j σ H hj ⟨O, ρ, st, q⟩ => ?_) fun σ H ⟨O, ρ, st, q⟩ => ends (fun _ z => z) st (Nat.le_of_eq hlen) q
  exact turn _ (fun _ z => z) st (.int _) (by rw [List.getElem?_map, List.getElem?_range hj]; rfl) q fun O ρ σ H st q => ⟨O, ρ, st, q⟩
theorem stm_for1 (S : Sd X c G k p) {i : Nat} {n : Str} {x : Ex} {e : Expr} {b : List Sm} {u : List Stmt} {pos pn pf pc : Pos} (hl : c.loc i n = true) (hg : c.gl "range" = true) (h : PE X e (tD p (evE G x))) (hp : pH e = true) (hb : PSs X u (tDS p (evSs G b))) :
    PS X (.For (.Name n pn) (.Call (.Name "range" pf) [e] [] pc) u [] pos) (tDS p (evS G (.for_ i (.rng1 x) b))) := by
  obtain ⟨h1, h2⟩ := S.loc hl
  obtain ⟨g1, g2⟩ := S.gl hg
  refine PS.imp (ps_for S.pw S.calm (pi_range1 g1 (S.blt _ (by decide +kernel)) (pa_cons h pa_nil (pH_star hp _)) (pH_star hp _)) (pg_name S.ndX h1 h2 (.inl (S.fn n))) hb (fun _ => rfl)) fun D σ H ⟨hd, O, ρ, st, q⟩ => ?_
  rw [evS] at q
  unfold itD at q
  dsimp only at q
  refine ⟨hd, O, ρ, st, ?_⟩
  cases he : evE G x ρ with
  | bad => rw [he] at q; exact q
  | exc m => rw [he] at q; exact xc_of st q
  | ok d =>
    rw [he] at q
    cases d with
    | int j =>
      intro v H1 s1 r1
      dsimp only [R.bind] at q
      cases hc : (decide (-(2 ^ 62) ≤ j) && decide (j < 2 ^ 62)) with
      | false => rw [hc] at q; exact False.elim q
      | true =>
        rw [hc] at q
        obtain ⟨c1, c2⟩ := ba hc
        exact ⟨j, by rw [rep_int r1], of_decide_eq_true c1, of_decide_eq_true c2, rng_go (st.grow s1) q⟩
    | _ => exact False.elim q
theorem stm_for2 (S : Sd X c G k p) {i : Nat} {n : Str} {x y : Ex} {e f : Expr} {b : List Sm} {u : List Stmt} {pos pn pf pc : Pos} (hl : c.loc i n = true) (hg : c.gl "range" = true) (h : PE X e (tD p (evE G x))) (hp : pH e = true) (h' : PE X f (tD p (evE G y))) (hp' : pH f = true) (hb : PSs X u (tDS p (evSs G b))) :
    PS X (.For (.Name n pn) (.Call (.Name "range" pf) [e, f] [] pc) u [] pos) (tDS p (evS G (.for_ i (.rng2 x y) b))) := by
  obtain ⟨h1, h2⟩ := S.loc hl
  obtain ⟨g1, g2⟩ := S.gl hg
  refine PS.imp (ps_for S.pw S.calm (pi_range2 g1 (S.blt _ (by decide +kernel)) (pa_cons h (pa_cons h' pa_nil (pH_star hp' _)) (pH_star hp _)) (by rw [pH_star hp, pH_star hp']; rfl) (pH_star hp' _)) (pg_name S.ndX h1 h2 (.inl (S.fn n))) hb (fun _ => rfl)) fun D σ H ⟨hd, O, ρ, st, q⟩ => ?_
  rw [evS] at q
  unfold itD at q
  dsimp only at q
  refine ⟨hd, O, ρ, st, ?_⟩
  cases he : evE G x ρ with
  | bad => rw [he] at q; exact q
  | exc m => rw [he] at q; exact xc_of st q
  | ok d =>
    rw [he] at q
    intro v H1 s1 r1
    refine ⟨hd, O, ρ, st.grow s1, ?_⟩
    dsimp only [R.bind] at q
    cases hf : evE G y ρ with
    | bad => rw [hf] at q; exact q
    | exc m => rw [hf] at q; exact xc_of (st.grow s1) q
    | ok d2 =>
      rw [hf] at q
      cases d with
      | int i1 =>
        cases d2 with
        | int j =>
          intro v2 H2 s2 r2
          dsimp only [R.bind] at q
          cases hc : ((decide (-(2 ^ 62) ≤ i1) && decide (i1 < 2 ^ 62)) && (decide (-(2 ^ 62) ≤ j) && decide (j < 2 ^ 62))) with
          | false => rw [hc] at q; exact False.elim q
          | true =>
            rw [hc] at q
            obtain ⟨c1, c2⟩ := ba hc
            obtain ⟨c1, c3⟩ := ba c1
            obtain ⟨c2, c4⟩ := ba c2
            exact ⟨i1, j, by rw [rep_int r1, rep_int r2], ⟨of_decide_eq_true c1, of_decide_eq_true c3, of_decide_eq_true c2, of_decide_eq_true c4⟩, rng_go ((st.grow s1).grow s2) q⟩
        | _ => exact False.elim q
      | _ => exact False.elim q
end
end FT

namespace FT
open PySem PySem.Spec PyProof.Rows L2
section
variable {X : Cx} {c : Ctx} {G : Ge} {k : Nat} {p : Pa}
mutual
theorem sndS (S : Sd X c G k p) : ∀ (x : Sm) (s : Stmt), chkS c x s = true → PS X s (tDS p (evS G x))
  | .ex x, s, h => by
    unfold chkS at h
    split at h
    · exact stm_ex (sndE S x _ h) (chk_pH h)
    · cases h
  | .set i x, s, h => by
    unfold chkS at h
    split at h
    · obtain ⟨h1, h2⟩ := ba h
      exact stm_set S h1 (sndE S x _ h2) (chk_pH h2)
    · cases h
  | .setL i xs, s, h => by
    unfold chkS at h
    split at h
    · obtain ⟨h1, h2⟩ := ba h
      obtain ⟨h2, h3⟩ := ba h2
      exact stm_setL S h1 (sndEs S xs _ h2) (of_decide_eq_true h3)
    · cases h
  | .app i x, s, h => by
    unfold chkS at h
    split at h
    · obtain ⟨g1, g2⟩ := ba h
      obtain ⟨g3, g4⟩ := ba g1
      obtain ⟨g5, g6⟩ := ba g2
      obtain rfl := of_decide_eq_true g4
      exact stm_app S g3 (of_decide_eq_true g5) (sndE S x _ g6) (chk_pH g6)
    · cases h
  | .ret x, s, h => by
    unfold chkS at h
    split at h
    · exact stm_ret (sndE S x _ h)
    · cases h
  | .ife t a b, s, h => by
    unfold chkS at h
    split at h
    · obtain ⟨h1, h2⟩ := ba h
      obtain ⟨h2, h3⟩ := ba h2
      exact stm_ife (sndT S t _ h1) (sndSs S a _ h2) (sndSs S b _ h3)
    · cases h
  | .for_ i it b, s, h => by
    unfold chkS at h
    split at h
    · obtain ⟨g1, g2⟩ := ba h
      obtain ⟨g3, g4⟩ := ba g1
      cases it with
      | seq x =>
        unfold chkIt at g4
        dsimp only at g4
        exact stm_forS S g3 (sndE S x _ g4) (chk_pH g4) (sndSs S b _ g2)
      | rng1 x =>
        unfold chkIt at g4
        dsimp only at g4
        split at g4
        · obtain ⟨g5, g6⟩ := ba g4
          obtain ⟨g7, g8⟩ := ba g5
          obtain rfl := of_decide_eq_true g7
          exact stm_for1 S g3 g8 (sndE S x _ g6) (chk_pH g6) (sndSs S b _ g2)
        · cases g4
      | rng2 x y =>
        unfold chkIt at g4
        dsimp only at g4
        split at g4
        · obtain ⟨g5, g6⟩ := ba g4
          obtain ⟨g7, g8⟩ := ba g5
          obtain ⟨g9, g10⟩ := ba g6
          obtain rfl := of_decide_eq_true g7
          exact stm_for2 S g3 g8 (sndE S x _ g9) (chk_pH g9) (sndE S y _ g10) (chk_pH g10) (sndSs S b _ g2)
        · cases g4
    · cases h
  | .while_ t b, s, h => by
    unfold chkS at h
    split at h
    · obtain ⟨h1, h2⟩ := ba h
      exact stm_while S (sndT S t _ h1) (sndSs S b _ h2)
    · cases h
  | .raise j, s, h => by
    unfold chkS at h
    split at h
    · obtain ⟨h1, h2⟩ := ba h
      exact stm_raise S (of_decide_eq_true h1) h2
    · cases h
  | .aug i o x, s, h => by
    unfold chkS at h
    split at h
    · obtain ⟨g1, g2⟩ := ba h
      obtain ⟨g3, g4⟩ := ba g1
      obtain ⟨g5, g6⟩ := ba g4
      obtain rfl := of_decide_eq_true g5
      obtain rfl := of_decide_eq_true g6
      exact stm_aug S g3 (sndE S x _ g2)
    · cases h
  | .pass, s, h => by
    unfold chkS at h
    split at h
    · exact stm_pass
    · cases h
  | .frz i, s, h => by
    unfold chkS at h
    cases h
theorem sndSs (S : Sd X c G k p) : ∀ (xs : List Sm) (ss : List Stmt), chkSs c xs ss = true → PSs X ss (tDS p (evSs G xs))
  | [], [], _ => stms_nil
  | [], _ :: _, h => by unfold chkSs at h; cases h
  | x :: xs, ss, h => by
    unfold chkSs at h
    split at h
    · exact stms_frz (sndSs S xs ss h)
    · cases ss with
      | nil => cases h
      | cons s ss =>
        obtain ⟨h1, h2⟩ := ba h
        exact stms_cons (sndS S x s h1) (sndSs S xs ss h2)
end
end
/-! ### defs -/
section
variable {P : Program} {w : World} {K : PySem.W.Frag} {mg : Str → Option Value} {base : Heap} {cl : Nat → Value}
theorem FnB.up {j k : Nat} {x : Str} {f : List D → R D} (h : FnB P w K mg base j cl x f) (hl : j ≤ k) : FnB P w K mg base k cl x f := by
  obtain ⟨a, fd, ps, sp, h1, h2, h3, h4, h5⟩ := h
  exact ⟨a, fd, ps, sp, h1, h2, h3, h4.mono hl, h5⟩
inductive Fns (P : Program) (w : World) (K : PySem.W.Frag) (mg : Str → Option Value) (base : Heap) (k : Nat) (cl : Nat → Value) : List Str → List (List D → R D) → Prop
  | nil : Fns P w K mg base k cl [] []
  | cons {j : Nat} {x : Str} {xs : List Str} {f : List D → R D} {fs : List (List D → R D)} (h : FnB P w K mg base j cl x f) (hl : j ≤ k) (t : Fns P w K mg base k cl xs fs) : Fns P w K mg base k cl (x :: xs) (f :: fs)
theorem Fns.get {k : Nat} : ∀ {xs : List Str} {fs : List (List D → R D)} (j : Nat) (x : Str), Fns P w K mg base k cl xs fs → xs[j]? = some x → ∃ f, fs[j]? = some f ∧ FnB P w K mg base k cl x f
  | _, _, _, _, .nil, e => by simp at e
  | _, _, 0, _, .cons h hl _, e => by simp at e; subst e; exact ⟨_, rfl, h.up hl⟩
  | _, _, j + 1, x, .cons _ _ t, e => by
    obtain ⟨f, h1, h2⟩ := Fns.get j x t (by simpa using e)
    exact ⟨f, by simpa using h1, h2⟩
/-- a module's constant -/
def CoB (K : PySem.W.Frag) (mg : Str → Option Value) (x : Str) (d : D) : Prop := ∃ v u, mg x = some u ∧ RelV v u ∧ ∀ H, Rep K H d v
inductive Cos (K : PySem.W.Frag) (mg : Str → Option Value) : List Str → List D → Prop
  | nil : Cos K mg [] []
  | cons {x : Str} {xs : List Str} {d : D} {ds : List D} (h : CoB K mg x d) (t : Cos K mg xs ds) : Cos K mg (x :: xs) (d :: ds)
theorem Cos.get : ∀ {xs : List Str} {ds : List D} (j : Nat) (x : Str), Cos K mg xs ds → xs[j]? = some x → ∃ d v u, ds[j]? = some d ∧ mg x = some u ∧ RelV v u ∧ ∀ H, Rep K H d v
  | _, _, _, _, .nil, e => by simp at e
  | _, _, 0, _, .cons ⟨v, u, h1, h2, h3⟩ _, e => by simp at e; subst e; exact ⟨_, v, u, rfl, h1, h2, h3⟩
  | _, _, j + 1, x, .cons _ t, e => by
    obtain ⟨d, v, u, h1, h2⟩ := Cos.get j x t (by simpa using e)
    exact ⟨d, v, u, by simpa using h1, h2⟩
/-- the exceptions' classes -/
def ExB (K : PySem.W.Frag) (mg : Str → Option Value) (cl : Nat → Value) (es : List (Nat × Str)) : Prop :=
  ∀ (j : Nat) (x : Str), es.lookup j = some x → ∃ C, mg x = some (.ref C) ∧ cl j = .ref C ∧ PySem.W.excIn K C He.veBase "ValueError.__new__" = true ∧ PySem.W.keepIn K (.ref C) = true ∧ PySem.W.subIn K (.ref C) (.type "BaseException") = some true ∧ PySem.W.typeIn K (.ref C) = some (.type "type")
theorem start_get {N : List Str} {ds : List D} {vs : List V} {H : Hp} {n : Nat} (r : Reps K H ds vs) {i : Nat} {d : D} (h : (ds.map (fun d => some (Sl.sh d)) ++ List.replicate n none)[i]? = some (some (.sh d))) : ∃ v, (L2.start N vs)[i]? = some (some v) ∧ Rep K H d v := by
  by_cases hi : i < ds.length
  · rw [List.getElem?_append_left (by rw [List.length_map]; exact hi), List.getElem?_map] at h
    cases e : ds[i]? with
    | none => rw [e] at h; cases h
    | some d' =>
      rw [e] at h
      cases h
      obtain ⟨v, h1, h2⟩ := r.get e
      refine ⟨v, ?_, h2⟩
      unfold L2.start
      rw [List.getElem?_append_left (by rw [List.length_map, ← r.length]; exact hi), List.getElem?_map, h1]
      rfl
  · rw [List.getElem?_append_right (by rw [List.length_map]; omega), List.getElem?_replicate] at h
    split at h <;> cases h
def spF (K : PySem.W.Frag) (cl : Nat → Value) (F : List D → R D) : Sp := fun vs H Q E => ∃ (B : Addr → Prop) (ds : List D), (∀ b, B b → ∃ o, H b = some o) ∧ Reps K (mask B H) ds vs ∧ (match F ds with
        | .bad => False
        | .exc c => ∀ H', Same H H' → E (cl c) none H'
        | .ok d => ∀ v H', Same H H' → Rep K (mask B H') d v → Q v H')
theorem fn_core {k : Nat} {c : Ctx} {G : Ge} {b : List Sm} {x : Str} {ps : List Str} {f : Addr} {fd : FuncData} {qual : Str} {params : Arguments} {body : List Stmt}
    (F : FunD K x qual params body c.sc [] [] f fd) (Sc : FnScope c.N ps c.sc) (hb : chkSs c b body = true)
    (hf : Fns P w K mg base k cl c.fns G.fn) (hc : Cos K mg c.cons G.co) (he : ExB K mg cl c.excs) (hl : ∀ y ∈ bltL, mg y = none) : FnOk P w K mg base (L2.CX P w) (k + 1) f fd ps (spF K cl (evF G ps.length c.N.length b)) := by
  have hlen : ∀ ds, (match evF G ps.length c.N.length b ds with | .bad => False | _ => True) → ds.length = ps.length := fun ds h => by
    unfold evF at h
    cases hd : decide (ds.length = ps.length) with
    | true => exact of_decide_eq_true hd
    | false => rw [hd] at h; exact False.elim h
  have nb : ∀ {ds : List D} {A B : Prop} {C : Nat → Prop} {E : D → Prop}, (match evF G ps.length c.N.length b ds with | .bad => False | .exc n => C n | .ok d => E d) → (match evF G ps.length c.N.length b ds with | .bad => False | _ => True) := fun {ds A B C E} h => by
    cases e : evF G ps.length c.N.length b ds with
    | bad => rw [e] at h; exact h
    | _ => trivial
  refine F.ok Sc (fun vs H Q E ⟨B, ds, h1, h2, h3⟩ => ?_) (fun cdv A outer s H vs Q E hr ⟨B, ds, h1, h2, h3⟩ => ?_)
  · rw [← h2.length]
    exact hlen ds (nb (A := True) (B := True) h3)
  · have hn : ds.length = ps.length := hlen ds (nb (A := True) (B := True) h3)
    have S : Sd (cxOf (L2.CX P w) P w K mg base c.N qual c.sc f cdv A outer s H E) c G k ⟨K, cl, fun cls d _ H => E cls d H, H, B⟩ :=
      { hK := rfl, hN := rfl, nd := Sc.nd, sc := rfl, fn := fun _ => rfl, calm := rfl, room := hr, tk := takes_of rfl rfl rfl rfl, pw := passes_of rfl,
        fns := fun j x hx => hf.get j x hx, cons := fun j x hx => hc.get j x hx,
        excs := fun j x hx => let ⟨C, e1, e2, e3, e4, e5, e6⟩ := he j x hx; ⟨C, e1, e2, e3, e4, raises_own e5 e6⟩, blt := hl }
    refine ⟨_, sndSs S b body hb, ⟨fun _ => True, fun _ _ _ _ => trivial⟩, fun _ => none, ds.map (fun d => some (Sl.sh d)) ++ List.replicate (c.N.length - ps.length) none, ?_, ?_⟩
    · refine ⟨Same.refl _, h1, ?_, fun i j a e _ => (by cases e), fun i a e => (by cases e), fun i d e => ?_, fun i es e => ?_, trivial⟩
      · unfold L2.start
        rw [List.length_append, List.length_append, List.length_map, List.length_map, List.length_replicate, List.length_replicate, ← h2.length, hn]
      · exact start_get (N := c.N) (h2.mono (mask_same (Same.refl _) fun a q => q.elim .inl fun ⟨i, z⟩ => by cases z)) e
      · by_cases hi : i < ds.length
        · rw [List.getElem?_append_left (by rw [List.length_map]; exact hi), List.getElem?_map] at e
          cases e2 : ds[i]? with
          | none => rw [e2] at e; cases e
          | some d => rw [e2] at e; cases e
        · rw [List.getElem?_append_right (by rw [List.length_map]; omega), List.getElem?_replicate] at e
          split at e <;> cases e
    · unfold evF at h3
      rw [decide_eq_true hn] at h3
      dsimp only [cond_true] at h3
      cases e : evSs G b (ds.map (fun d => some (Sl.sh d)) ++ List.replicate (c.N.length - ps.length) none) with
      | bad => rw [e] at h3; exact h3
      | nx ρ' =>
        rw [e] at h3
        exact fun O σ H' st => h3 .non H' st.same .non
      | rt d =>
        rw [e] at h3
        exact h3
      | xc n ρ' =>
        rw [e] at h3
        exact fun O σ H' st => h3 H' st.same
theorem fn_step {k : Nat} {c : Ctx} {G : Ge} {b : List Sm} {x : Str} {ps : List Str} {f : Addr} {fd : FuncData} {qual : Str} {params : Arguments} {body : List Stmt}
    (F : FunD K x qual params body c.sc [] [] f fd) (hm : mg x = some (.ref f)) (Sc : FnScope c.N ps c.sc) (hb : chkSs c b body = true)
    (hbind : ∀ (kV doc pm : Value) (an : Option Addr) (cdv ct : Value) (us : List Value), us.length = ps.length → bindArgs (PySem.W.fnOf x qual params body c.sc .none kV doc pm an cdv ct) ⟨us, []⟩ = pure (ps.zip us))
    (hf : Fns P w K mg base k cl c.fns G.fn) (hc : Cos K mg c.cons G.co) (he : ExB K mg cl c.excs) (hl : ∀ y ∈ bltL, mg y = none) : FnB P w K mg base (k + 1) cl x (evF G ps.length c.N.length b) :=
  ⟨f, fd, ps, spF K cl (evF G ps.length c.N.length b), hm, F.kp, F.bindsN hbind, fn_core F Sc hb hf hc he hl, fun B H ds vs Q E h1 h2 h3 => ⟨B, ds, h1, h2, h3⟩⟩
end
/-! ### the end of a law -/
theorem walk_ofEB {l : PySem.W.OpenLaw} {n k : Nat} {q : Program} {loose : List Str} {XP : (Str → Option Value) → Heap → Prop} {YP : World → Heap → Prop} {d : DefRec} {CX : World → CXT} {x : Str}
    (hn : l.most = some n) (hn2 : n ≤ sizeLine) (hdf : d.params.defaults = []) (hr : Room k callerA)
    (F : ∀ (w : World) (mg : Str → Option Value) (fa : Addr) (h : Heap), YP w h → h.Ns mainGlobals mg → mg d.name = some (.ref fa) →
      ∃ (K : PySem.W.Frag) (fd : FuncData) (sp : Sp), K.In h ∧ (∀ (s : Shared) (u : Value), BindsTo s fd ⟨[u], []⟩ [(x, u)]) ∧
        (∀ (H : Hp) (a : Addr) (ns : List Int), ns.length ≤ n → (∀ z ∈ ns, Builtin.Int.intBits z ≤ 1048576) → Only H → SqL K H a (ns.map V.int) → sp [.ref a] H (fun v _ => v = .bl true) fun _ _ _ => False) ∧
        ∀ base : Heap, K.In base → base.Ns mainGlobals mg → FnOk l.prog w K mg base (CX w) k fa fd [x] sp)
    (hCX : ∀ (w : World) (H : Hp) (s : Shared) (e : Value) (s' : Shared), CX w [] H s (fun _ _ _ => False) e s' → False) :
    PySem.W.WalkO q loose XP YP l.row.toRowW d [] (fun f vs => PySem.call f vs) := by
  refine Att.attach_callB hn hdf fun w s₀ s₁ mg mb fa o pm cd doc a vs ns G Y ho hd hcd hmg hobj hints hlen hbits hg => ?_
  obtain ⟨K, fd, sp, KX, hb, hsp, hF⟩ := F w mg fa _ Y G.T.g hmg
  exact law_call KX G.T.g G.T.b G.T.builtins G.T.nolimit hg hobj hints (Nat.le_trans hlen hn2) hr hF hb (fun H hO hS => hsp H a ns hlen hbits hO hS) fun H e s' => hCX w H s₁ e s'
end FT

namespace FT
open PySem PySem.Spec PyProof.Rows L2
/-! ### the head's facts, with one more look -/
abbrev AlX : Type := Bool × He.AlD
def obsX (fa : List He.Fa) (fn : List He.DefD) (ex : PySem.W.Frag → Bool) (K : PySem.W.Frag) : AlX := (ex K, He.obsD fa fn K)
def valX (fn : List He.DefD) : AlX := (true, He.valD fn)
def obsXG (n : Nat) (fa : List He.Fa) (fn : List He.DefD) (ex : PySem.W.Frag → Bool) (g : Addr → Option Obj) : AlX := obsX fa fn ex (He.frG g (He.asD g n))
def SaysX (fa : List He.Fa) (fn : List He.DefD) (ex : PySem.W.Frag → Bool) (K : PySem.W.Frag) : Prop := obsX fa fn ex K = valX fn
def hookX (n : Nat) (fa : List He.Fa) (fn : List He.DefD) (ex : PySem.W.Frag → Bool) : PySem.W.Hook where
  α := AlX
  obs := fun s => obsXG n fa fn ex s.heap.get?
  val := fun _ => valX fn
  says := fun _ h => ∃ K : PySem.W.Frag, K.In h ∧ SaysX fa fn ex K
  of := fun _ _ e => ⟨_, He.frG_in, e⟩
  keeps := fun _ _ _ ⟨K, hK, c⟩ k => ⟨K, PySem.W.Frag.In.keeps hK k, c⟩
theorem obsXG_eq {n : Nat} {fa : List He.Fa} {fn : List He.DefD} {ex : PySem.W.Frag → Bool} {g : Addr → Option Obj} {s : Shared} (h : ∀ a, g a = s.heap.get? a) : obsXG n fa fn ex g = (hookX n fa fn ex).obs s := by
  have e : g = s.heap.get? := funext h
  rw [e] <;> rfl
section
variable {fa : List He.Fa} {fn : List He.DefD} {ex : PySem.W.Frag → Bool} {K : PySem.W.Frag}
theorem SaysX.d (c : SaysX fa fn ex K) : He.SaysD fa fn K := congrArg (fun z : AlX => z.2) c
theorem SaysX.x (c : SaysX fa fn ex K) : ex K = true := congrArg (fun z : AlX => z.1) c
end
/-- what a law's defs lean on -/
structure Zz (fa : List He.Fa) (fn : List He.DefD) (ex : PySem.W.Frag → Bool) (K : PySem.W.Frag) (mg : Str → Option Value) (base : Heap) : Prop where
  s : SaysX fa fn ex K
  X : K.In base
  G : base.Ns mainGlobals mg
section
variable {fa : List He.Fa} {fn : List He.DefD} {ex : PySem.W.Frag → Bool} {K : PySem.W.Frag} {mg : Str → Option Value} {base : Heap}
theorem Zz.ok (Z : Zz fa fn ex K mg base) {f : He.Fa} (h : f ∈ fa) : f.ok K = true := by
  have c1 := (He.ba (show ((fa.all fun f => f.ok K) && fn.all fun d => d.ok K) = true from congrArg (fun z : He.AlD => z.1) Z.s.d)).1
  exact List.all_eq_true.mp c1 f h
theorem Zz.bl (Z : Zz fa fn ex K mg base) (h : ∀ y ∈ bltL, He.Fa.free y ∈ fa) : ∀ y ∈ bltL, mg y = none := fun y hy => He.free_ok Z.X Z.G (Z.ok (h y hy))
def excN : Nat → Str
  | 0 => "FormError" | 1 => "NotAForm" | 2 => "NotATurning" | 3 => "NoBar" | 4 => "OtherBar" | 5 => "NotBare" | 6 => "OutOfBounds" | _ => "NotWritten"
def clK (K : PySem.W.Frag) : Nat → Value := fun j => .ref (He.ga K (excN j))
theorem mem_lookup {es : List (Nat × Str)} {j : Nat} {x : Str} : es.lookup j = some x → (j, x) ∈ es := by
  induction es with
  | nil => intro h; cases h
  | cons e es ih =>
    intro h
    obtain ⟨i, y⟩ := e
    rw [List.lookup_cons] at h
    cases q : (j == i) with
    | true =>
      rw [q] at h
      cases h
      rw [eq_of_beq q]
      exact List.mem_cons_self
    | false =>
      rw [q] at h
      exact List.mem_cons_of_mem _ (ih h)
theorem Zz.exb (Z : Zz fa fn ex K mg base) {es : List (Nat × Str)} (h : ∀ e ∈ es, excN e.1 = e.2 ∧ He.Fa.exc e.2 ∈ fa ∧ He.Fa.glo e.2 ∈ fa) : ExB K mg (clK K) es := fun j x hx => by
  obtain ⟨h1, h2, h3⟩ := h _ (mem_lookup hx)
  obtain ⟨e1, e2, e3, e4⟩ := He.exc_ok (Z.ok h2)
  refine ⟨He.ga K x, He.glo_ok Z.X Z.G (Z.ok h3), ?_, e1, e2, e3, e4⟩
  show Value.ref (He.ga K (excN j)) = _
  rw [h1]
theorem Zz.int (Z : Zz fa fn ex K mg base) {x : Str} {i : Int} (h : He.Fa.int x i ∈ fa) : CoB K mg x (.int i) := by
  obtain ⟨t, e⟩ := He.int_ok Z.X Z.G (Z.ok h)
  exact ⟨.int i, _, e, ⟨t, rfl⟩, fun H => .int i⟩
theorem reps_dv {H : Hp} : ∀ ns : List Int, Reps K H (ns.map PyData.int) ((ns.map He.Dv.int).map (He.Dv.v K))
  | [] => .nil
  | n :: ns => .cons (.int n) (reps_dv ns)
theorem Zz.tup (Z : Zz fa fn ex K mg base) {x : Str} {ns : List Int} (h : He.Fa.glo x ∈ fa) (hx : He.tupB K x (ns.map He.Dv.int) = true) : CoB K mg x (.tuple (ns.map PyData.int)) :=
  ⟨.ref (He.ga K x), _, He.glo_ok Z.X Z.G (Z.ok h), rfl, fun H => .tup (He.tupB_ok hx H) (reps_dv ns)⟩
end
/-- the law's own promise -/
theorem law_sp {K : PySem.W.Frag} {cl : Nat → Value} {sp : Sp} {f : List D → R D}
    (hsp : ∀ (B : Addr → Prop) (H : Hp) (ds : List D) (vs : List V) (Q : VK) (E : XK), (∀ b, B b → ∃ o, H b = some o) → Reps K (mask B H) ds vs →
      (match f ds with
        | .bad => False
        | .exc c => ∀ H', Same H H' → E (cl c) none H'
        | .ok d => ∀ v H', Same H H' → Rep K (mask B H') d v → Q v H') → sp vs H Q E)
    {H : Hp} {a : Addr} {ns : List Int} (hS : SqL K H a (ns.map V.int)) (hf : f [.list (ns.map .int)] = .ok (.bool true)) : sp [.ref a] H (fun v _ => v = .bl true) fun _ _ _ => False := by
  have em : mask (fun _ => False) H = H := by
    funext b
    exact mask_neg (fun q => q)
  refine hsp (fun _ => False) H [.list (ns.map .int)] [.ref a] _ _ (fun b q => q.elim) (by rw [em]; exact .cons (.lst hS (Reps.ints ns)) .nil) ?_
  rw [hf]
  exact fun v H' _ r => rep_bool r
theorem cx_end {P : Program} {w : World} {H : Hp} {s : Shared} {e : Value} {s' : Shared} (h : L2.CX P w [] H s (fun _ _ _ => False) e s') : False := by
  obtain ⟨_, _, _, _, _, _, _, _, _, _, _, _, z⟩ := h
  exact z
end FT

namespace FT
open PySem PySem.Spec PyProof.Rows L2

def b_is_whole : List Sm := [.ret (.and (.isi (.v 0) .int) [.not (.isi (.v 0) .bool)])]
noncomputable def G_is_whole : Ge := ⟨[], []⟩
noncomputable def sem_is_whole : List D → R D := evF G_is_whole 1 1 b_is_whole
def w1_is_form : List Sm := [.ife (.not (.call 0 (.v 1) [])) [.ret (.bl false)] []]
def b_is_form : List Sm := [.ife (.or (.not (.isi (.v 0) .tuple)) [.cmp .ne (.bi .len (.v 0) []) (.int 3)]) [.ret (.bl false)] [],
  .for_ 1 (.seq (.v 0)) w1_is_form,
  .ret (.and (.cmp .gt (.ix (.v 0) (.int 0)) (.int 0)) [.cmp .lt (.bin .mul (.ix (.v 0) (.int 1)) (.ix (.v 0) (.int 1))) (.bin .mul (.bin .mul (.int 4) (.ix (.v 0) (.int 0))) (.ix (.v 0) (.int 2)))])]
noncomputable def G_is_form : Ge := ⟨[sem_is_whole], []⟩
noncomputable def sem_is_form : List D → R D := evF G_is_form 1 2 b_is_form
def b_asked_form : List Sm := [.ife (.not (.call 0 (.v 0) [])) [.raise 1] [],
  .ret (.v 0)]
noncomputable def G_asked_form : Ge := ⟨[sem_is_form], []⟩
noncomputable def sem_asked_form : List D → R D := evF G_asked_form 1 1 b_asked_form
def w1_asked_turning : List Sm := [.ife (.not (.call 0 (.v 1) [])) [.raise 2] []]
def b_asked_turning : List Sm := [.ife (.or (.not (.isi (.v 0) .tuple)) [.cmp .ne (.bi .len (.v 0) []) (.int 4)]) [.raise 2] [],
  .for_ 1 (.seq (.v 0)) w1_asked_turning,
  .ife (.cmp .ne (.bin .sub (.bin .mul (.ix (.v 0) (.int 0)) (.ix (.v 0) (.int 3))) (.bin .mul (.ix (.v 0) (.int 1)) (.ix (.v 0) (.int 2)))) (.int 1)) [.raise 2] [],
  .ret (.v 0)]
noncomputable def G_asked_turning : Ge := ⟨[sem_is_whole], []⟩
noncomputable def sem_asked_turning : List D → R D := evF G_asked_turning 1 2 b_asked_turning
def b_turned : List Sm := [.ex (.call 0 (.v 0) []),
  .ex (.call 1 (.v 1) []),
  .set 2 (.ix (.v 1) (.int 0)),
  .set 3 (.ix (.v 1) (.int 1)),
  .set 4 (.ix (.v 1) (.int 2)),
  .set 5 (.ix (.v 1) (.int 3)),
  .set 6 (.bin .add (.bin .add (.bin .mul (.bin .mul (.ix (.v 0) (.int 0)) (.v 2)) (.v 2)) (.bin .mul (.bin .mul (.ix (.v 0) (.int 1)) (.v 2)) (.v 4))) (.bin .mul (.bin .mul (.ix (.v 0) (.int 2)) (.v 4)) (.v 4))),
  .set 7 (.bin .add (.bin .add (.bin .mul (.bin .mul (.bin .mul (.int 2) (.ix (.v 0) (.int 0))) (.v 2)) (.v 3)) (.bin .mul (.ix (.v 0) (.int 1)) (.bin .add (.bin .mul (.v 2) (.v 5)) (.bin .mul (.v 3) (.v 4))))) (.bin .mul (.bin .mul (.bin .mul (.int 2) (.ix (.v 0) (.int 2))) (.v 4)) (.v 5))),
  .set 8 (.bin .add (.bin .add (.bin .mul (.bin .mul (.ix (.v 0) (.int 0)) (.v 3)) (.v 3)) (.bin .mul (.bin .mul (.ix (.v 0) (.int 1)) (.v 3)) (.v 5))) (.bin .mul (.bin .mul (.ix (.v 0) (.int 2)) (.v 5)) (.v 5))),
  .ret (.tup [.v 6, .v 7, .v 8])]
noncomputable def G_turned : Ge := ⟨[sem_asked_form, sem_asked_turning], []⟩
noncomputable def sem_turned : List D → R D := evF G_turned 2 9 b_turned
def w1__law_ints : List Sm := [.ife (.or (.not (.isi (.v 2) .int)) [.isi (.v 2) .bool]) [.ret (.bl false)] []]
def b__law_ints : List Sm := [.ife (.or (.not (.isi (.v 0) .tuple)) [.cmp .ne (.bi .len (.v 0) []) (.v 1)]) [.ret (.bl false)] [],
  .for_ 2 (.seq (.v 0)) w1__law_ints,
  .ret (.bl true)]
noncomputable def G__law_ints : Ge := ⟨[], []⟩
noncomputable def sem__law_ints : List D → R D := evF G__law_ints 2 3 b__law_ints
def b__law_cell_at : List Sm := [.ife (.cmp .lt (.v 1) (.bi .len (.v 0) [])) [.ret (.ix (.v 0) (.v 1))] [],
  .ret (.int 0)]
noncomputable def G__law_cell_at : Ge := ⟨[], []⟩
noncomputable def sem__law_cell_at : List D → R D := evF G__law_cell_at 2 2 b__law_cell_at
def b__law_great : List Sm := [.ife (.cmp .eq (.bin .mod (.v 1) (.int 5)) (.int 0)) [.ret (.bin .mod (.bin .pow (.bin .add (.bin .mul (.v 0) (.int 7919)) (.v 1)) (.int 2)) (.bin .pow (.int 10) (.int 40)))] [],
  .ret (.bin .mod (.v 0) (.int 50))]
noncomputable def G__law_great : Ge := ⟨[], []⟩
noncomputable def sem__law_great : List D → R D := evF G__law_great 2 2 b__law_great
def b__law_worth : List Sm := [.set 2 (.ix (.v 1) (.int 0)),
  .set 3 (.ix (.v 1) (.int 1)),
  .ret (.bin .add (.bin .add (.bin .mul (.bin .mul (.ix (.v 0) (.int 0)) (.v 2)) (.v 2)) (.bin .mul (.bin .mul (.ix (.v 0) (.int 1)) (.v 2)) (.v 3))) (.bin .mul (.bin .mul (.ix (.v 0) (.int 2)) (.v 3)) (.v 3)))]
noncomputable def G__law_worth : Ge := ⟨[], []⟩
noncomputable def sem__law_worth : List D → R D := evF G__law_worth 2 4 b__law_worth
def b__law_sent : List Sm := [.set 2 (.bin .add (.bin .mul (.ix (.v 0) (.int 0)) (.ix (.v 1) (.int 0))) (.bin .mul (.ix (.v 0) (.int 1)) (.ix (.v 1) (.int 1)))),
  .set 3 (.bin .add (.bin .mul (.ix (.v 0) (.int 2)) (.ix (.v 1) (.int 0))) (.bin .mul (.ix (.v 0) (.int 3)) (.ix (.v 1) (.int 1)))),
  .ret (.tup [.v 2, .v 3])]
noncomputable def G__law_sent : Ge := ⟨[], []⟩
noncomputable def sem__law_sent : List D → R D := evF G__law_sent 2 4 b__law_sent
def w1__law_steps : List Sm := [.set 3 (.bin .sub (.bin .mod (.v 2) (.int 7)) (.int 3)), .ife (.cmp .eq (.bin .mod (.v 2) (.int 11)) (.int 5)) [.set 3 (.bin .sub (.bin .mod (.bin .mul (.v 2) (.int 48271)) (.int 2000003)) (.int 1000001))] [], .set 1 (.tup [.bin .add (.bin .mul (.ix (.v 1) (.int 0)) (.v 3)) (.ix (.v 1) (.int 1)), .neg (.ix (.v 1) (.int 0)), .bin .add (.bin .mul (.ix (.v 1) (.int 2)) (.v 3)) (.ix (.v 1) (.int 3)), .neg (.ix (.v 1) (.int 2))])]
def b__law_steps : List Sm := [.set 1 (.tup [.int 1, .int 0, .int 0, .int 1]),
  .for_ 2 (.seq (.v 0)) w1__law_steps,
  .ret (.v 1)]
noncomputable def G__law_steps : Ge := ⟨[], []⟩
noncomputable def sem__law_steps : List D → R D := evF G__law_steps 1 4 b__law_steps
def b__law_form_by : List Sm := [.set 2 (.bin .add (.int 1) (.call 0 (.call 1 (.v 0) [.v 1]) [.call 1 (.v 0) [.bin .add (.v 1) (.int 3)]])),
  .set 3 (.call 0 (.call 1 (.v 0) [.bin .add (.v 1) (.int 1)]) [.bin .fdiv (.call 1 (.v 0) [.bin .add (.v 1) (.int 3)]) (.int 5)]),
  .ife (.cmp .eq (.bin .mod (.bin .fdiv (.call 1 (.v 0) [.bin .add (.v 1) (.int 1)]) (.int 50)) (.int 2)) (.int 1)) [.set 3 (.neg (.v 3))] [],
  .set 4 (.bin .add (.bin .add (.bin .fdiv (.bin .mul (.v 3) (.v 3)) (.bin .mul (.int 4) (.v 2))) (.int 1)) (.call 0 (.call 1 (.v 0) [.bin .add (.v 1) (.int 2)]) [.bin .add (.int 1) (.bin .fdiv (.call 1 (.v 0) [.bin .add (.v 1) (.int 3)]) (.int 25))])),
  .ret (.tup [.v 2, .v 3, .v 4])]
noncomputable def G__law_form_by : Ge := ⟨[sem__law_great, sem__law_cell_at], []⟩
noncomputable def sem__law_form_by : List D → R D := evF G__law_form_by 2 5 b__law_form_by
def b_behind : List Sm := [.ex (.call 0 (.v 0) []),
  .ex (.call 0 (.v 1) []),
  .set 2 (.bin .add (.bin .mul (.ix (.v 0) (.int 0)) (.ix (.v 1) (.int 0))) (.bin .mul (.ix (.v 0) (.int 1)) (.ix (.v 1) (.int 2)))),
  .set 3 (.bin .add (.bin .mul (.ix (.v 0) (.int 0)) (.ix (.v 1) (.int 1))) (.bin .mul (.ix (.v 0) (.int 1)) (.ix (.v 1) (.int 3)))),
  .set 4 (.bin .add (.bin .mul (.ix (.v 0) (.int 2)) (.ix (.v 1) (.int 0))) (.bin .mul (.ix (.v 0) (.int 3)) (.ix (.v 1) (.int 2)))),
  .set 5 (.bin .add (.bin .mul (.ix (.v 0) (.int 2)) (.ix (.v 1) (.int 1))) (.bin .mul (.ix (.v 0) (.int 3)) (.ix (.v 1) (.int 3)))),
  .ret (.tup [.v 2, .v 3, .v 4, .v 5])]
noncomputable def G_behind : Ge := ⟨[sem_asked_turning], []⟩
noncomputable def sem_behind : List D → R D := evF G_behind 2 6 b_behind
def b_way_back : List Sm := [.ex (.call 0 (.v 0) []),
  .ret (.tup [.ix (.v 0) (.int 3), .neg (.ix (.v 0) (.int 1)), .neg (.ix (.v 0) (.int 2)), .ix (.v 0) (.int 0)])]
noncomputable def G_way_back : Ge := ⟨[sem_asked_turning], []⟩
noncomputable def sem_way_back : List D → R D := evF G_way_back 1 1 b_way_back
def w1_common : List Sm := [.set 4 (.bi .divmod (.ix (.v 2) (.int 0)) [.ix (.v 3) (.int 0)]), .set 5 (.tup [.ix (.v 4) (.int 1), .bin .sub (.ix (.v 2) (.int 1)) (.bin .mul (.ix (.v 4) (.int 0)) (.ix (.v 3) (.int 1))), .bin .sub (.ix (.v 2) (.int 2)) (.bin .mul (.ix (.v 4) (.int 0)) (.ix (.v 3) (.int 2)))]), .set 2 (.v 3), .set 3 (.v 5)]
def b_common : List Sm := [.set 2 (.tup [.v 0, .int 1, .int 0]),
  .set 3 (.tup [.v 1, .int 0, .int 1]),
  .while_ (.cmp .ne (.ix (.v 3) (.int 0)) (.int 0)) w1_common,
  .ife (.cmp .lt (.ix (.v 2) (.int 0)) (.int 0)) [.ret (.tup [.neg (.ix (.v 2) (.int 0)), .neg (.ix (.v 2) (.int 1)), .neg (.ix (.v 2) (.int 2))])] [],
  .ret (.v 2)]
noncomputable def G_common : Ge := ⟨[], []⟩
noncomputable def sem_common : List D → R D := evF G_common 2 6 b_common
def b_bar_of : List Sm := [.ex (.call 0 (.v 0) []),
  .ret (.bin .sub (.bin .mul (.ix (.v 0) (.int 1)) (.ix (.v 0) (.int 1))) (.bin .mul (.bin .mul (.int 4) (.ix (.v 0) (.int 0))) (.ix (.v 0) (.int 2))))]
noncomputable def G_bar_of : Ge := ⟨[sem_asked_form], []⟩
noncomputable def sem_bar_of : List D → R D := evF G_bar_of 1 1 b_bar_of
def b_worth : List Sm := [.ex (.call 0 (.v 0) []),
  .set 2 (.ix (.v 1) (.int 0)),
  .set 3 (.ix (.v 1) (.int 1)),
  .ret (.bin .add (.bin .add (.bin .mul (.bin .mul (.ix (.v 0) (.int 0)) (.v 2)) (.v 2)) (.bin .mul (.bin .mul (.ix (.v 0) (.int 1)) (.v 2)) (.v 3))) (.bin .mul (.bin .mul (.ix (.v 0) (.int 2)) (.v 3)) (.v 3)))]
noncomputable def G_worth : Ge := ⟨[sem_asked_form], []⟩
noncomputable def sem_worth : List D → R D := evF G_worth 2 4 b_worth
def b_is_bare : List Sm := [.ex (.call 0 (.v 0) []),
  .ret (.cmp .eq (.ix (.call 1 (.ix (.call 1 (.ix (.v 0) (.int 0)) [.ix (.v 0) (.int 1)]) (.int 0)) [.ix (.v 0) (.int 2)]) (.int 0)) (.int 1))]
noncomputable def G_is_bare : Ge := ⟨[sem_asked_form, sem_common], []⟩
noncomputable def sem_is_bare : List D → R D := evF G_is_bare 1 1 b_is_bare
def w1__law_divisor : List Sm := [.set 2 (.bin .mod (.v 0) (.v 1)), .set 0 (.v 1), .set 1 (.v 2)]
def b__law_divisor : List Sm := [.while_ (.cmp .ne (.v 1) (.int 0)) w1__law_divisor,
  .ret (.bi .abs (.v 0) [])]
noncomputable def G__law_divisor : Ge := ⟨[], []⟩
noncomputable def sem__law_divisor : List D → R D := evF G__law_divisor 2 3 b__law_divisor
def b_is_least : List Sm := [.ex (.call 0 (.v 0) []),
  .set 1 (.ix (.v 0) (.int 0)),
  .set 2 (.ix (.v 0) (.int 1)),
  .set 3 (.ix (.v 0) (.int 2)),
  .ife (.or (.cmp .gt (.v 2) (.v 1)) [.cmp .le (.v 2) (.neg (.v 1)), .cmp .gt (.v 1) (.v 3)]) [.ret (.bl false)] [],
  .ret (.or (.cmp .lt (.v 1) (.v 3)) [.cmp .ge (.v 2) (.int 0)])]
noncomputable def G_is_least : Ge := ⟨[sem_asked_form], []⟩
noncomputable def sem_is_least : List D → R D := evF G_is_least 1 4 b_is_least
def b_shift_of : List Sm := [.ret (.tup [.int 1, .bin .fdiv (.bin .sub (.ix (.v 0) (.int 0)) (.ix (.v 0) (.int 1))) (.bin .mul (.int 2) (.ix (.v 0) (.int 0))), .int 0, .int 1])]
noncomputable def G_shift_of : Ge := ⟨[], []⟩
noncomputable def sem_shift_of : List D → R D := evF G_shift_of 1 1 b_shift_of
def w1_least_of : List Sm := [.set 3 (.call 2 (.v 2) []), .set 4 (.call 3 (.v 2) [.v 3]), .ife (.not (.call 1 (.v 4) [])) [.set 3 (.call 4 (.v 3) [.glob 1])] [], .set 1 (.call 4 (.v 1) [.v 3]), .set 2 (.call 3 (.v 0) [.v 1])]
def b_least_of : List Sm := [.ex (.call 0 (.v 0) []),
  .set 1 (.glob 0),
  .set 2 (.v 0),
  .while_ (.not (.call 1 (.v 2) [])) w1_least_of,
  .ret (.tup [.v 2, .v 1])]
noncomputable def G_least_of : Ge := ⟨[sem_asked_form, sem_is_least, sem_shift_of, sem_turned, sem_behind], [.tuple [.int 1, .int 0, .int 0, .int 1], .tuple [.int 0, .int (-1), .int 1, .int 0]]⟩
noncomputable def sem_least_of : List D → R D := evF G_least_of 1 5 b_least_of
def b__law_turned : List Sm := [.set 2 (.call 0 (.v 0) [.tup [.ix (.v 1) (.int 0), .ix (.v 1) (.int 2)]]),
  .set 3 (.call 0 (.v 0) [.tup [.ix (.v 1) (.int 1), .ix (.v 1) (.int 3)]]),
  .set 4 (.call 0 (.v 0) [.tup [.bin .add (.ix (.v 1) (.int 0)) (.ix (.v 1) (.int 1)), .bin .add (.ix (.v 1) (.int 2)) (.ix (.v 1) (.int 3))]]),
  .ret (.tup [.v 2, .bin .sub (.bin .sub (.v 4) (.v 2)) (.v 3), .v 3])]
noncomputable def G__law_turned : Ge := ⟨[sem__law_worth], []⟩
noncomputable def sem__law_turned : List D → R D := evF G__law_turned 2 5 b__law_turned
def b__law_good : List Sm := [.ife (.or (.not (.call 0 (.v 0) [.int 3])) [.cmp .gt (.ix (.v 0) (.int 1)) (.ix (.v 0) (.int 0)), .cmp .le (.ix (.v 0) (.int 1)) (.neg (.ix (.v 0) (.int 0))), .cmp .gt (.ix (.v 0) (.int 0)) (.ix (.v 0) (.int 2))]) [.ret (.bl false)] [],
  .ret (.and (.cmp .gt (.ix (.v 0) (.int 0)) (.int 0)) [.or (.cmp .lt (.ix (.v 0) (.int 0)) (.ix (.v 0) (.int 2))) [.cmp .ge (.ix (.v 0) (.int 1)) (.int 0)]])]
noncomputable def G__law_good : Ge := ⟨[sem__law_ints], []⟩
noncomputable def sem__law_good : List D → R D := evF G__law_good 1 1 b__law_good
def b__law_least_by : List Sm := [.set 2 (.bin .mod (.call 0 (.v 0) [.bin .add (.v 1) (.int 3)]) (.int 6)),
  .set 3 (.bin .add (.int 1) (.call 1 (.call 0 (.v 0) [.v 1]) [.call 0 (.v 0) [.bin .add (.v 1) (.int 3)]])),
  .set 4 (.bin .sub (.v 3) (.bin .mod (.bin .add (.bin .mul (.call 0 (.v 0) [.bin .add (.v 1) (.int 1)]) (.int 7919)) (.v 1)) (.bin .mul (.int 2) (.v 3)))),
  .set 5 (.bin .add (.v 3) (.call 1 (.call 0 (.v 0) [.bin .add (.v 1) (.int 2)]) [.bin .fdiv (.call 0 (.v 0) [.bin .add (.v 1) (.int 3)]) (.int 6)])),
  .ife (.cmp .eq (.v 2) (.int 1)) [.ret (.tup [.v 3, .v 3, .v 3])] [],
  .ife (.cmp .eq (.v 2) (.int 2)) [.ret (.tup [.v 3, .int 0, .v 3])] [],
  .ife (.cmp .eq (.v 2) (.int 3)) [.set 5 (.v 3)] [],
  .ife (.and (.cmp .eq (.v 3) (.v 5)) [.cmp .lt (.v 4) (.int 0)]) [.ret (.tup [.v 3, .neg (.v 4), .v 5])] [],
  .ret (.tup [.v 3, .v 4, .v 5])]
noncomputable def G__law_least_by : Ge := ⟨[sem__law_cell_at, sem__law_great], []⟩
noncomputable def sem__law_least_by : List D → R D := evF G__law_least_by 2 6 b__law_least_by
def b_alike : List Sm := [.set 2 (.call 0 (.v 0) []),
  .set 3 (.call 0 (.v 1) []),
  .ife (.cmp .eq (.ix (.v 2) (.int 0)) (.ix (.v 3) (.int 0))) [.ret (.tup [.bl true, .call 1 (.ix (.v 2) (.int 1)) [.call 2 (.ix (.v 3) (.int 1)) []]])] [],
  .ret (.tup [.bl false, .ix (.v 2) (.int 0), .ix (.v 3) (.int 0)])]
noncomputable def G_alike : Ge := ⟨[sem_least_of, sem_behind, sem_way_back], []⟩
noncomputable def sem_alike : List D → R D := evF G_alike 2 4 b_alike
def b__law_verdict : List Sm := [.ife (.or (.not (.isi (.v 0) .tuple)) [.cmp .lt (.bi .len (.v 0) []) (.int 2)]) [.ret (.bl false)] [],
  .ife (.cmp .eq (.v 3) (.v 4)) [.ife (.or (.cmp .isnot (.ix (.v 0) (.int 0)) (.bl true)) [.cmp .ne (.bi .len (.v 0) []) (.int 2), .not (.call 0 (.ix (.v 0) (.int 1)) [.int 4])]) [.ret (.bl false)] [], .set 5 (.ix (.v 0) (.int 1)), .ret (.and (.cmp .eq (.bin .sub (.bin .mul (.ix (.v 5) (.int 0)) (.ix (.v 5) (.int 3))) (.bin .mul (.ix (.v 5) (.int 1)) (.ix (.v 5) (.int 2)))) (.int 1)) [.cmp .eq (.call 1 (.v 1) [.v 5]) (.v 2)])] [],
  .ife (.or (.cmp .isnot (.ix (.v 0) (.int 0)) (.bl false)) [.cmp .ne (.bi .len (.v 0) []) (.int 3), .not (.call 0 (.ix (.v 0) (.int 1)) [.int 3]), .not (.call 0 (.ix (.v 0) (.int 2)) [.int 3])]) [.ret (.bl false)] [],
  .ret (.and (.cmp .eq (.ix (.v 0) (.int 1)) (.v 3)) [.cmp .eq (.ix (.v 0) (.int 2)) (.v 4)])]
noncomputable def G__law_verdict : Ge := ⟨[sem__law_ints, sem__law_turned], []⟩
noncomputable def sem__law_verdict : List D → R D := evF G__law_verdict 5 6 b__law_verdict
def b_round_turnings : List Sm := [.ife (.and (.cmp .eq (.ix (.v 0) (.int 0)) (.ix (.v 0) (.int 1))) [.cmp .eq (.ix (.v 0) (.int 1)) (.ix (.v 0) (.int 2))]) [.ret (.lst [.glob 0, .glob 1, .call 0 (.glob 1) [.glob 1]])] [],
  .ife (.and (.cmp .eq (.ix (.v 0) (.int 0)) (.ix (.v 0) (.int 2))) [.cmp .eq (.ix (.v 0) (.int 1)) (.int 0)]) [.ret (.lst [.glob 0, .glob 2])] [],
  .ret (.lst [.glob 0])]
noncomputable def G_round_turnings : Ge := ⟨[sem_behind], [.tuple [.int 1, .int 0, .int 0, .int 1], .tuple [.int 0, .int (-1), .int 1, .int 1], .tuple [.int 0, .int (-1), .int 1, .int 0]]⟩
noncomputable def sem_round_turnings : List D → R D := evF G_round_turnings 1 1 b_round_turnings
def b_smallest : List Sm := [.set 1 (.call 0 (.v 0) []),
  .ret (.tup [.ix (.ix (.v 1) (.int 0)) (.int 0), .tup [.ix (.ix (.v 1) (.int 1)) (.int 0), .ix (.ix (.v 1) (.int 1)) (.int 2)]])]
noncomputable def G_smallest : Ge := ⟨[sem_least_of], []⟩
noncomputable def sem_smallest : List D → R D := evF G_smallest 1 2 b_smallest
def b__law_after : List Sm := [.set 2 (.call 0 (.v 0) [.tup [.ix (.v 1) (.int 0), .ix (.v 1) (.int 2)]]),
  .set 3 (.call 0 (.v 0) [.tup [.ix (.v 1) (.int 1), .ix (.v 1) (.int 3)]]),
  .ret (.tup [.ix (.v 2) (.int 0), .ix (.v 3) (.int 0), .ix (.v 2) (.int 1), .ix (.v 3) (.int 1)])]
noncomputable def G__law_after : Ge := ⟨[sem__law_sent], []⟩
noncomputable def sem__law_after : List D → R D := evF G__law_after 2 4 b__law_after
def b__law_own : List Sm := [.ife (.and (.cmp .eq (.ix (.v 0) (.int 0)) (.ix (.v 0) (.int 1))) [.cmp .eq (.ix (.v 0) (.int 1)) (.ix (.v 0) (.int 2))]) [.ret (.lst [.tup [.int 1, .int 0, .int 0, .int 1], .tup [.int 0, .neg (.int 1), .int 1, .int 1], .tup [.neg (.int 1), .neg (.int 1), .int 1, .int 0]])] [],
  .ife (.and (.cmp .eq (.ix (.v 0) (.int 0)) (.ix (.v 0) (.int 2))) [.cmp .eq (.ix (.v 0) (.int 1)) (.int 0)]) [.ret (.lst [.tup [.int 1, .int 0, .int 0, .int 1], .tup [.int 0, .neg (.int 1), .int 1, .int 0]])] [],
  .ret (.lst [.tup [.int 1, .int 0, .int 0, .int 1]])]
noncomputable def G__law_own : Ge := ⟨[], []⟩
noncomputable def sem__law_own : List D → R D := evF G__law_own 1 1 b__law_own
def w1_root_of : List Sm := [.set 1 (.v 2), .set 2 (.bin .shr (.bin .add (.v 1) (.bin .fdiv (.v 0) (.v 1))) (.int 1))]
def b_root_of : List Sm := [.set 1 (.v 0),
  .set 2 (.bin .shr (.bin .add (.v 0) (.int 1)) (.int 1)),
  .while_ (.cmp .lt (.v 2) (.v 1)) w1_root_of,
  .ret (.v 1)]
noncomputable def G_root_of : Ge := ⟨[], []⟩
noncomputable def sem_root_of : List D → R D := evF G_root_of 1 3 b_root_of
def b__law_small_by : List Sm := [.set 1 (.bin .mod (.call 0 (.v 0) [.int 3]) (.int 6)),
  .set 2 (.bin .add (.int 1) (.bin .mod (.call 0 (.v 0) [.int 0]) (.int 49))),
  .set 3 (.bin .sub (.v 2) (.bin .mod (.call 0 (.v 0) [.int 1]) (.bin .mul (.int 2) (.v 2)))),
  .set 4 (.bin .add (.v 2) (.bin .mod (.call 0 (.v 0) [.int 2]) (.int 49))),
  .ife (.cmp .eq (.v 1) (.int 1)) [.ret (.tup [.v 2, .v 2, .v 2])] [],
  .ife (.cmp .eq (.v 1) (.int 2)) [.ret (.tup [.v 2, .int 0, .v 2])] [],
  .ife (.and (.cmp .eq (.v 2) (.v 4)) [.cmp .lt (.v 3) (.int 0)]) [.ret (.tup [.v 2, .neg (.v 3), .v 4])] [],
  .ret (.tup [.v 2, .v 3, .v 4])]
noncomputable def G__law_small_by : Ge := ⟨[sem__law_cell_at], []⟩
noncomputable def sem__law_small_by : List D → R D := evF G__law_small_by 1 5 b__law_small_by
def w1__law_rising : List Sm := [.ife (.or (.not (.call 0 (.ix (.v 0) (.v 3)) [.int 2])) [.cmp .ne (.call 1 (.v 1) [.ix (.v 0) (.v 3)]) (.v 2)]) [.ret (.bl false)] [], .ife (.and (.cmp .gt (.v 3) (.int 0)) [.cmp .ge (.ix (.v 0) (.bin .sub (.v 3) (.int 1))) (.ix (.v 0) (.v 3))]) [.ret (.bl false)] []]
def b__law_rising : List Sm := [.ife (.not (.isi (.v 0) .list)) [.ret (.bl false)] [],
  .for_ 3 (.rng1 (.bi .len (.v 0) [])) w1__law_rising,
  .ret (.bl true)]
noncomputable def G__law_rising : Ge := ⟨[sem__law_ints, sem__law_worth], []⟩
noncomputable def sem__law_rising : List D → R D := evF G__law_rising 3 4 b__law_rising
def b_asked_bar : List Sm := [.ife (.or (.not (.call 0 (.v 0) [])) [.cmp .ge (.v 0) (.int 0), .cmp .gt (.bin .band (.v 0) (.int 3)) (.int 1)]) [.raise 3] [],
  .ife (.and (.cmp .isnot (.v 1) .non) [.cmp .lt (.v 0) (.v 1)]) [.raise 3] [],
  .ret (.v 0)]
noncomputable def G_asked_bar : Ge := ⟨[sem_is_whole], []⟩
noncomputable def sem_asked_bar : List D → R D := evF G_asked_bar 2 2 b_asked_bar
def w1_least_forms : List Sm := [.set 4 (.bi .divmod (.bin .sub (.bin .mul (.v 3) (.v 3)) (.v 0)) [.bin .mul (.int 4) (.v 2)]), .ife (.and (.cmp .eq (.ix (.v 4) (.int 1)) (.int 0)) [.call 2 (.tup [.v 2, .v 3, .ix (.v 4) (.int 0)]) []]) [.app 1 (.tup [.v 2, .v 3, .ix (.v 4) (.int 0)])] []]
def w2_least_forms : List Sm := [.for_ 3 (.rng2 (.bin .sub (.int 1) (.v 2)) (.bin .add (.v 2) (.int 1))) w1_least_forms]
def b_least_forms : List Sm := [.ex (.call 0 (.v 0) [.glob 0]),
  .setL 1 [],
  .for_ 2 (.rng2 (.int 1) (.bin .add (.call 1 (.bin .fdiv (.neg (.v 0)) (.int 3)) []) (.int 1))) w2_least_forms,
  .frz 1,
  .ret (.v 1)]
noncomputable def G_least_forms : Ge := ⟨[sem_asked_bar, sem_root_of, sem_is_least], [.int (-4000)]⟩
noncomputable def sem_least_forms : List D → R D := evF G_least_forms 1 5 b_least_forms
def b_asked_pair : List Sm := [.ife (.cmp .ne (.call 0 (.v 0) []) (.call 0 (.v 1) [])) [.raise 4] [],
  .ife (.or (.not (.call 1 (.v 0) [])) [.not (.call 1 (.v 1) [])]) [.raise 5] []]
noncomputable def G_asked_pair : Ge := ⟨[sem_bar_of, sem_is_bare], []⟩
noncomputable def sem_asked_pair : List D → R D := evF G_asked_pair 2 2 b_asked_pair
def b_rows_of : List Sm := [.set 4 (.ix (.v 2) (.int 1)),
  .set 5 (.bin .fdiv (.bin .add (.ix (.v 0) (.int 1)) (.ix (.v 1) (.int 1))) (.int 2)),
  .set 6 (.bin .fdiv (.bin .mul (.v 3) (.bin .sub (.ix (.v 1) (.int 1)) (.v 4))) (.bin .mul (.int 2) (.ix (.v 1) (.int 0)))),
  .set 7 (.bin .fdiv (.bin .mul (.v 3) (.bin .sub (.ix (.v 0) (.int 1)) (.v 4))) (.bin .mul (.int 2) (.ix (.v 0) (.int 0)))),
  .set 8 (.bin .fdiv (.bin .mul (.v 3) (.bin .sub (.bin .add (.bin .mul (.ix (.v 0) (.int 1)) (.ix (.v 1) (.int 1))) (.call 0 (.v 0) [])) (.bin .mul (.v 4) (.bin .add (.ix (.v 0) (.int 1)) (.ix (.v 1) (.int 1)))))) (.bin .mul (.bin .mul (.int 4) (.ix (.v 0) (.int 0))) (.ix (.v 1) (.int 0)))),
  .set 9 (.tup [.v 3, .v 6, .v 7, .v 8]),
  .set 10 (.tup [.int 0, .bin .fdiv (.ix (.v 0) (.int 0)) (.v 3), .bin .fdiv (.ix (.v 1) (.int 0)) (.v 3), .bin .fdiv (.v 5) (.v 3)]),
  .ret (.tup [.v 9, .v 10])]
noncomputable def G_rows_of : Ge := ⟨[sem_bar_of], []⟩
noncomputable def sem_rows_of : List D → R D := evF G_rows_of 4 11 b_rows_of
def w1_turned_rows : List Sm := [.app 3 (.bin .add (.bin .mul (.ix (.v 2) (.int 0)) (.ix (.ix (.v 0) (.int 0)) (.v 5))) (.bin .mul (.ix (.v 2) (.int 1)) (.ix (.ix (.v 0) (.int 1)) (.v 5)))), .app 4 (.bin .add (.bin .mul (.ix (.v 2) (.int 2)) (.ix (.ix (.v 0) (.int 0)) (.v 5))) (.bin .mul (.ix (.v 2) (.int 3)) (.ix (.ix (.v 0) (.int 1)) (.v 5))))]
def b_turned_rows : List Sm := [.set 2 (.call 0 (.v 1) []),
  .setL 3 [],
  .setL 4 [],
  .for_ 5 (.rng1 (.int 4)) w1_turned_rows,
  .frz 3,
  .frz 4,
  .ret (.tup [.bi .tuple (.v 3) [], .bi .tuple (.v 4) []])]
noncomputable def G_turned_rows : Ge := ⟨[sem_way_back], []⟩
noncomputable def sem_turned_rows : List D → R D := evF G_turned_rows 2 6 b_turned_rows
def b_joined : List Sm := [.ex (.call 0 (.v 0) [.v 1]),
  .set 2 (.call 1 (.v 0) []),
  .set 3 (.bin .fdiv (.bin .add (.ix (.v 0) (.int 1)) (.ix (.v 1) (.int 1))) (.int 2)),
  .set 4 (.call 2 (.ix (.v 0) (.int 0)) [.ix (.v 1) (.int 0)]),
  .set 5 (.call 2 (.ix (.v 4) (.int 0)) [.v 3]),
  .set 6 (.ix (.v 5) (.int 0)),
  .set 7 (.bin .mul (.ix (.v 5) (.int 1)) (.ix (.v 4) (.int 1))),
  .set 8 (.bin .mul (.ix (.v 5) (.int 1)) (.ix (.v 4) (.int 2))),
  .set 9 (.ix (.v 5) (.int 2)),
  .set 10 (.bin .fdiv (.bin .mul (.ix (.v 0) (.int 0)) (.ix (.v 1) (.int 0))) (.bin .mul (.v 6) (.v 6))),
  .set 11 (.bin .fdiv (.bin .add (.bin .mul (.ix (.v 0) (.int 1)) (.ix (.v 1) (.int 1))) (.v 2)) (.int 2)),
  .set 12 (.bin .mod (.bin .fdiv (.bin .add (.bin .add (.bin .mul (.bin .mul (.v 7) (.ix (.v 0) (.int 0))) (.ix (.v 1) (.int 1))) (.bin .mul (.bin .mul (.v 8) (.ix (.v 1) (.int 0))) (.ix (.v 0) (.int 1)))) (.bin .mul (.v 9) (.v 11))) (.v 6)) (.bin .mul (.int 2) (.v 10))),
  .set 13 (.tup [.v 10, .v 12, .bin .fdiv (.bin .sub (.bin .mul (.v 12) (.v 12)) (.v 2)) (.bin .mul (.int 4) (.v 10))]),
  .set 14 (.call 3 (.v 13) []),
  .set 15 (.call 4 (.call 5 (.v 0) [.v 1, .v 13, .v 6]) [.ix (.v 14) (.int 1)]),
  .ret (.tup [.ix (.v 14) (.int 0), .ix (.v 15) (.int 0), .ix (.v 15) (.int 1)])]
noncomputable def G_joined : Ge := ⟨[sem_asked_pair, sem_bar_of, sem_common, sem_least_of, sem_turned_rows, sem_rows_of], []⟩
noncomputable def sem_joined : List D → R D := evF G_joined 2 16 b_joined
def w1__law_fit : List Sm := [.ife (.cmp .ne (.call 0 (.v 2) [.v 1]) (.int 1)) [.ret (.bl false)] []]
def b__law_fit : List Sm := [.for_ 2 (.seq (.v 0)) w1__law_fit,
  .ret (.bl true)]
noncomputable def G__law_fit : Ge := ⟨[sem__law_divisor], []⟩
noncomputable def sem__law_fit : List D → R D := evF G__law_fit 2 3 b__law_fit
def w1__law_middle : List Sm := [.ife (.call 0 (.v 0) [.bin .add (.v 1) (.v 2)]) [.ret (.bin .add (.v 1) (.v 2))] []]
def b__law_middle : List Sm := [.for_ 2 (.rng1 (.int 40)) w1__law_middle,
  .ret (.int 1)]
noncomputable def G__law_middle : Ge := ⟨[sem__law_fit], []⟩
noncomputable def sem__law_middle : List D → R D := evF G__law_middle 2 3 b__law_middle
def w1__law_last : List Sm := [.set 3 (.bin .mul (.v 3) (.v 4))]
def b__law_last : List Sm := [.set 3 (.int 1),
  .for_ 4 (.seq (.v 0)) w1__law_last,
  .ret (.bin .add (.bin .add (.bin .fdiv (.bin .mul (.v 1) (.v 1)) (.bin .mul (.int 4) (.v 3))) (.int 1)) (.v 2))]
noncomputable def G__law_last : Ge := ⟨[], []⟩
noncomputable def sem__law_last : List D → R D := evF G__law_last 3 5 b__law_last
def b__law_sum : List Sm := [.set 3 (.bin .add (.bin .mul (.bin .mul (.ix (.v 0) (.int 0)) (.ix (.v 1) (.int 0))) (.ix (.v 2) (.int 0))) (.bin .mul (.bin .mul (.ix (.v 0) (.int 1)) (.ix (.v 1) (.int 0))) (.ix (.v 2) (.int 1)))),
  .ret (.bin .add (.bin .add (.v 3) (.bin .mul (.bin .mul (.ix (.v 0) (.int 2)) (.ix (.v 1) (.int 1))) (.ix (.v 2) (.int 0)))) (.bin .mul (.bin .mul (.ix (.v 0) (.int 3)) (.ix (.v 1) (.int 1))) (.ix (.v 2) (.int 1))))]
noncomputable def G__law_sum : Ge := ⟨[], []⟩
noncomputable def sem__law_sum : List D → R D := evF G__law_sum 3 4 b__law_sum
def w1__law_shown : List Sm := [.set 5 (.tup [.call 0 (.ix (.v 0) (.int 1)) [.v 3, .v 4], .call 0 (.ix (.v 0) (.int 2)) [.v 3, .v 4]]), .ife (.cmp .ne (.bin .mul (.call 1 (.v 1) [.v 3]) (.call 1 (.v 2) [.v 4])) (.call 1 (.ix (.v 0) (.int 0)) [.v 5])) [.ret (.bl false)] []]
def w2__law_shown : List Sm := [.for_ 4 (.seq (.lst [.tup [.int 1, .int 0], .tup [.int 0, .int 1], .tup [.int 1, .int 1]])) w1__law_shown]
def b__law_shown : List Sm := [.for_ 3 (.seq (.lst [.tup [.int 1, .int 0], .tup [.int 0, .int 1], .tup [.int 1, .int 1]])) w2__law_shown,
  .ife (.cmp .ne (.bin .sub (.bin .mul (.ix (.ix (.v 0) (.int 1)) (.int 0)) (.ix (.ix (.v 0) (.int 2)) (.int 1))) (.bin .mul (.ix (.ix (.v 0) (.int 1)) (.int 1)) (.ix (.ix (.v 0) (.int 2)) (.int 0)))) (.ix (.v 1) (.int 0))) [.ret (.bl false)] [],
  .ret (.cmp .eq (.bin .sub (.bin .mul (.ix (.ix (.v 0) (.int 1)) (.int 0)) (.ix (.ix (.v 0) (.int 2)) (.int 2))) (.bin .mul (.ix (.ix (.v 0) (.int 1)) (.int 2)) (.ix (.ix (.v 0) (.int 2)) (.int 0)))) (.ix (.v 2) (.int 0)))]
noncomputable def G__law_shown : Ge := ⟨[sem__law_sum, sem__law_worth], []⟩
noncomputable def sem__law_shown : List D → R D := evF G__law_shown 3 6 b__law_shown
def b__law_leads : List Sm := [.set 2 (.call 0 (.v 0) [.v 1]),
  .ife (.or (.not (.isi (.v 2) .tuple)) [.cmp .ne (.bi .len (.v 2) []) (.int 2), .cmp .isnot (.ix (.v 2) (.int 0)) (.bl true), .not (.call 1 (.ix (.v 2) (.int 1)) [.int 4])]) [.ret (.bl false)] [],
  .set 3 (.ix (.v 2) (.int 1)),
  .ret (.and (.cmp .eq (.bin .sub (.bin .mul (.ix (.v 3) (.int 0)) (.ix (.v 3) (.int 3))) (.bin .mul (.ix (.v 3) (.int 1)) (.ix (.v 3) (.int 2)))) (.int 1)) [.cmp .eq (.call 2 (.v 0) [.v 3]) (.v 1)])]
noncomputable def G__law_leads : Ge := ⟨[sem_alike, sem__law_ints, sem__law_turned], []⟩
noncomputable def sem__law_leads : List D → R D := evF G__law_leads 2 4 b__law_leads
def b_neutral : List Sm := [.ex (.call 0 (.v 0) [.non]),
  .ret (.tup [.int 1, .bin .mod (.v 0) (.int 2), .bin .fdiv (.bin .sub (.bin .mod (.v 0) (.int 2)) (.v 0)) (.int 4)])]
noncomputable def G_neutral : Ge := ⟨[sem_asked_bar], []⟩
noncomputable def sem_neutral : List D → R D := evF G_neutral 1 1 b_neutral
def b_opposite : List Sm := [.ife (.not (.call 0 (.v 0) [])) [.raise 5] [],
  .ret (.ix (.call 1 (.tup [.ix (.v 0) (.int 0), .neg (.ix (.v 0) (.int 1)), .ix (.v 0) (.int 2)]) []) (.int 0))]
noncomputable def G_opposite : Ge := ⟨[sem_is_bare, sem_least_of], []⟩
noncomputable def sem_opposite : List D → R D := evF G_opposite 1 1 b_opposite
def b__law_stays : List Sm := [.set 2 (.call 0 (.v 1) []),
  .ife (.or (.not (.call 1 (.v 2) [.int 3])) [.cmp .ne (.ix (.v 2) (.int 0)) (.int 1), .cmp .ne (.ix (.v 2) (.int 1)) (.bin .mod (.v 1) (.int 2)), .cmp .ne (.bin .sub (.ix (.v 2) (.int 1)) (.bin .mul (.int 4) (.ix (.v 2) (.int 2)))) (.v 1)]) [.ret (.bl false)] [],
  .ife (.or (.cmp .ne (.ix (.call 2 (.v 0) [.v 2]) (.int 0)) (.ix (.call 3 (.v 0) []) (.int 0))) [.cmp .ne (.ix (.call 2 (.v 2) [.v 0]) (.int 0)) (.ix (.call 3 (.v 0) []) (.int 0))]) [.ret (.bl false)] [],
  .ret (.cmp .eq (.ix (.call 2 (.v 0) [.call 4 (.v 0) []]) (.int 0)) (.v 2))]
noncomputable def G__law_stays : Ge := ⟨[sem_neutral, sem__law_ints, sem_joined, sem_least_of, sem_opposite], []⟩
noncomputable def sem__law_stays : List D → R D := evF G__law_stays 2 3 b__law_stays
def w1_repeated : List Sm := [.ife (.cmp .eq (.bin .band (.v 4) (.int 1)) (.int 1)) [.set 3 (.ix (.call 6 (.v 3) [.v 2]) (.int 0))] [], .set 2 (.ix (.call 6 (.v 2) [.v 2]) (.int 0)), .set 4 (.bin .shr (.v 4) (.int 1))]
def b_repeated : List Sm := [.ife (.not (.call 0 (.v 0) [])) [.raise 5] [],
  .ife (.or (.not (.call 1 (.v 1) [])) [.cmp .lt (.v 1) (.neg (.glob 0)), .cmp .gt (.v 1) (.glob 0)]) [.raise 6] [],
  .set 2 (.ix (.call 2 (.v 0) []) (.int 0)),
  .ife (.cmp .lt (.v 1) (.int 0)) [.set 2 (.call 3 (.v 0) [])] [],
  .set 3 (.call 4 (.call 5 (.v 0) []) []),
  .set 4 (.bi .abs (.v 1) []),
  .while_ (.cmp .gt (.v 4) (.int 0)) w1_repeated,
  .ret (.v 3)]
noncomputable def G_repeated : Ge := ⟨[sem_is_bare, sem_is_whole, sem_least_of, sem_opposite, sem_neutral, sem_bar_of, sem_joined], [.int 1000]⟩
noncomputable def sem_repeated : List D → R D := evF G_repeated 2 5 b_repeated
def b__law_times : List Sm := [.ife (.cmp .eq (.bin .mod (.v 1) (.int 16)) (.int 1)) [.ret (.bin .sub (.int 500) (.bin .mod (.v 0) (.int 2)))] [],
  .ife (.cmp .eq (.bin .mod (.v 1) (.int 16)) (.int 3)) [.ret (.bin .sub (.bin .mod (.v 0) (.int 2)) (.int 500))] [],
  .ife (.cmp .eq (.bin .mod (.v 1) (.int 8)) (.int 5)) [.ret (.bin .sub (.bin .mod (.v 0) (.int 201)) (.int 100))] [],
  .ret (.bin .sub (.bin .mod (.v 0) (.int 19)) (.int 9))]
noncomputable def G__law_times : Ge := ⟨[], []⟩
noncomputable def sem__law_times : List D → R D := evF G__law_times 2 2 b__law_times
def w1_round_of : List Sm := [.app 2 (.ix (.call 2 (.ixo 2 (.neg (.int 1))) [.v 1]) (.int 0))]
def b_round_of : List Sm := [.ex (.call 0 (.call 1 (.v 0) []) [.glob 0]),
  .set 1 (.ix (.call 2 (.v 0) [.call 3 (.call 1 (.v 0) []) []]) (.int 0)),
  .setL 2 [.v 1],
  .while_ (.cmp .ne (.ixo 2 (.neg (.int 1))) (.call 3 (.call 1 (.v 0) []) [])) w1_round_of,
  .frz 2,
  .ret (.v 2)]
noncomputable def G_round_of : Ge := ⟨[sem_asked_bar, sem_bar_of, sem_joined, sem_neutral], [.int (-4000)]⟩
noncomputable def sem_round_of : List D → R D := evF G_round_of 1 3 b_round_of
def w1__law_bare_by : List Sm := [.set 3 (.int 1), .set 4 (.bin .mod (.v 4) (.int 2))]
def b__law_bare_by : List Sm := [.set 3 (.bin .add (.int 1) (.bin .mod (.call 0 (.v 0) [.v 1]) (.int 5))),
  .set 4 (.bin .sub (.v 3) (.bin .mod (.call 0 (.v 0) [.bin .add (.v 1) (.int 1)]) (.bin .mul (.int 2) (.v 3)))),
  .set 5 (.bin .add (.v 3) (.bin .mod (.call 0 (.v 0) [.bin .add (.v 1) (.int 2)]) (.bin .add (.bin .sub (.bin .fdiv (.bin .add (.v 2) (.bin .mul (.v 4) (.v 4))) (.bin .mul (.int 4) (.v 3))) (.v 3)) (.int 1)))),
  .ife (.and (.cmp .eq (.v 3) (.v 5)) [.cmp .lt (.v 4) (.int 0)]) [.set 4 (.neg (.v 4))] [],
  .while_ (.cmp .ne (.call 1 (.call 1 (.v 3) [.v 4]) [.v 5]) (.int 1)) w1__law_bare_by,
  .ret (.tup [.v 3, .v 4, .v 5])]
noncomputable def G__law_bare_by : Ge := ⟨[sem__law_cell_at, sem__law_divisor], []⟩
noncomputable def sem__law_bare_by : List D → R D := evF G__law_bare_by 3 6 b__law_bare_by
def w1__law_spread : List Sm := [.app 3 (.v 5), .set 5 (.ix (.call 0 (.v 5) [.v 1]) (.int 0))]
def w2__law_spread : List Sm := [.set 5 (.v 4), .for_ 6 (.rng1 (.v 2)) w1__law_spread, .ife (.cmp .ne (.v 5) (.v 4)) [.ret .non] []]
def b__law_spread : List Sm := [.setL 3 [],
  .for_ 4 (.seq (.v 0)) w2__law_spread,
  .frz 3,
  .ret (.v 3)]
noncomputable def G__law_spread : Ge := ⟨[sem_joined], []⟩
noncomputable def sem__law_spread : List D → R D := evF G__law_spread 3 7 b__law_spread
def w1_left_of_power : List Sm := [.ife (.cmp .eq (.bin .band (.v 1) (.int 1)) (.int 1)) [.set 3 (.bin .mod (.bin .mul (.v 3) (.v 4)) (.v 2))] [], .set 4 (.bin .mod (.bin .mul (.v 4) (.v 4)) (.v 2)), .set 1 (.bin .shr (.v 1) (.int 1))]
def b_left_of_power : List Sm := [.set 3 (.bin .mod (.int 1) (.v 2)),
  .set 4 (.bin .mod (.v 0) (.v 2)),
  .while_ (.cmp .gt (.v 1) (.int 0)) w1_left_of_power,
  .ret (.v 3)]
noncomputable def G_left_of_power : Ge := ⟨[], []⟩
noncomputable def sem_left_of_power : List D → R D := evF G_left_of_power 3 5 b_left_of_power
def w1_primes_of : List Sm := [.set 0 (.bin .fdiv (.v 0) (.v 2)), .aug 3 .add (.int 1)]
def w2_primes_of : List Sm := [.set 3 (.int 0), .while_ (.cmp .eq (.bin .mod (.v 0) (.v 2)) (.int 0)) w1_primes_of, .ife (.cmp .gt (.v 3) (.int 0)) [.app 1 (.tup [.v 2, .v 3])] [], .aug 2 .add (.int 1)]
def b_primes_of : List Sm := [.ife (.or (.not (.call 0 (.v 0) [])) [.cmp .lt (.v 0) (.int 1), .cmp .gt (.v 0) (.glob 0)]) [.raise 6] [],
  .setL 1 [],
  .set 2 (.int 2),
  .while_ (.cmp .le (.bin .mul (.v 2) (.v 2)) (.v 0)) w2_primes_of,
  .ife (.cmp .gt (.v 0) (.int 1)) [.app 1 (.tup [.v 0, .int 1])] [],
  .frz 1,
  .ret (.v 1)]
noncomputable def G_primes_of : Ge := ⟨[sem_is_whole], [.int 1000000]⟩
noncomputable def sem_primes_of : List D → R D := evF G_primes_of 1 4 b_primes_of
def b_side_of : List Sm := [.set 2 (.call 0 (.v 0) [.bin .shr (.v 1) (.int 1), .v 1]),
  .ife (.cmp .eq (.v 2) (.bin .sub (.v 1) (.int 1))) [.ret (.neg (.int 1))] [],
  .ret (.v 2)]
noncomputable def G_side_of : Ge := ⟨[sem_left_of_power], []⟩
noncomputable def sem_side_of : List D → R D := evF G_side_of 2 3 b_side_of
def b_sign_at : List Sm := [.ife (.cmp .eq (.v 0) (.int 4)) [.ret (.bin .sub (.int 2) (.bin .band (.v 1) (.int 3)))] [],
  .ife (.or (.cmp .eq (.v 0) (.int 8)) [.cmp .eq (.v 0) (.neg (.int 8))]) [.set 2 (.bin .band (.v 1) (.int 7)), .ife (.or (.cmp .eq (.v 2) (.int 1)) [.and (.cmp .eq (.v 2) (.int 7)) [.cmp .eq (.v 0) (.int 8)], .and (.cmp .eq (.v 2) (.int 3)) [.cmp .eq (.v 0) (.neg (.int 8))]]) [.ret (.int 1)] [], .ret (.neg (.int 1))] [],
  .ret (.call 0 (.v 1) [.v 0])]
noncomputable def G_sign_at : Ge := ⟨[sem_side_of], []⟩
noncomputable def sem_sign_at : List D → R D := evF G_sign_at 2 3 b_sign_at
def w1_free_place : List Sm := [.ife (.cmp .eq (.ix (.call 0 (.call 1 (.v 0) [.tup [.v 2, .bin .sub (.v 1) (.v 2)]]) [.bin .mul (.int 2) (.call 2 (.v 0) [])]) (.int 0)) (.int 1)) [.ret (.tup [.v 2, .bin .sub (.v 1) (.v 2)])] []]
def w2_free_place : List Sm := [.for_ 2 (.rng1 (.bin .add (.v 1) (.int 1))) w1_free_place, .aug 1 .add (.int 1)]
def b_free_place : List Sm := [.set 1 (.int 1),
  .while_ (.bl true) w2_free_place]
noncomputable def G_free_place : Ge := ⟨[sem_common, sem_worth, sem_bar_of], []⟩
noncomputable def sem_free_place : List D → R D := evF G_free_place 1 3 b_free_place
def w1__law_side : List Sm := [.ife (.cmp .eq (.bin .mod (.v 4) (.int 2)) (.int 1)) [.set 2 (.bin .mod (.bin .mul (.v 2) (.v 3)) (.v 1))] [], .set 3 (.bin .mod (.bin .mul (.v 3) (.v 3)) (.v 1)), .set 4 (.bin .fdiv (.v 4) (.int 2))]
def b__law_side : List Sm := [.set 2 (.int 1),
  .set 3 (.bin .mod (.v 0) (.v 1)),
  .set 4 (.bin .fdiv (.v 1) (.int 2)),
  .while_ (.cmp .gt (.v 4) (.int 0)) w1__law_side,
  .ret (.cmp .eq (.v 2) (.int 1))]
noncomputable def G__law_side : Ge := ⟨[], []⟩
noncomputable def sem__law_side : List D → R D := evF G__law_side 2 5 b__law_side
def b__law_plus : List Sm := [.ife (.cmp .eq (.v 0) (.int 4)) [.ret (.cmp .eq (.bin .mod (.v 1) (.int 4)) (.int 1))] [],
  .ife (.cmp .eq (.v 0) (.int 8)) [.ret (.or (.cmp .eq (.bin .mod (.v 1) (.int 8)) (.int 1)) [.cmp .eq (.bin .mod (.v 1) (.int 8)) (.int 7)])] [],
  .ife (.cmp .eq (.v 0) (.neg (.int 8))) [.ret (.or (.cmp .eq (.bin .mod (.v 1) (.int 8)) (.int 1)) [.cmp .eq (.bin .mod (.v 1) (.int 8)) (.int 3)])] [],
  .ret (.call 0 (.v 1) [.v 0])]
noncomputable def G__law_plus : Ge := ⟨[sem__law_side], []⟩
noncomputable def sem__law_plus : List D → R D := evF G__law_plus 2 2 b__law_plus
def w1__law_minus : List Sm := [.set 2 (.bin .mod (.bin .mul (.v 2) (.v 1)) (.v 0))]
def b__law_minus : List Sm := [.ife (.cmp .eq (.v 0) (.int 4)) [.ret (.cmp .eq (.bin .mod (.v 1) (.int 4)) (.int 3))] [],
  .ife (.cmp .eq (.v 0) (.int 8)) [.ret (.or (.cmp .eq (.bin .mod (.v 1) (.int 8)) (.int 3)) [.cmp .eq (.bin .mod (.v 1) (.int 8)) (.int 5)])] [],
  .ife (.cmp .eq (.v 0) (.neg (.int 8))) [.ret (.or (.cmp .eq (.bin .mod (.v 1) (.int 8)) (.int 5)) [.cmp .eq (.bin .mod (.v 1) (.int 8)) (.int 7)])] [],
  .set 2 (.int 1),
  .for_ 3 (.rng1 (.bin .fdiv (.v 0) (.int 2))) w1__law_minus,
  .ret (.cmp .eq (.v 2) (.bin .sub (.v 0) (.int 1)))]
noncomputable def G__law_minus : Ge := ⟨[], []⟩
noncomputable def sem__law_minus : List D → R D := evF G__law_minus 2 4 b__law_minus
def b_asked_prime : List Sm := [.ife (.or (.not (.call 0 (.v 1) [])) [.cmp .lt (.v 1) (.int 3), .cmp .gt (.v 1) (.glob 0), .cmp .ne (.call 1 (.v 1) []) (.lst [.tup [.v 1, .int 1]])]) [.raise 6] [],
  .ife (.cmp .eq (.bin .mod (.v 0) (.v 1)) (.int 0)) [.raise 6] [],
  .ret (.v 1)]
noncomputable def G_asked_prime : Ge := ⟨[sem_is_whole, sem_primes_of], [.int 10000]⟩
noncomputable def sem_asked_prime : List D → R D := evF G_asked_prime 2 2 b_asked_prime
def w1_root_by : List Sm := [.ife (.cmp .eq (.bin .mod (.bin .sub (.bin .mul (.v 2) (.v 2)) (.v 0)) (.bin .mul (.int 4) (.v 1))) (.int 0)) [.ret (.v 2)] []]
def b_root_by : List Sm := [.for_ 2 (.rng1 (.bin .mul (.int 2) (.v 1))) w1_root_by,
  .ret (.int 0)]
noncomputable def G_root_by : Ge := ⟨[], []⟩
noncomputable def sem_root_by : List D → R D := evF G_root_by 2 3 b_root_by
def b_prime_told : List Sm := [.ex (.call 0 (.v 0) [.neg (.glob 0)]),
  .ex (.call 1 (.v 0) [.v 1]),
  .ife (.cmp .eq (.call 2 (.v 0) [.v 1]) (.neg (.int 1))) [.ret (.tup [.bl false])] [],
  .set 2 (.call 3 (.v 0) [.v 1]),
  .set 3 (.call 4 (.tup [.v 1, .v 2, .bin .fdiv (.bin .sub (.bin .mul (.v 2) (.v 2)) (.v 0)) (.bin .mul (.int 4) (.v 1))]) []),
  .ret (.tup [.bl true, .ix (.v 3) (.int 0), .tup [.ix (.ix (.v 3) (.int 1)) (.int 3), .neg (.ix (.ix (.v 3) (.int 1)) (.int 2))]])]
noncomputable def G_prime_told : Ge := ⟨[sem_asked_bar, sem_asked_prime, sem_side_of, sem_root_by, sem_least_of], [.int 1000000]⟩
noncomputable def sem_prime_told : List D → R D := evF G_prime_told 2 4 b_prime_told
def w1__law_prime_from : List Sm := [.set 2 (.bin .add (.v 2) (.int 2))]
def w2__law_prime_from : List Sm := [.set 2 (.int 3), .while_ (.and (.cmp .le (.bin .mul (.v 2) (.v 2)) (.v 0)) [.cmp .ne (.bin .mod (.v 0) (.v 2)) (.int 0)]) w1__law_prime_from, .ife (.and (.cmp .gt (.bin .mul (.v 2) (.v 2)) (.v 0)) [.cmp .gt (.v 0) (.int 2), .cmp .ne (.bin .mod (.v 1) (.v 0)) (.int 0)]) [.ret (.v 0)] [], .set 0 (.bin .add (.v 0) (.int 2))]
def b__law_prime_from : List Sm := [.set 0 (.bin .bor (.v 0) (.int 1)),
  .while_ (.bl true) w2__law_prime_from]
noncomputable def G__law_prime_from : Ge := ⟨[], []⟩
noncomputable def sem__law_prime_from : List D → R D := evF G__law_prime_from 2 3 b__law_prime_from
def w1_mark_of : List Sm := [.set 4 (.int 0), .ife (.cmp .ne (.ix (.v 3) (.int 0)) (.int 2)) [.set 4 (.call 1 (.v 0) [.ix (.v 3) (.int 0)])] [.ife (.cmp .eq (.bin .band (.v 0) (.int 1)) (.int 1)) [.set 4 (.bin .sub (.int 1) (.bin .mul (.int 2) (.bin .band (.bin .bxor (.bin .shr (.v 0) (.int 2)) (.bin .shr (.v 0) (.int 1))) (.int 1))))] []], .ife (.or (.cmp .eq (.bin .band (.ix (.v 3) (.int 1)) (.int 1)) (.int 1)) [.cmp .eq (.v 4) (.int 0)]) [.set 2 (.bin .mul (.v 2) (.v 4))] []]
def b_mark_of : List Sm := [.set 2 (.int 1),
  .for_ 3 (.seq (.call 0 (.v 1) [])) w1_mark_of,
  .ret (.v 2)]
noncomputable def G_mark_of : Ge := ⟨[sem_primes_of, sem_side_of], []⟩
noncomputable def sem_mark_of : List D → R D := evF G_mark_of 2 5 b_mark_of
def b_units_of : List Sm := [.ife (.cmp .eq (.v 0) (.neg (.int 3))) [.ret (.int 6)] [],
  .ife (.cmp .eq (.v 0) (.neg (.int 4))) [.ret (.int 4)] [],
  .ret (.int 2)]
noncomputable def G_units_of : Ge := ⟨[], []⟩
noncomputable def sem_units_of : List D → R D := evF G_units_of 1 1 b_units_of
def w1_ways_sum : List Sm := [.ife (.cmp .eq (.bin .mod (.v 1) (.v 3)) (.int 0)) [.aug 2 .add (.call 3 (.v 0) [.v 3])] []]
def b_ways_sum : List Sm := [.ex (.call 0 (.v 0) [.non]),
  .ife (.or (.not (.call 1 (.v 1) [])) [.cmp .lt (.v 1) (.int 1), .cmp .gt (.v 1) (.glob 0), .cmp .ne (.ix (.call 2 (.v 0) [.v 1]) (.int 0)) (.int 1)]) [.raise 6] [],
  .set 2 (.int 0),
  .for_ 3 (.rng2 (.int 1) (.bin .add (.v 1) (.int 1))) w1_ways_sum,
  .ret (.bin .mul (.call 4 (.v 0) []) (.v 2))]
noncomputable def G_ways_sum : Ge := ⟨[sem_asked_bar, sem_is_whole, sem_common, sem_mark_of, sem_units_of], [.int 10000]⟩
noncomputable def sem_ways_sum : List D → R D := evF G_ways_sum 2 4 b_ways_sum
def w1__law_sides : List Sm := [.set 2 (.bin .mul (.v 2) (.call 0 (.v 0) [.v 3])), .set 1 (.bin .fdiv (.v 1) (.v 3))]
def w2__law_sides : List Sm := [.while_ (.cmp .eq (.bin .mod (.v 1) (.v 3)) (.int 0)) w1__law_sides, .set 3 (.bin .add (.v 3) (.int 1)), .ife (.and (.cmp .gt (.bin .mul (.v 3) (.v 3)) (.v 1)) [.cmp .gt (.v 1) (.int 1)]) [.set 2 (.bin .mul (.v 2) (.call 0 (.v 0) [.v 1])), .set 1 (.int 1)] []]
def b__law_sides : List Sm := [.set 2 (.int 1),
  .set 3 (.int 2),
  .while_ (.cmp .gt (.v 1) (.int 1)) w2__law_sides,
  .ret (.v 2)]
noncomputable def G__law_sides : Ge := ⟨[sem__law_side], []⟩
noncomputable def sem__law_sides : List D → R D := evF G__law_sides 2 4 b__law_sides
def w1__law_many : List Sm := [.ife (.cmp .eq (.bin .mod (.v 1) (.v 3)) (.int 0)) [.set 2 (.bin .add (.v 2) (.call 0 (.v 0) [.v 3]))] []]
def b__law_many : List Sm := [.set 2 (.int 0),
  .for_ 3 (.rng2 (.int 1) (.bin .add (.v 1) (.int 1))) w1__law_many,
  .ife (.cmp .eq (.v 0) (.neg (.int 3))) [.ret (.bin .mul (.int 6) (.v 2))] [],
  .ife (.cmp .eq (.v 0) (.neg (.int 4))) [.ret (.bin .mul (.int 4) (.v 2))] [],
  .ret (.bin .mul (.int 2) (.v 2))]
noncomputable def G__law_many : Ge := ⟨[sem__law_sides], []⟩
noncomputable def sem__law_many : List D → R D := evF G__law_many 2 4 b__law_many
def b__law_own_by : List Sm := [.set 2 (.bin .add (.int 1) (.bin .mod (.v 0) (.int 12))),
  .set 3 (.bin .sub (.bin .mod (.v 1) (.int 25)) (.int 12)),
  .set 4 (.bin .add (.bin .add (.bin .fdiv (.bin .mul (.v 3) (.v 3)) (.bin .mul (.int 4) (.v 2))) (.int 1)) (.bin .mod (.bin .fdiv (.bin .add (.v 0) (.v 1)) (.int 25)) (.int 12))),
  .ife (.cmp .eq (.bin .mod (.bin .fdiv (.v 1) (.int 25)) (.int 4)) (.int 1)) [.ret (.tup [.bin .mul (.int 2) (.v 2), .bin .mul (.int 2) (.v 3), .bin .mul (.int 2) (.v 4)])] [],
  .ife (.cmp .eq (.bin .mod (.bin .fdiv (.v 1) (.int 25)) (.int 16)) (.int 2)) [.ret (.tup [.int 1, .bin .mod (.v 0) (.int 2), .bin .add (.int 1001) (.bin .mod (.bin .mul (.v 0) (.int 48271)) (.int 400000))])] [],
  .ret (.tup [.v 2, .v 3, .v 4])]
noncomputable def G__law_own_by : Ge := ⟨[], []⟩
noncomputable def sem__law_own_by : List D → R D := evF G__law_own_by 2 5 b__law_own_by
def b__law_beside : List Sm := [.set 3 (.bin .mod (.bin .add (.v 1) (.v 2)) (.int 4)),
  .ife (.cmp .eq (.v 3) (.int 0)) [.ret (.tup [.ix (.v 0) (.int 2), .neg (.ix (.v 0) (.int 1)), .ix (.v 0) (.int 0)])] [],
  .ife (.cmp .eq (.v 3) (.int 1)) [.ret (.tup [.ix (.v 0) (.int 0), .neg (.ix (.v 0) (.int 1)), .ix (.v 0) (.int 2)])] [],
  .ife (.cmp .eq (.v 3) (.int 2)) [.ret (.tup [.ix (.v 0) (.int 0), .bin .add (.ix (.v 0) (.int 1)) (.bin .mul (.int 2) (.ix (.v 0) (.int 0))), .bin .add (.bin .add (.ix (.v 0) (.int 0)) (.ix (.v 0) (.int 1))) (.ix (.v 0) (.int 2))])] [],
  .ret (.call 0 (.bin .fdiv (.v 1) (.int 4)) [.bin .fdiv (.v 2) (.int 2)])]
noncomputable def G__law_beside : Ge := ⟨[sem__law_own_by], []⟩
noncomputable def sem__law_beside : List D → R D := evF G__law_beside 3 4 b__law_beside
def b__law_forms_by : List Sm := [.set 2 (.call 0 (.bin .fdiv (.v 0) (.int 4)) [.v 1]),
  .set 3 (.call 1 (.v 2) [.bin .fdiv (.v 0) (.int 7), .v 1]),
  .set 4 (.call 1 (.v 2) [.bin .fdiv (.v 1) (.int 3), .v 0]),
  .ret (.sl (.lst [.v 2, .v 3, .v 4]) [] [.bin .mod (.v 0) (.int 4)])]
noncomputable def G__law_forms_by : Ge := ⟨[sem__law_own_by, sem__law_beside], []⟩
noncomputable def sem__law_forms_by : List D → R D := evF G__law_forms_by 2 5 b__law_forms_by
def b__law_bar : List Sm := [.ret (.bin .sub (.bin .mul (.ix (.v 0) (.int 1)) (.ix (.v 0) (.int 1))) (.bin .mul (.bin .mul (.int 4) (.ix (.v 0) (.int 0))) (.ix (.v 0) (.int 2))))]
noncomputable def G__law_bar : Ge := ⟨[], []⟩
noncomputable def sem__law_bar : List D → R D := evF G__law_bar 1 1 b__law_bar
def w1__law_bare : List Sm := [.ife (.and (.cmp .eq (.bin .mod (.ix (.v 0) (.int 0)) (.v 1)) (.int 0)) [.cmp .eq (.bin .mod (.ix (.v 0) (.int 1)) (.v 1)) (.int 0), .cmp .eq (.bin .mod (.ix (.v 0) (.int 2)) (.v 1)) (.int 0)]) [.ret (.bl false)] []]
def b__law_bare : List Sm := [.for_ 1 (.rng2 (.int 2) (.int 40)) w1__law_bare,
  .ret (.bl true)]
noncomputable def G__law_bare : Ge := ⟨[], []⟩
noncomputable def sem__law_bare : List D → R D := evF G__law_bare 1 2 b__law_bare
def b__law_bad_form : List Sm := [.set 2 (.lst [.lst [.int 1, .int 0, .int 1], .tup [.int 1, .int 1], .tup [.bl true, .int 0, .int 1], .tup [.int 0, .int 1, .int 1], .tup [.int 1, .int 2, .int 1], .tup [.bin .sub (.neg (.int 1)) (.v 1), .int 0, .neg (.int 1)], .str "form"]),
  .ret (.ix (.bin .add (.v 2) (.lst [.non, .tup [.int 1, .str "b", .int 1], .tup [.int 1, .bin .add (.int 3) (.v 1), .int 1], .tup [.int 1, .int 0, .bin .sub (.int 0) (.v 1)], .tup [.int 1, .int 0, .int 1, .int 0]])) (.bin .mod (.v 0) (.int 12)))]
noncomputable def G__law_bad_form : Ge := ⟨[], []⟩
noncomputable def sem__law_bad_form : List D → R D := evF G__law_bad_form 2 3 b__law_bad_form
def w1__law_wide : List Sm := [.set 0 (.bin .add (.str " ") (.v 0))]
def b__law_wide : List Sm := [.while_ (.cmp .lt (.bi .len (.v 0) []) (.v 1)) w1__law_wide,
  .ret (.v 0)]
noncomputable def G__law_wide : Ge := ⟨[], []⟩
noncomputable def sem__law_wide : List D → R D := evF G__law_wide 2 2 b__law_wide
end FT

namespace FT
/-! ### Euler's criterion, by pairing -/
def Prm (p : Nat) : Prop := 2 ≤ p ∧ ∀ d, d ∣ p → d = 1 ∨ d = p
def prodL : List Nat → Nat
  | [] => 1
  | x :: xs => x * prodL xs
theorem prodL_erase : ∀ {L : List Nat} {y : Nat}, y ∈ L → prodL L = y * prodL (L.erase y)
  | x :: L, y, h => by
    by_cases e : x = y
    · subst e
      rw [List.erase_cons_head]
      rfl
    · have hy : y ∈ L := by
        rcases List.mem_cons.mp h with h | h
        · exact absurd h.symm e
        · exact h
      rw [List.erase_cons_tail (by simpa using e)]
      show x * prodL L = y * (x * prodL (L.erase y))
      rw [prodL_erase hy, Nat.mul_left_comm]
section
variable {p : Nat}
theorem Prm.cop (h : Prm p) {x : Nat} (h1 : 0 < x) (h2 : x < p) : Nat.gcd p x = 1 := by
  rcases h.2 _ (Nat.gcd_dvd_left p x) with e | e
  · exact e
  · have := Nat.le_of_dvd h1 (Nat.gcd_dvd_right p x)
    omega
theorem Prm.dvd_mul (h : Prm p) {x y : Nat} (hd : p ∣ x * y) : p ∣ x ∨ p ∣ y := by
  by_cases hx : x % p = 0
  · exact .inl (Nat.dvd_of_mod_eq_zero hx)
  · right
    have h0 : 0 < p := by have := h.1; omega
    have c := h.cop (x := x % p) (by omega) (Nat.mod_lt _ h0)
    have c2 : Nat.Coprime p x := by
      show Nat.gcd p x = 1
      rw [Nat.gcd_rec, Nat.gcd_comm]
      exact c
    exact c2.dvd_of_dvd_mul_left hd
theorem Prm.cancel (h : Prm p) {x y z : Nat} (hx : 0 < x) (hx2 : x < p) (hy : y < p) (hz : z < p) (e : x * y % p = x * z % p) : y = z := by
  have key : ∀ {y z : Nat}, y ≤ z → z < p → x * y % p = x * z % p → y = z := by
    intro y z hyz hz e
    have hd : p ∣ x * (z - y) := by
      rw [Nat.mul_sub]
      exact Nat.dvd_of_mod_eq_zero (Nat.sub_mod_eq_zero_of_mod_eq e.symm)
    rcases h.dvd_mul hd with k | k
    · have := Nat.le_of_dvd hx k
      omega
    · rcases Nat.eq_zero_or_pos (z - y) with t | t
      · omega
      · have := Nat.le_of_dvd t k
        omega
  rcases Nat.le_total y z with t | t
  · exact key t hz e
  · exact (key t hy e.symm).symm
theorem pairing (h : Prm p) (a : Nat) : ∀ (n : Nat) (L : List Nat), L.length ≤ n → L.Nodup → (∀ x ∈ L, 0 < x ∧ x < p) → (∀ x ∈ L, ∃ y ∈ L, y ≠ x ∧ x * y % p = a % p) → prodL L % p = a ^ (L.length / 2) % p
  | _, [], _, _, _, _ => rfl
  | 0, x :: L, hn, _, _, _ => absurd hn (by simp)
  | n + 1, x :: L, hn, hd, hr, hc => by
    obtain ⟨y, hy, hyx, e⟩ := hc x List.mem_cons_self
    have hy' : y ∈ L := by
      rcases List.mem_cons.mp hy with t | t
      · exact absurd t hyx
      · exact t
    obtain ⟨hxL, hdL⟩ := List.nodup_cons.mp hd
    have len : (L.erase y).length = L.length - 1 := List.length_erase_of_mem hy'
    have pos : 0 < L.length := List.length_pos_of_mem hy'
    have hdE : (L.erase y).Nodup := hdL.erase y
    have ih := pairing h a n (L.erase y) (by rw [len]; rw [List.length_cons] at hn; omega) hdE (fun z hz => hr z (List.mem_cons_of_mem _ (List.mem_of_mem_erase hz))) (by
      intro z hz
      have hzL := List.mem_of_mem_erase hz
      have hzy : z ≠ y := fun t => by
        subst t
        exact (List.Nodup.mem_erase_iff hdL).mp hz |>.1 rfl
      have hzx : z ≠ x := fun t => hxL (t ▸ hzL)
      obtain ⟨w, hw, hwz, ew⟩ := hc z (List.mem_cons_of_mem _ hzL)
      have rz := hr z (List.mem_cons_of_mem _ hzL)
      have rx := hr x List.mem_cons_self
      have ry := hr y hy
      have hwx : w ≠ x := fun t => by
        subst t
        refine hzy (h.cancel rx.1 rx.2 rz.2 ry.2 ?_)
        rw [Nat.mul_comm, ew, e]
      have hwy : w ≠ y := fun t => by
        subst t
        refine hzx (h.cancel ry.1 ry.2 rz.2 rx.2 ?_)
        rw [Nat.mul_comm, ew, Nat.mul_comm, e]
      have hwL : w ∈ L := by
        rcases List.mem_cons.mp hw with t | t
        · exact absurd t hwx
        · exact t
      exact ⟨w, (List.Nodup.mem_erase_iff hdL).mpr ⟨hwy, hwL⟩, hwz, ew⟩)
    show x * prodL L % p = _
    rw [prodL_erase hy', ← Nat.mul_assoc, Nat.mul_mod, e, ih, ← Nat.mul_mod, len]
    have : (x :: L).length / 2 = (L.length - 1) / 2 + 1 := by rw [List.length_cons]; omega
    rw [this, Nat.pow_succ, Nat.mul_comm]
end
end FT

namespace FT
open PySem PySem.Spec PyProof.Rows L2
/-! ### evaluation, step by step -/
section
theorem rb_ok {α β : Type} (a : α) (f : α → R β) : R.bind (.ok a) f = f a := id rfl
theorem rb_bad {α β : Type} (f : α → R β) : R.bind .bad f = .bad := id rfl
theorem rb_exc {α β : Type} (c : Nat) (f : α → R β) : R.bind (.exc c) f = .exc c := id rfl
theorem ra_ok {α : Type} (a : α) (ρ : En) (f : α → Fl) : R.at (.ok a) ρ f = f a := id rfl
theorem ra_bad {α : Type} (ρ : En) (f : α → Fl) : R.at (R.bad : R α) ρ f = .bad := id rfl
theorem ra_exc {α : Type} (c : Nat) (ρ : En) (f : α → Fl) : R.at (R.exc c : R α) ρ f = .xc c ρ := id rfl
theorem ft_nx (ρ : En) (f : En → Fl) : Fl.then (.nx ρ) f = f ρ := id rfl
theorem ft_rt (d : D) (f : En → Fl) : Fl.then (.rt d) f = .rt d := id rfl
theorem ft_bad (f : En → Fl) : Fl.then .bad f = .bad := id rfl
theorem ft_xc (c : Nat) (ρ : En) (f : En → Fl) : Fl.then (.xc c ρ) f = .xc c ρ := id rfl
variable {G : Ge} {ρ : En}
theorem evE_v0 {d : D} : evE G (.v 0) (some (.sh d) :: ρ) = .ok d := by rw [evE]; rfl
theorem evE_v1 {s0 : Option Sl} {d : D} : evE G (.v 1) (s0 :: some (.sh d) :: ρ) = .ok d := by rw [evE]; rfl
theorem evE_v2 {s0 s1 : Option Sl} {d : D} : evE G (.v 2) (s0 :: s1 :: some (.sh d) :: ρ) = .ok d := by rw [evE]; rfl
theorem evE_v3 {s0 s1 s2 : Option Sl} {d : D} : evE G (.v 3) (s0 :: s1 :: s2 :: some (.sh d) :: ρ) = .ok d := by rw [evE]; rfl
theorem evE_v4 {s0 s1 s2 s3 : Option Sl} {d : D} : evE G (.v 4) (s0 :: s1 :: s2 :: s3 :: some (.sh d) :: ρ) = .ok d := by rw [evE]; rfl
theorem evE_v5 {s0 s1 s2 s3 s4 : Option Sl} {d : D} : evE G (.v 5) (s0 :: s1 :: s2 :: s3 :: s4 :: some (.sh d) :: ρ) = .ok d := by rw [evE]; rfl
theorem evE_v6 {s0 s1 s2 s3 s4 s5 : Option Sl} {d : D} : evE G (.v 6) (s0 :: s1 :: s2 :: s3 :: s4 :: s5 :: some (.sh d) :: ρ) = .ok d := by rw [evE]; rfl
theorem evE_v7 {s0 s1 s2 s3 s4 s5 s6 : Option Sl} {d : D} : evE G (.v 7) (s0 :: s1 :: s2 :: s3 :: s4 :: s5 :: s6 :: some (.sh d) :: ρ) = .ok d := by rw [evE]; rfl
theorem evE_v8 {s0 s1 s2 s3 s4 s5 s6 s7 : Option Sl} {d : D} : evE G (.v 8) (s0 :: s1 :: s2 :: s3 :: s4 :: s5 :: s6 :: s7 :: some (.sh d) :: ρ) = .ok d := by rw [evE]; rfl
theorem evE_v9 {s0 s1 s2 s3 s4 s5 s6 s7 s8 : Option Sl} {d : D} : evE G (.v 9) (s0 :: s1 :: s2 :: s3 :: s4 :: s5 :: s6 :: s7 :: s8 :: some (.sh d) :: ρ) = .ok d := by rw [evE]; rfl
theorem evE_v10 {s0 s1 s2 s3 s4 s5 s6 s7 s8 s9 : Option Sl} {d : D} : evE G (.v 10) (s0 :: s1 :: s2 :: s3 :: s4 :: s5 :: s6 :: s7 :: s8 :: s9 :: some (.sh d) :: ρ) = .ok d := by rw [evE]; rfl
theorem evE_int {n : Int} : evE G (.int n) ρ = .ok (.int n) := by rw [evE]
theorem evE_bl {b : Bool} : evE G (.bl b) ρ = .ok (.bool b) := by rw [evE]
theorem evE_non : evE G .non ρ = .ok .none := by rw [evE]
theorem evE_str {s : Str} : evE G (.str s) ρ = .ok (.str s) := by rw [evE]
theorem evE_bin {o : Op2} {a b : Ex} : evE G (.bin o a b) ρ = (evE G a ρ).bind fun x => (evE G b ρ).bind fun y => op2 o x y := by rw [evE]
theorem evE_neg {a : Ex} : evE G (.neg a) ρ = (evE G a ρ).bind negD := by rw [evE]
theorem evE_not {a : Ex} : evE G (.not a) ρ = (evE G a ρ).bind notD := by rw [evE]
theorem evE_cmp {o : Cm} {a b : Ex} : evE G (.cmp o a b) ρ = (evE G a ρ).bind fun x => (evE G b ρ).bind fun y => cm2 o x y := by rw [evE]
theorem evE_tup {es : List Ex} : evE G (.tup es) ρ = (evEs G es ρ).bind fun ds => .ok (.tuple ds) := by rw [evE]
theorem evE_lst {es : List Ex} : evE G (.lst es) ρ = (evEs G es ρ).bind fun ds => .ok (.list ds) := by rw [evE]
theorem evE_ix {a b : Ex} : evE G (.ix a b) ρ = (evE G a ρ).bind fun x => (evE G b ρ).bind fun y => ixD x y := by rw [evE]
theorem evE_call {k : Nat} {a : Ex} {es : List Ex} : evE G (.call k a es) ρ = (evE G a ρ).bind fun d => (evEs G es ρ).bind fun ds => G.call k (d :: ds) := by rw [evE]
theorem evE_bi {b : Bi} {a : Ex} {es : List Ex} : evE G (.bi b a es) ρ = (evE G a ρ).bind fun d => (evEs G es ρ).bind fun ds => biD b (d :: ds) := by rw [evE]
theorem evE_sl {a : Ex} {lo hi : List Ex} : evE G (.sl a lo hi) ρ = (evE G a ρ).bind fun x => (evEs G lo ρ).bind fun l => (partD l).bind fun l => (evEs G hi ρ).bind fun h => (partD h).bind fun h => slD x l h := by rw [evE]
theorem evE_isi {a : Ex} {t : Ty} : evE G (.isi a t) ρ = (evE G a ρ).bind fun x => isiD x t := by rw [evE]
/-- the choice behind a truth value -/
def andB (x : D) (r : R D) : R D := match x with | .bool true => r | .bool false => .ok (.bool false) | _ => .bad
def orB (x : D) (r : R D) : R D := match x with | .bool false => r | .bool true => .ok (.bool true) | _ => .bad
theorem andB_t {r : R D} : andB (.bool true) r = r := id rfl
theorem andB_f {r : R D} : andB (.bool false) r = .ok (.bool false) := id rfl
theorem orB_t {r : R D} : orB (.bool true) r = .ok (.bool true) := id rfl
theorem orB_f {r : R D} : orB (.bool false) r = r := id rfl
theorem andB_b {b c : Bool} : andB (.bool b) (.ok (.bool c)) = .ok (.bool (b && c)) := by cases b <;> rfl
theorem orB_b {b c : Bool} : orB (.bool b) (.ok (.bool c)) = .ok (.bool (b || c)) := by cases b <;> rfl
theorem evE_and {a : Ex} {es : List Ex} : evE G (.and a es) ρ = (evE G a ρ).bind fun x => andB x (evAnd G es ρ) := by rw [evE]; rfl
theorem evE_or {a : Ex} {es : List Ex} : evE G (.or a es) ρ = (evE G a ρ).bind fun x => orB x (evOr G es ρ) := by rw [evE]; rfl
theorem evAnd_one {e : Ex} : evAnd G [e] ρ = evE G e ρ := by rw [evAnd]
theorem evOr_one {e : Ex} : evOr G [e] ρ = evE G e ρ := by rw [evOr]
theorem evAnd_two {e f : Ex} {es : List Ex} : evAnd G (e :: f :: es) ρ = (evE G e ρ).bind fun x => andB x (evAnd G (f :: es) ρ) := by rw [evAnd]; rfl
theorem evOr_two {e f : Ex} {es : List Ex} : evOr G (e :: f :: es) ρ = (evE G e ρ).bind fun x => orB x (evOr G (f :: es) ρ) := by rw [evOr]; rfl
theorem evEs_nil : evEs G [] ρ = .ok [] := by rw [evEs]
theorem evEs_cons {e : Ex} {es : List Ex} : evEs G (e :: es) ρ = (evE G e ρ).bind fun d => (evEs G es ρ).bind fun ds => .ok (d :: ds) := by rw [evEs]
theorem evSs_nil : evSs G [] ρ = .nx ρ := by rw [evSs]
theorem evSs_cons {s : Sm} {ss : List Sm} : evSs G (s :: ss) ρ = (evS G s ρ).then (evSs G ss) := by rw [evSs]
theorem evS_ex {e : Ex} : evS G (.ex e) ρ = (evE G e ρ).at ρ fun _ => .nx ρ := by rw [evS]
theorem evS_set {i : Nat} {e : Ex} : evS G (.set i e) ρ = (evE G e ρ).at ρ fun d => .nx (ρ.set i (some (.sh d))) := by rw [evS]
theorem evS_ret {e : Ex} : evS G (.ret e) ρ = (evE G e ρ).at ρ fun d => .rt d := by rw [evS]
def ifB (x : D) (a b : Fl) : Fl := match x with | .bool true => a | .bool false => b | _ => .bad
theorem ifB_t {a b : Fl} : ifB (.bool true) a b = a := id rfl
theorem ifB_f {a b : Fl} : ifB (.bool false) a b = b := id rfl
theorem evS_ife {c : Ex} {a b : List Sm} : evS G (.ife c a b) ρ = (evE G c ρ).at ρ fun x => ifB x (evSs G a ρ) (evSs G b ρ) := by rw [evS]; rfl
theorem evS_raise {k : Nat} : evS G (.raise k) ρ = .xc k ρ := by rw [evS]
theorem evS_for {i : Nat} {it : It} {b : List Sm} : evS G (.for_ i it b) ρ = (itD G it ρ).at ρ fun ds => forL (fun d ρ => evSs G b (ρ.set i (some (.sh d)))) ds ρ := by rw [evS]
theorem evS_while {c : Ex} {b : List Sm} : evS G (.while_ c b) ρ = whileL (fun ρ => evE G c ρ) (fun ρ => evSs G b ρ) ρ := by rw [evS]
def seqD (d : D) : R (List D) := match d with | .list ds => .ok ds | .tuple ds => .ok ds | _ => .bad
theorem seq_t {xs : List D} : seqD (.tuple xs) = .ok xs := id rfl
theorem seq_l {xs : List D} : seqD (.list xs) = .ok xs := id rfl
theorem it_seq {e : Ex} : itD G (.seq e) ρ = (evE G e ρ).bind seqD := id rfl
theorem ans_nx {ρ : En} : Fl.ans (.nx ρ) = .ok .none := id rfl
theorem ans_rt {d : D} : Fl.ans (.rt d) = .ok d := id rfl
theorem ans_xc {c : Nat} : Fl.ans (.xc c ρ) = .exc c := id rfl
theorem forL_nil {f : D → En → Fl} : forL f [] ρ = .nx ρ := id rfl
theorem forL_cons {f : D → En → Fl} {d : D} {ds : List D} : forL f (d :: ds) ρ = (f d ρ).then (forL f ds) := id rfl
end
theorem ix_t0 {d0 : D} {r : List D} : ixD (.tuple (d0 :: r)) (.int 0) = .ok d0 := by
  have : atI (d0 :: r) (0 : Int) = some d0 := atI_nat (j := 0) rfl
  unfold ixD
  dsimp only
  rw [this]
theorem ix_t1 {d0 d1 : D} {r : List D} : ixD (.tuple (d0 :: d1 :: r)) (.int 1) = .ok d1 := by
  have : atI (d0 :: d1 :: r) (1 : Int) = some d1 := atI_nat (j := 1) rfl
  unfold ixD
  dsimp only
  rw [this]
theorem ix_t2 {d0 d1 d2 : D} {r : List D} : ixD (.tuple (d0 :: d1 :: d2 :: r)) (.int 2) = .ok d2 := by
  have : atI (d0 :: d1 :: d2 :: r) (2 : Int) = some d2 := atI_nat (j := 2) rfl
  unfold ixD
  dsimp only
  rw [this]
theorem ix_t3 {d0 d1 d2 d3 : D} {r : List D} : ixD (.tuple (d0 :: d1 :: d2 :: d3 :: r)) (.int 3) = .ok d3 := by
  have : atI (d0 :: d1 :: d2 :: d3 :: r) (3 : Int) = some d3 := atI_nat (j := 3) rfl
  unfold ixD
  dsimp only
  rw [this]
theorem o_add {i j : Int} : op2 .add (.int i) (.int j) = .ok (.int (i + j)) := id rfl
theorem o_sub {i j : Int} : op2 .sub (.int i) (.int j) = .ok (.int (i - j)) := id rfl
theorem o_mul {i j : Int} (h : mulOk i j = true) : op2 .mul (.int i) (.int j) = .ok (.int (i * j)) := by show (bif mulOk i j then _ else _) = _; rw [h]; rfl
theorem o_fdiv {i j : Int} (h : divOk j = true) : op2 .fdiv (.int i) (.int j) = .ok (.int (i / j)) := by show (bif divOk j then _ else _) = _; rw [h]; rfl
theorem o_mod {i j : Int} (h : 0 < j) : op2 .mod (.int i) (.int j) = .ok (.int (i % j)) := by show (bif decide (0 < j) then _ else _) = _; rw [decide_eq_true h]; rfl
theorem o_neg {i : Int} : negD (.int i) = .ok (.int (-i)) := id rfl
theorem o_not {b : Bool} : notD (.bool b) = .ok (.bool (!b)) := id rfl
theorem c_lt {i j : Int} : cm2 .lt (.int i) (.int j) = .ok (.bool (decide (i < j))) := id rfl
theorem c_le {i j : Int} : cm2 .le (.int i) (.int j) = .ok (.bool (decide (i ≤ j))) := id rfl
theorem c_gt {i j : Int} : cm2 .gt (.int i) (.int j) = .ok (.bool (decide (j < i))) := id rfl
theorem c_ge {i j : Int} : cm2 .ge (.int i) (.int j) = .ok (.bool (decide (j ≤ i))) := id rfl
theorem eqv_int {i j : Int} : PyData.eqv (.int i) (.int j) = decide (i = j) := by
  show (i == j) = _
  rw [Bool.eq_iff_iff]
  simp
theorem c_eq {i j : Int} : cm2 .eq (.int i) (.int j) = .ok (.bool (decide (i = j))) := by
  show ((eqG (.int i) (.int j)).bind fun k => R.ok (PyData.bool k)) = _
  rw [← eqv_int]
  rfl
theorem c_ne {i j : Int} : cm2 .ne (.int i) (.int j) = .ok (.bool (!decide (i = j))) := by
  show ((eqG (.int i) (.int j)).bind fun k => R.ok (PyData.bool (!k))) = _
  rw [← eqv_int]
  rfl
theorem eqv_2 {a b c d : Int} : PyData.eqv (.tuple [.int a, .int b]) (.tuple [.int c, .int d]) = (decide (a = c) && decide (b = d)) := by
  show (PyData.eqv (.int a) (.int c) && (PyData.eqv (.int b) (.int d) && true)) = _
  rw [eqv_int, eqv_int, Bool.and_true]
theorem eqv_3 {a b e c d f : Int} : PyData.eqv (.tuple [.int a, .int b, .int e]) (.tuple [.int c, .int d, .int f]) = (decide (a = c) && (decide (b = d) && decide (e = f))) := by
  show (PyData.eqv (.int a) (.int c) && (PyData.eqv (.int b) (.int d) && (PyData.eqv (.int e) (.int f) && true))) = _
  rw [eqv_int, eqv_int, eqv_int, Bool.and_true]
theorem c_eq2 {a b c d : Int} : cm2 .eq (.tuple [.int a, .int b]) (.tuple [.int c, .int d]) = .ok (.bool (decide (a = c) && decide (b = d))) := by
  rw [← eqv_2]
  rfl
theorem c_ne2 {a b c d : Int} : cm2 .ne (.tuple [.int a, .int b]) (.tuple [.int c, .int d]) = .ok (.bool (!(decide (a = c) && decide (b = d)))) := by
  rw [← eqv_2]
  rfl
theorem c_eq3 {a b e c d f : Int} : cm2 .eq (.tuple [.int a, .int b, .int e]) (.tuple [.int c, .int d, .int f]) = .ok (.bool (decide (a = c) && (decide (b = d) && decide (e = f)))) := by
  rw [← eqv_3]
  rfl
theorem c_ne3 {a b e c d f : Int} : cm2 .ne (.tuple [.int a, .int b, .int e]) (.tuple [.int c, .int d, .int f]) = .ok (.bool (!(decide (a = c) && (decide (b = d) && decide (e = f))))) := by
  rw [← eqv_3]
  rfl
theorem c_is {a b : Bool} : cm2 .is (.bool a) (.bool b) = .ok (.bool (decide (a = b))) := id rfl
theorem c_isnot {a b : Bool} : cm2 .isnot (.bool a) (.bool b) = .ok (.bool (!decide (a = b))) := id rfl
theorem isi_tt {xs : List D} : isiD (.tuple xs) .tuple = .ok (.bool true) := id rfl
theorem isi_lt {xs : List D} : isiD (.list xs) .tuple = .ok (.bool false) := id rfl
theorem isi_it {i : Int} : isiD (.int i) .tuple = .ok (.bool false) := id rfl
theorem isi_ii {i : Int} : isiD (.int i) .int = .ok (.bool true) := id rfl
theorem isi_ib {i : Int} : isiD (.int i) .bool = .ok (.bool false) := id rfl
theorem isi_ll {xs : List D} : isiD (.list xs) .list = .ok (.bool true) := id rfl
theorem len_t1 {a : D} : biD .len [.tuple [a]] = .ok (.int 1) := id rfl
theorem len_t2 {a b : D} : biD .len [.tuple [a, b]] = .ok (.int 2) := id rfl
theorem len_t3 {a b c : D} : biD .len [.tuple [a, b, c]] = .ok (.int 3) := id rfl
theorem len_t4 {a b c d : D} : biD .len [.tuple [a, b, c, d]] = .ok (.int 4) := id rfl
theorem len_l {xs : List D} : biD .len [.list xs] = .ok (.int xs.length) := id rfl
theorem abs_i {i : Int} : biD .abs [.int i] = .ok (.int (i.natAbs : Int)) := by
  show R.ok (PyData.int (if i < 0 then -i else i)) = _
  have e : (if i < 0 then -i else i) = (i.natAbs : Int) := by split <;> omega
  rw [e]
theorem tup_l {xs : List D} : biD .tuple [.list xs] = .ok (.tuple xs) := id rfl
theorem part_0 : partD [] = .ok none := id rfl
theorem part_1 {i : Int} : partD [.int i] = .ok (some i) := id rfl
theorem sl_l {xs : List D} {lo hi : Option Int} : slD (.list xs) lo hi = .ok (.list (cutD xs lo hi)) := id rfl
theorem call_0 {f0 : List D → R D} {fs : List (List D → R D)} {co ds : List D} : Ge.call ⟨f0 :: fs, co⟩ 0 ds = f0 ds := id rfl
theorem call_1 {f0 f1 : List D → R D} {fs : List (List D → R D)} {co ds : List D} : Ge.call ⟨f0 :: f1 :: fs, co⟩ 1 ds = f1 ds := id rfl
theorem call_2 {f0 f1 f2 : List D → R D} {fs : List (List D → R D)} {co ds : List D} : Ge.call ⟨f0 :: f1 :: f2 :: fs, co⟩ 2 ds = f2 ds := id rfl
theorem call_3 {f0 f1 f2 f3 : List D → R D} {fs : List (List D → R D)} {co ds : List D} : Ge.call ⟨f0 :: f1 :: f2 :: f3 :: fs, co⟩ 3 ds = f3 ds := id rfl
theorem call_4 {f0 f1 f2 f3 f4 : List D → R D} {fs : List (List D → R D)} {co ds : List D} : Ge.call ⟨f0 :: f1 :: f2 :: f3 :: f4 :: fs, co⟩ 4 ds = f4 ds := id rfl
theorem call_5 {f0 f1 f2 f3 f4 f5 : List D → R D} {fs : List (List D → R D)} {co ds : List D} : Ge.call ⟨f0 :: f1 :: f2 :: f3 :: f4 :: f5 :: fs, co⟩ 5 ds = f5 ds := id rfl
theorem call_6 {f0 f1 f2 f3 f4 f5 f6 : List D → R D} {fs : List (List D → R D)} {co ds : List D} : Ge.call ⟨f0 :: f1 :: f2 :: f3 :: f4 :: f5 :: f6 :: fs, co⟩ 6 ds = f6 ds := id rfl
theorem call_7 {f0 f1 f2 f3 f4 f5 f6 f7 : List D → R D} {fs : List (List D → R D)} {co ds : List D} : Ge.call ⟨f0 :: f1 :: f2 :: f3 :: f4 :: f5 :: f6 :: f7 :: fs, co⟩ 7 ds = f7 ds := id rfl
theorem glob_0 {fs : List (List D → R D)} {d : D} {co : List D} {ρ : En} : evE ⟨fs, d :: co⟩ (.glob 0) ρ = .ok d := by rw [evE]; rfl
theorem glob_1 {fs : List (List D → R D)} {d0 d : D} {co : List D} {ρ : En} : evE ⟨fs, d0 :: d :: co⟩ (.glob 1) ρ = .ok d := by rw [evE]; rfl
theorem glob_2 {fs : List (List D → R D)} {d0 d1 d : D} {co : List D} {ρ : En} : evE ⟨fs, d0 :: d1 :: d :: co⟩ (.glob 2) ρ = .ok d := by rw [evE]; rfl
/-! ### sizes -/
/-- less than 2 ^ n -/
class Bd (n : outParam Nat) (i : Int) : Prop where
  lt : i.natAbs < 2 ^ n
theorem Bd.up {n m : Nat} {i : Int} (h : Bd n i) (l : n ≤ m) : Bd m i := ⟨Nat.lt_of_lt_of_le h.lt (Nat.pow_le_pow_right (by decide) l)⟩
instance (priority := 50) Bd.add {n m : Nat} {i j : Int} [h : Bd n i] [k : Bd m j] : Bd (max n m + 1) (i + j) := ⟨by
  have h1 := (h.up (Nat.le_max_left n m)).lt
  have h2 := (k.up (Nat.le_max_right n m)).lt
  rw [Nat.pow_succ]
  omega⟩
instance (priority := 50) Bd.sub {n m : Nat} {i j : Int} [h : Bd n i] [k : Bd m j] : Bd (max n m + 1) (i - j) := ⟨by
  have h1 := (h.up (Nat.le_max_left n m)).lt
  have h2 := (k.up (Nat.le_max_right n m)).lt
  rw [Nat.pow_succ]
  omega⟩
instance (priority := 50) Bd.mul {n m : Nat} {i j : Int} [h : Bd n i] [k : Bd m j] : Bd (n + m) (i * j) := ⟨by
  rw [Int.natAbs_mul, Nat.pow_add]
  exact Nat.mul_lt_mul'' h.lt k.lt⟩
instance (priority := 50) Bd.neg {n : Nat} {i : Int} [h : Bd n i] : Bd n (-i) := ⟨by rw [Int.natAbs_neg]; exact h.lt⟩
instance (priority := 50) Bd.div {n : Nat} {i j : Int} [h : Bd n i] : Bd (n + 1) (i / j) := ⟨by
  have h1 := h.lt
  have h2 : (i / j).natAbs ≤ i.natAbs + 1 := by
    have := Int.natAbs_ediv_le_natAbs i j
    omega
  rw [Nat.pow_succ]
  have := Nat.pow_pos (n := n) (show 0 < 2 by decide)
  omega⟩
instance Bd.one : Bd 1 1 := ⟨by decide⟩
instance Bd.zero : Bd 0 0 := ⟨by decide⟩
instance Bd.two : Bd 2 2 := ⟨by decide⟩
instance Bd.three : Bd 2 3 := ⟨by decide⟩
instance Bd.four : Bd 3 4 := ⟨by decide⟩
theorem Bd.get {n m : Nat} {i : Int} [h : Bd n i] (l : n ≤ m := by omega) : Bd m i := h.up l
theorem Bd.of_bits {i : Int} {n : Nat} (h : Builtin.Int.intBits i ≤ n) : Bd n i := ⟨by
  unfold Builtin.Int.intBits at h
  split at h
  · rename_i z
    have : i = 0 := by simpa using z
    rw [this]
    exact Nat.pow_pos (by decide)
  · have : i.natAbs.log2 < n := by omega
    by_cases h0 : i.natAbs = 0
    · rw [h0]; exact Nat.pow_pos (by decide)
    · exact (Nat.log2_lt h0).mp this⟩
theorem Bd.of_lt {i : Int} {n : Nat} (h1 : -(2 ^ n : Int) < i) (h2 : i < 2 ^ n) : Bd n i := ⟨by
  have e : ((2 ^ n : Nat) : Int) = 2 ^ n := by rw [Int.natCast_pow]; rfl
  omega⟩
theorem mulOk_bd {n m : Nat} {i j : Int} [h : Bd n i] [k : Bd m j] (l : n + m ≤ 134217720 := by omega) : mulOk i j = true := by
  unfold mulOk
  refine decide_eq_true ?_
  have x := PyProof.Rows.intBits_le h.lt
  have y := PyProof.Rows.intBits_le k.lt
  omega
theorem divOk_bd {n : Nat} {j : Int} [h : Bd n j] (p : 0 < j) (l : n ≤ 9000 := by omega) : divOk j = true := by
  unfold divOk
  rw [decide_eq_true p, Bool.true_and]
  refine decide_eq_true ?_
  have h0 : j.natAbs ≠ 0 := by omega
  exact Nat.lt_of_lt_of_le ((Nat.log2_lt h0).mpr h.lt) l
end FT

namespace FT
open PySem PySem.Spec PyProof.Rows L2
/-! ### evaluation, step by step, by slot -/
section
variable {G : Ge} {ρ : En}
theorem evE_v11 {s0 s1 s2 s3 s4 s5 s6 s7 s8 s9 s10 : Option Sl} {d : D} : evE G (.v 11) (s0 :: s1 :: s2 :: s3 :: s4 :: s5 :: s6 :: s7 :: s8 :: s9 :: s10 :: some (.sh d) :: ρ) = .ok d := by rw [evE]; rfl
theorem evE_v12 {s0 s1 s2 s3 s4 s5 s6 s7 s8 s9 s10 s11 : Option Sl} {d : D} : evE G (.v 12) (s0 :: s1 :: s2 :: s3 :: s4 :: s5 :: s6 :: s7 :: s8 :: s9 :: s10 :: s11 :: some (.sh d) :: ρ) = .ok d := by rw [evE]; rfl
theorem evE_v13 {s0 s1 s2 s3 s4 s5 s6 s7 s8 s9 s10 s11 s12 : Option Sl} {d : D} : evE G (.v 13) (s0 :: s1 :: s2 :: s3 :: s4 :: s5 :: s6 :: s7 :: s8 :: s9 :: s10 :: s11 :: s12 :: some (.sh d) :: ρ) = .ok d := by rw [evE]; rfl
theorem evE_v14 {s0 s1 s2 s3 s4 s5 s6 s7 s8 s9 s10 s11 s12 s13 : Option Sl} {d : D} : evE G (.v 14) (s0 :: s1 :: s2 :: s3 :: s4 :: s5 :: s6 :: s7 :: s8 :: s9 :: s10 :: s11 :: s12 :: s13 :: some (.sh d) :: ρ) = .ok d := by rw [evE]; rfl
theorem evE_v15 {s0 s1 s2 s3 s4 s5 s6 s7 s8 s9 s10 s11 s12 s13 s14 : Option Sl} {d : D} : evE G (.v 15) (s0 :: s1 :: s2 :: s3 :: s4 :: s5 :: s6 :: s7 :: s8 :: s9 :: s10 :: s11 :: s12 :: s13 :: s14 :: some (.sh d) :: ρ) = .ok d := by rw [evE]; rfl
theorem evE_v16 {s0 s1 s2 s3 s4 s5 s6 s7 s8 s9 s10 s11 s12 s13 s14 s15 : Option Sl} {d : D} : evE G (.v 16) (s0 :: s1 :: s2 :: s3 :: s4 :: s5 :: s6 :: s7 :: s8 :: s9 :: s10 :: s11 :: s12 :: s13 :: s14 :: s15 :: some (.sh d) :: ρ) = .ok d := by rw [evE]; rfl
theorem evE_v17 {s0 s1 s2 s3 s4 s5 s6 s7 s8 s9 s10 s11 s12 s13 s14 s15 s16 : Option Sl} {d : D} : evE G (.v 17) (s0 :: s1 :: s2 :: s3 :: s4 :: s5 :: s6 :: s7 :: s8 :: s9 :: s10 :: s11 :: s12 :: s13 :: s14 :: s15 :: s16 :: some (.sh d) :: ρ) = .ok d := by rw [evE]; rfl
theorem evE_v18 {s0 s1 s2 s3 s4 s5 s6 s7 s8 s9 s10 s11 s12 s13 s14 s15 s16 s17 : Option Sl} {d : D} : evE G (.v 18) (s0 :: s1 :: s2 :: s3 :: s4 :: s5 :: s6 :: s7 :: s8 :: s9 :: s10 :: s11 :: s12 :: s13 :: s14 :: s15 :: s16 :: s17 :: some (.sh d) :: ρ) = .ok d := by rw [evE]; rfl
theorem evE_v19 {s0 s1 s2 s3 s4 s5 s6 s7 s8 s9 s10 s11 s12 s13 s14 s15 s16 s17 s18 : Option Sl} {d : D} : evE G (.v 19) (s0 :: s1 :: s2 :: s3 :: s4 :: s5 :: s6 :: s7 :: s8 :: s9 :: s10 :: s11 :: s12 :: s13 :: s14 :: s15 :: s16 :: s17 :: s18 :: some (.sh d) :: ρ) = .ok d := by rw [evE]; rfl
theorem evE_v20 {s0 s1 s2 s3 s4 s5 s6 s7 s8 s9 s10 s11 s12 s13 s14 s15 s16 s17 s18 s19 : Option Sl} {d : D} : evE G (.v 20) (s0 :: s1 :: s2 :: s3 :: s4 :: s5 :: s6 :: s7 :: s8 :: s9 :: s10 :: s11 :: s12 :: s13 :: s14 :: s15 :: s16 :: s17 :: s18 :: s19 :: some (.sh d) :: ρ) = .ok d := by rw [evE]; rfl
theorem evS_set0 { s : Option Sl} {e : Ex} : evS G (.set 0 e) (s :: ρ) = (evE G e (s :: ρ)).at (s :: ρ) fun d => .nx (some (.sh d) :: ρ) := by rw [evS]; rfl
theorem evS_setL0 { s : Option Sl} {es : List Ex} : evS G (.setL 0 es) (s :: ρ) = (evEs G es (s :: ρ)).at (s :: ρ) fun ds => .nx (some (.own ds) :: ρ) := by rw [evS]; rfl
theorem evS_set1 {s0 s : Option Sl} {e : Ex} : evS G (.set 1 e) (s0 :: s :: ρ) = (evE G e (s0 :: s :: ρ)).at (s0 :: s :: ρ) fun d => .nx (s0 :: some (.sh d) :: ρ) := by rw [evS]; rfl
theorem evS_setL1 {s0 s : Option Sl} {es : List Ex} : evS G (.setL 1 es) (s0 :: s :: ρ) = (evEs G es (s0 :: s :: ρ)).at (s0 :: s :: ρ) fun ds => .nx (s0 :: some (.own ds) :: ρ) := by rw [evS]; rfl
theorem evS_set2 {s0 s1 s : Option Sl} {e : Ex} : evS G (.set 2 e) (s0 :: s1 :: s :: ρ) = (evE G e (s0 :: s1 :: s :: ρ)).at (s0 :: s1 :: s :: ρ) fun d => .nx (s0 :: s1 :: some (.sh d) :: ρ) := by rw [evS]; rfl
theorem evS_setL2 {s0 s1 s : Option Sl} {es : List Ex} : evS G (.setL 2 es) (s0 :: s1 :: s :: ρ) = (evEs G es (s0 :: s1 :: s :: ρ)).at (s0 :: s1 :: s :: ρ) fun ds => .nx (s0 :: s1 :: some (.own ds) :: ρ) := by rw [evS]; rfl
theorem evS_set3 {s0 s1 s2 s : Option Sl} {e : Ex} : evS G (.set 3 e) (s0 :: s1 :: s2 :: s :: ρ) = (evE G e (s0 :: s1 :: s2 :: s :: ρ)).at (s0 :: s1 :: s2 :: s :: ρ) fun d => .nx (s0 :: s1 :: s2 :: some (.sh d) :: ρ) := by rw [evS]; rfl
theorem evS_setL3 {s0 s1 s2 s : Option Sl} {es : List Ex} : evS G (.setL 3 es) (s0 :: s1 :: s2 :: s :: ρ) = (evEs G es (s0 :: s1 :: s2 :: s :: ρ)).at (s0 :: s1 :: s2 :: s :: ρ) fun ds => .nx (s0 :: s1 :: s2 :: some (.own ds) :: ρ) := by rw [evS]; rfl
theorem evS_set4 {s0 s1 s2 s3 s : Option Sl} {e : Ex} : evS G (.set 4 e) (s0 :: s1 :: s2 :: s3 :: s :: ρ) = (evE G e (s0 :: s1 :: s2 :: s3 :: s :: ρ)).at (s0 :: s1 :: s2 :: s3 :: s :: ρ) fun d => .nx (s0 :: s1 :: s2 :: s3 :: some (.sh d) :: ρ) := by rw [evS]; rfl
theorem evS_setL4 {s0 s1 s2 s3 s : Option Sl} {es : List Ex} : evS G (.setL 4 es) (s0 :: s1 :: s2 :: s3 :: s :: ρ) = (evEs G es (s0 :: s1 :: s2 :: s3 :: s :: ρ)).at (s0 :: s1 :: s2 :: s3 :: s :: ρ) fun ds => .nx (s0 :: s1 :: s2 :: s3 :: some (.own ds) :: ρ) := by rw [evS]; rfl
theorem evS_set5 {s0 s1 s2 s3 s4 s : Option Sl} {e : Ex} : evS G (.set 5 e) (s0 :: s1 :: s2 :: s3 :: s4 :: s :: ρ) = (evE G e (s0 :: s1 :: s2 :: s3 :: s4 :: s :: ρ)).at (s0 :: s1 :: s2 :: s3 :: s4 :: s :: ρ) fun d => .nx (s0 :: s1 :: s2 :: s3 :: s4 :: some (.sh d) :: ρ) := by rw [evS]; rfl
theorem evS_setL5 {s0 s1 s2 s3 s4 s : Option Sl} {es : List Ex} : evS G (.setL 5 es) (s0 :: s1 :: s2 :: s3 :: s4 :: s :: ρ) = (evEs G es (s0 :: s1 :: s2 :: s3 :: s4 :: s :: ρ)).at (s0 :: s1 :: s2 :: s3 :: s4 :: s :: ρ) fun ds => .nx (s0 :: s1 :: s2 :: s3 :: s4 :: some (.own ds) :: ρ) := by rw [evS]; rfl
theorem evS_set6 {s0 s1 s2 s3 s4 s5 s : Option Sl} {e : Ex} : evS G (.set 6 e) (s0 :: s1 :: s2 :: s3 :: s4 :: s5 :: s :: ρ) = (evE G e (s0 :: s1 :: s2 :: s3 :: s4 :: s5 :: s :: ρ)).at (s0 :: s1 :: s2 :: s3 :: s4 :: s5 :: s :: ρ) fun d => .nx (s0 :: s1 :: s2 :: s3 :: s4 :: s5 :: some (.sh d) :: ρ) := by rw [evS]; rfl
theorem evS_setL6 {s0 s1 s2 s3 s4 s5 s : Option Sl} {es : List Ex} : evS G (.setL 6 es) (s0 :: s1 :: s2 :: s3 :: s4 :: s5 :: s :: ρ) = (evEs G es (s0 :: s1 :: s2 :: s3 :: s4 :: s5 :: s :: ρ)).at (s0 :: s1 :: s2 :: s3 :: s4 :: s5 :: s :: ρ) fun ds => .nx (s0 :: s1 :: s2 :: s3 :: s4 :: s5 :: some (.own ds) :: ρ) := by rw [evS]; rfl
theorem evS_set7 {s0 s1 s2 s3 s4 s5 s6 s : Option Sl} {e : Ex} : evS G (.set 7 e) (s0 :: s1 :: s2 :: s3 :: s4 :: s5 :: s6 :: s :: ρ) = (evE G e (s0 :: s1 :: s2 :: s3 :: s4 :: s5 :: s6 :: s :: ρ)).at (s0 :: s1 :: s2 :: s3 :: s4 :: s5 :: s6 :: s :: ρ) fun d => .nx (s0 :: s1 :: s2 :: s3 :: s4 :: s5 :: s6 :: some (.sh d) :: ρ) := by rw [evS]; rfl
theorem evS_setL7 {s0 s1 s2 s3 s4 s5 s6 s : Option Sl} {es : List Ex} : evS G (.setL 7 es) (s0 :: s1 :: s2 :: s3 :: s4 :: s5 :: s6 :: s :: ρ) = (evEs G es (s0 :: s1 :: s2 :: s3 :: s4 :: s5 :: s6 :: s :: ρ)).at (s0 :: s1 :: s2 :: s3 :: s4 :: s5 :: s6 :: s :: ρ) fun ds => .nx (s0 :: s1 :: s2 :: s3 :: s4 :: s5 :: s6 :: some (.own ds) :: ρ) := by rw [evS]; rfl
theorem evS_set8 {s0 s1 s2 s3 s4 s5 s6 s7 s : Option Sl} {e : Ex} : evS G (.set 8 e) (s0 :: s1 :: s2 :: s3 :: s4 :: s5 :: s6 :: s7 :: s :: ρ) = (evE G e (s0 :: s1 :: s2 :: s3 :: s4 :: s5 :: s6 :: s7 :: s :: ρ)).at (s0 :: s1 :: s2 :: s3 :: s4 :: s5 :: s6 :: s7 :: s :: ρ) fun d => .nx (s0 :: s1 :: s2 :: s3 :: s4 :: s5 :: s6 :: s7 :: some (.sh d) :: ρ) := by rw [evS]; rfl
theorem evS_setL8 {s0 s1 s2 s3 s4 s5 s6 s7 s : Option Sl} {es : List Ex} : evS G (.setL 8 es) (s0 :: s1 :: s2 :: s3 :: s4 :: s5 :: s6 :: s7 :: s :: ρ) = (evEs G es (s0 :: s1 :: s2 :: s3 :: s4 :: s5 :: s6 :: s7 :: s :: ρ)).at (s0 :: s1 :: s2 :: s3 :: s4 :: s5 :: s6 :: s7 :: s :: ρ) fun ds => .nx (s0 :: s1 :: s2 :: s3 :: s4 :: s5 :: s6 :: s7 :: some (.own ds) :: ρ) := by rw [evS]; rfl
theorem evS_set9 {s0 s1 s2 s3 s4 s5 s6 s7 s8 s : Option Sl} {e : Ex} : evS G (.set 9 e) (s0 :: s1 :: s2 :: s3 :: s4 :: s5 :: s6 :: s7 :: s8 :: s :: ρ) = (evE G e (s0 :: s1 :: s2 :: s3 :: s4 :: s5 :: s6 :: s7 :: s8 :: s :: ρ)).at (s0 :: s1 :: s2 :: s3 :: s4 :: s5 :: s6 :: s7 :: s8 :: s :: ρ) fun d => .nx (s0 :: s1 :: s2 :: s3 :: s4 :: s5 :: s6 :: s7 :: s8 :: some (.sh d) :: ρ) := by rw [evS]; rfl
theorem evS_setL9 {s0 s1 s2 s3 s4 s5 s6 s7 s8 s : Option Sl} {es : List Ex} : evS G (.setL 9 es) (s0 :: s1 :: s2 :: s3 :: s4 :: s5 :: s6 :: s7 :: s8 :: s :: ρ) = (evEs G es (s0 :: s1 :: s2 :: s3 :: s4 :: s5 :: s6 :: s7 :: s8 :: s :: ρ)).at (s0 :: s1 :: s2 :: s3 :: s4 :: s5 :: s6 :: s7 :: s8 :: s :: ρ) fun ds => .nx (s0 :: s1 :: s2 :: s3 :: s4 :: s5 :: s6 :: s7 :: s8 :: some (.own ds) :: ρ) := by rw [evS]; rfl
theorem evS_set10 {s0 s1 s2 s3 s4 s5 s6 s7 s8 s9 s : Option Sl} {e : Ex} : evS G (.set 10 e) (s0 :: s1 :: s2 :: s3 :: s4 :: s5 :: s6 :: s7 :: s8 :: s9 :: s :: ρ) = (evE G e (s0 :: s1 :: s2 :: s3 :: s4 :: s5 :: s6 :: s7 :: s8 :: s9 :: s :: ρ)).at (s0 :: s1 :: s2 :: s3 :: s4 :: s5 :: s6 :: s7 :: s8 :: s9 :: s :: ρ) fun d => .nx (s0 :: s1 :: s2 :: s3 :: s4 :: s5 :: s6 :: s7 :: s8 :: s9 :: some (.sh d) :: ρ) := by rw [evS]; rfl
theorem evS_setL10 {s0 s1 s2 s3 s4 s5 s6 s7 s8 s9 s : Option Sl} {es : List Ex} : evS G (.setL 10 es) (s0 :: s1 :: s2 :: s3 :: s4 :: s5 :: s6 :: s7 :: s8 :: s9 :: s :: ρ) = (evEs G es (s0 :: s1 :: s2 :: s3 :: s4 :: s5 :: s6 :: s7 :: s8 :: s9 :: s :: ρ)).at (s0 :: s1 :: s2 :: s3 :: s4 :: s5 :: s6 :: s7 :: s8 :: s9 :: s :: ρ) fun ds => .nx (s0 :: s1 :: s2 :: s3 :: s4 :: s5 :: s6 :: s7 :: s8 :: s9 :: some (.own ds) :: ρ) := by rw [evS]; rfl
theorem evS_set11 {s0 s1 s2 s3 s4 s5 s6 s7 s8 s9 s10 s : Option Sl} {e : Ex} : evS G (.set 11 e) (s0 :: s1 :: s2 :: s3 :: s4 :: s5 :: s6 :: s7 :: s8 :: s9 :: s10 :: s :: ρ) = (evE G e (s0 :: s1 :: s2 :: s3 :: s4 :: s5 :: s6 :: s7 :: s8 :: s9 :: s10 :: s :: ρ)).at (s0 :: s1 :: s2 :: s3 :: s4 :: s5 :: s6 :: s7 :: s8 :: s9 :: s10 :: s :: ρ) fun d => .nx (s0 :: s1 :: s2 :: s3 :: s4 :: s5 :: s6 :: s7 :: s8 :: s9 :: s10 :: some (.sh d) :: ρ) := by rw [evS]; rfl
theorem evS_setL11 {s0 s1 s2 s3 s4 s5 s6 s7 s8 s9 s10 s : Option Sl} {es : List Ex} : evS G (.setL 11 es) (s0 :: s1 :: s2 :: s3 :: s4 :: s5 :: s6 :: s7 :: s8 :: s9 :: s10 :: s :: ρ) = (evEs G es (s0 :: s1 :: s2 :: s3 :: s4 :: s5 :: s6 :: s7 :: s8 :: s9 :: s10 :: s :: ρ)).at (s0 :: s1 :: s2 :: s3 :: s4 :: s5 :: s6 :: s7 :: s8 :: s9 :: s10 :: s :: ρ) fun ds => .nx (s0 :: s1 :: s2 :: s3 :: s4 :: s5 :: s6 :: s7 :: s8 :: s9 :: s10 :: some (.own ds) :: ρ) := by rw [evS]; rfl
theorem evS_set12 {s0 s1 s2 s3 s4 s5 s6 s7 s8 s9 s10 s11 s : Option Sl} {e : Ex} : evS G (.set 12 e) (s0 :: s1 :: s2 :: s3 :: s4 :: s5 :: s6 :: s7 :: s8 :: s9 :: s10 :: s11 :: s :: ρ) = (evE G e (s0 :: s1 :: s2 :: s3 :: s4 :: s5 :: s6 :: s7 :: s8 :: s9 :: s10 :: s11 :: s :: ρ)).at (s0 :: s1 :: s2 :: s3 :: s4 :: s5 :: s6 :: s7 :: s8 :: s9 :: s10 :: s11 :: s :: ρ) fun d => .nx (s0 :: s1 :: s2 :: s3 :: s4 :: s5 :: s6 :: s7 :: s8 :: s9 :: s10 :: s11 :: some (.sh d) :: ρ) := by rw [evS]; rfl
theorem evS_setL12 {s0 s1 s2 s3 s4 s5 s6 s7 s8 s9 s10 s11 s : Option Sl} {es : List Ex} : evS G (.setL 12 es) (s0 :: s1 :: s2 :: s3 :: s4 :: s5 :: s6 :: s7 :: s8 :: s9 :: s10 :: s11 :: s :: ρ) = (evEs G es (s0 :: s1 :: s2 :: s3 :: s4 :: s5 :: s6 :: s7 :: s8 :: s9 :: s10 :: s11 :: s :: ρ)).at (s0 :: s1 :: s2 :: s3 :: s4 :: s5 :: s6 :: s7 :: s8 :: s9 :: s10 :: s11 :: s :: ρ) fun ds => .nx (s0 :: s1 :: s2 :: s3 :: s4 :: s5 :: s6 :: s7 :: s8 :: s9 :: s10 :: s11 :: some (.own ds) :: ρ) := by rw [evS]; rfl
theorem evS_set13 {s0 s1 s2 s3 s4 s5 s6 s7 s8 s9 s10 s11 s12 s : Option Sl} {e : Ex} : evS G (.set 13 e) (s0 :: s1 :: s2 :: s3 :: s4 :: s5 :: s6 :: s7 :: s8 :: s9 :: s10 :: s11 :: s12 :: s :: ρ) = (evE G e (s0 :: s1 :: s2 :: s3 :: s4 :: s5 :: s6 :: s7 :: s8 :: s9 :: s10 :: s11 :: s12 :: s :: ρ)).at (s0 :: s1 :: s2 :: s3 :: s4 :: s5 :: s6 :: s7 :: s8 :: s9 :: s10 :: s11 :: s12 :: s :: ρ) fun d => .nx (s0 :: s1 :: s2 :: s3 :: s4 :: s5 :: s6 :: s7 :: s8 :: s9 :: s10 :: s11 :: s12 :: some (.sh d) :: ρ) := by rw [evS]; rfl
theorem evS_setL13 {s0 s1 s2 s3 s4 s5 s6 s7 s8 s9 s10 s11 s12 s : Option Sl} {es : List Ex} : evS G (.setL 13 es) (s0 :: s1 :: s2 :: s3 :: s4 :: s5 :: s6 :: s7 :: s8 :: s9 :: s10 :: s11 :: s12 :: s :: ρ) = (evEs G es (s0 :: s1 :: s2 :: s3 :: s4 :: s5 :: s6 :: s7 :: s8 :: s9 :: s10 :: s11 :: s12 :: s :: ρ)).at (s0 :: s1 :: s2 :: s3 :: s4 :: s5 :: s6 :: s7 :: s8 :: s9 :: s10 :: s11 :: s12 :: s :: ρ) fun ds => .nx (s0 :: s1 :: s2 :: s3 :: s4 :: s5 :: s6 :: s7 :: s8 :: s9 :: s10 :: s11 :: s12 :: some (.own ds) :: ρ) := by rw [evS]; rfl
theorem evS_set14 {s0 s1 s2 s3 s4 s5 s6 s7 s8 s9 s10 s11 s12 s13 s : Option Sl} {e : Ex} : evS G (.set 14 e) (s0 :: s1 :: s2 :: s3 :: s4 :: s5 :: s6 :: s7 :: s8 :: s9 :: s10 :: s11 :: s12 :: s13 :: s :: ρ) = (evE G e (s0 :: s1 :: s2 :: s3 :: s4 :: s5 :: s6 :: s7 :: s8 :: s9 :: s10 :: s11 :: s12 :: s13 :: s :: ρ)).at (s0 :: s1 :: s2 :: s3 :: s4 :: s5 :: s6 :: s7 :: s8 :: s9 :: s10 :: s11 :: s12 :: s13 :: s :: ρ) fun d => .nx (s0 :: s1 :: s2 :: s3 :: s4 :: s5 :: s6 :: s7 :: s8 :: s9 :: s10 :: s11 :: s12 :: s13 :: some (.sh d) :: ρ) := by rw [evS]; rfl
theorem evS_setL14 {s0 s1 s2 s3 s4 s5 s6 s7 s8 s9 s10 s11 s12 s13 s : Option Sl} {es : List Ex} : evS G (.setL 14 es) (s0 :: s1 :: s2 :: s3 :: s4 :: s5 :: s6 :: s7 :: s8 :: s9 :: s10 :: s11 :: s12 :: s13 :: s :: ρ) = (evEs G es (s0 :: s1 :: s2 :: s3 :: s4 :: s5 :: s6 :: s7 :: s8 :: s9 :: s10 :: s11 :: s12 :: s13 :: s :: ρ)).at (s0 :: s1 :: s2 :: s3 :: s4 :: s5 :: s6 :: s7 :: s8 :: s9 :: s10 :: s11 :: s12 :: s13 :: s :: ρ) fun ds => .nx (s0 :: s1 :: s2 :: s3 :: s4 :: s5 :: s6 :: s7 :: s8 :: s9 :: s10 :: s11 :: s12 :: s13 :: some (.own ds) :: ρ) := by rw [evS]; rfl
theorem evS_set15 {s0 s1 s2 s3 s4 s5 s6 s7 s8 s9 s10 s11 s12 s13 s14 s : Option Sl} {e : Ex} : evS G (.set 15 e) (s0 :: s1 :: s2 :: s3 :: s4 :: s5 :: s6 :: s7 :: s8 :: s9 :: s10 :: s11 :: s12 :: s13 :: s14 :: s :: ρ) = (evE G e (s0 :: s1 :: s2 :: s3 :: s4 :: s5 :: s6 :: s7 :: s8 :: s9 :: s10 :: s11 :: s12 :: s13 :: s14 :: s :: ρ)).at (s0 :: s1 :: s2 :: s3 :: s4 :: s5 :: s6 :: s7 :: s8 :: s9 :: s10 :: s11 :: s12 :: s13 :: s14 :: s :: ρ) fun d => .nx (s0 :: s1 :: s2 :: s3 :: s4 :: s5 :: s6 :: s7 :: s8 :: s9 :: s10 :: s11 :: s12 :: s13 :: s14 :: some (.sh d) :: ρ) := by rw [evS]; rfl
theorem evS_setL15 {s0 s1 s2 s3 s4 s5 s6 s7 s8 s9 s10 s11 s12 s13 s14 s : Option Sl} {es : List Ex} : evS G (.setL 15 es) (s0 :: s1 :: s2 :: s3 :: s4 :: s5 :: s6 :: s7 :: s8 :: s9 :: s10 :: s11 :: s12 :: s13 :: s14 :: s :: ρ) = (evEs G es (s0 :: s1 :: s2 :: s3 :: s4 :: s5 :: s6 :: s7 :: s8 :: s9 :: s10 :: s11 :: s12 :: s13 :: s14 :: s :: ρ)).at (s0 :: s1 :: s2 :: s3 :: s4 :: s5 :: s6 :: s7 :: s8 :: s9 :: s10 :: s11 :: s12 :: s13 :: s14 :: s :: ρ) fun ds => .nx (s0 :: s1 :: s2 :: s3 :: s4 :: s5 :: s6 :: s7 :: s8 :: s9 :: s10 :: s11 :: s12 :: s13 :: s14 :: some (.own ds) :: ρ) := by rw [evS]; rfl
theorem evS_set16 {s0 s1 s2 s3 s4 s5 s6 s7 s8 s9 s10 s11 s12 s13 s14 s15 s : Option Sl} {e : Ex} : evS G (.set 16 e) (s0 :: s1 :: s2 :: s3 :: s4 :: s5 :: s6 :: s7 :: s8 :: s9 :: s10 :: s11 :: s12 :: s13 :: s14 :: s15 :: s :: ρ) = (evE G e (s0 :: s1 :: s2 :: s3 :: s4 :: s5 :: s6 :: s7 :: s8 :: s9 :: s10 :: s11 :: s12 :: s13 :: s14 :: s15 :: s :: ρ)).at (s0 :: s1 :: s2 :: s3 :: s4 :: s5 :: s6 :: s7 :: s8 :: s9 :: s10 :: s11 :: s12 :: s13 :: s14 :: s15 :: s :: ρ) fun d => .nx (s0 :: s1 :: s2 :: s3 :: s4 :: s5 :: s6 :: s7 :: s8 :: s9 :: s10 :: s11 :: s12 :: s13 :: s14 :: s15 :: some (.sh d) :: ρ) := by rw [evS]; rfl
theorem evS_setL16 {s0 s1 s2 s3 s4 s5 s6 s7 s8 s9 s10 s11 s12 s13 s14 s15 s : Option Sl} {es : List Ex} : evS G (.setL 16 es) (s0 :: s1 :: s2 :: s3 :: s4 :: s5 :: s6 :: s7 :: s8 :: s9 :: s10 :: s11 :: s12 :: s13 :: s14 :: s15 :: s :: ρ) = (evEs G es (s0 :: s1 :: s2 :: s3 :: s4 :: s5 :: s6 :: s7 :: s8 :: s9 :: s10 :: s11 :: s12 :: s13 :: s14 :: s15 :: s :: ρ)).at (s0 :: s1 :: s2 :: s3 :: s4 :: s5 :: s6 :: s7 :: s8 :: s9 :: s10 :: s11 :: s12 :: s13 :: s14 :: s15 :: s :: ρ) fun ds => .nx (s0 :: s1 :: s2 :: s3 :: s4 :: s5 :: s6 :: s7 :: s8 :: s9 :: s10 :: s11 :: s12 :: s13 :: s14 :: s15 :: some (.own ds) :: ρ) := by rw [evS]; rfl
theorem evS_set17 {s0 s1 s2 s3 s4 s5 s6 s7 s8 s9 s10 s11 s12 s13 s14 s15 s16 s : Option Sl} {e : Ex} : evS G (.set 17 e) (s0 :: s1 :: s2 :: s3 :: s4 :: s5 :: s6 :: s7 :: s8 :: s9 :: s10 :: s11 :: s12 :: s13 :: s14 :: s15 :: s16 :: s :: ρ) = (evE G e (s0 :: s1 :: s2 :: s3 :: s4 :: s5 :: s6 :: s7 :: s8 :: s9 :: s10 :: s11 :: s12 :: s13 :: s14 :: s15 :: s16 :: s :: ρ)).at (s0 :: s1 :: s2 :: s3 :: s4 :: s5 :: s6 :: s7 :: s8 :: s9 :: s10 :: s11 :: s12 :: s13 :: s14 :: s15 :: s16 :: s :: ρ) fun d => .nx (s0 :: s1 :: s2 :: s3 :: s4 :: s5 :: s6 :: s7 :: s8 :: s9 :: s10 :: s11 :: s12 :: s13 :: s14 :: s15 :: s16 :: some (.sh d) :: ρ) := by rw [evS]; rfl
theorem evS_setL17 {s0 s1 s2 s3 s4 s5 s6 s7 s8 s9 s10 s11 s12 s13 s14 s15 s16 s : Option Sl} {es : List Ex} : evS G (.setL 17 es) (s0 :: s1 :: s2 :: s3 :: s4 :: s5 :: s6 :: s7 :: s8 :: s9 :: s10 :: s11 :: s12 :: s13 :: s14 :: s15 :: s16 :: s :: ρ) = (evEs G es (s0 :: s1 :: s2 :: s3 :: s4 :: s5 :: s6 :: s7 :: s8 :: s9 :: s10 :: s11 :: s12 :: s13 :: s14 :: s15 :: s16 :: s :: ρ)).at (s0 :: s1 :: s2 :: s3 :: s4 :: s5 :: s6 :: s7 :: s8 :: s9 :: s10 :: s11 :: s12 :: s13 :: s14 :: s15 :: s16 :: s :: ρ) fun ds => .nx (s0 :: s1 :: s2 :: s3 :: s4 :: s5 :: s6 :: s7 :: s8 :: s9 :: s10 :: s11 :: s12 :: s13 :: s14 :: s15 :: s16 :: some (.own ds) :: ρ) := by rw [evS]; rfl
theorem evS_set18 {s0 s1 s2 s3 s4 s5 s6 s7 s8 s9 s10 s11 s12 s13 s14 s15 s16 s17 s : Option Sl} {e : Ex} : evS G (.set 18 e) (s0 :: s1 :: s2 :: s3 :: s4 :: s5 :: s6 :: s7 :: s8 :: s9 :: s10 :: s11 :: s12 :: s13 :: s14 :: s15 :: s16 :: s17 :: s :: ρ) = (evE G e (s0 :: s1 :: s2 :: s3 :: s4 :: s5 :: s6 :: s7 :: s8 :: s9 :: s10 :: s11 :: s12 :: s13 :: s14 :: s15 :: s16 :: s17 :: s :: ρ)).at (s0 :: s1 :: s2 :: s3 :: s4 :: s5 :: s6 :: s7 :: s8 :: s9 :: s10 :: s11 :: s12 :: s13 :: s14 :: s15 :: s16 :: s17 :: s :: ρ) fun d => .nx (s0 :: s1 :: s2 :: s3 :: s4 :: s5 :: s6 :: s7 :: s8 :: s9 :: s10 :: s11 :: s12 :: s13 :: s14 :: s15 :: s16 :: s17 :: some (.sh d) :: ρ) := by rw [evS]; rfl
theorem evS_setL18 {s0 s1 s2 s3 s4 s5 s6 s7 s8 s9 s10 s11 s12 s13 s14 s15 s16 s17 s : Option Sl} {es : List Ex} : evS G (.setL 18 es) (s0 :: s1 :: s2 :: s3 :: s4 :: s5 :: s6 :: s7 :: s8 :: s9 :: s10 :: s11 :: s12 :: s13 :: s14 :: s15 :: s16 :: s17 :: s :: ρ) = (evEs G es (s0 :: s1 :: s2 :: s3 :: s4 :: s5 :: s6 :: s7 :: s8 :: s9 :: s10 :: s11 :: s12 :: s13 :: s14 :: s15 :: s16 :: s17 :: s :: ρ)).at (s0 :: s1 :: s2 :: s3 :: s4 :: s5 :: s6 :: s7 :: s8 :: s9 :: s10 :: s11 :: s12 :: s13 :: s14 :: s15 :: s16 :: s17 :: s :: ρ) fun ds => .nx (s0 :: s1 :: s2 :: s3 :: s4 :: s5 :: s6 :: s7 :: s8 :: s9 :: s10 :: s11 :: s12 :: s13 :: s14 :: s15 :: s16 :: s17 :: some (.own ds) :: ρ) := by rw [evS]; rfl
theorem evS_set19 {s0 s1 s2 s3 s4 s5 s6 s7 s8 s9 s10 s11 s12 s13 s14 s15 s16 s17 s18 s : Option Sl} {e : Ex} : evS G (.set 19 e) (s0 :: s1 :: s2 :: s3 :: s4 :: s5 :: s6 :: s7 :: s8 :: s9 :: s10 :: s11 :: s12 :: s13 :: s14 :: s15 :: s16 :: s17 :: s18 :: s :: ρ) = (evE G e (s0 :: s1 :: s2 :: s3 :: s4 :: s5 :: s6 :: s7 :: s8 :: s9 :: s10 :: s11 :: s12 :: s13 :: s14 :: s15 :: s16 :: s17 :: s18 :: s :: ρ)).at (s0 :: s1 :: s2 :: s3 :: s4 :: s5 :: s6 :: s7 :: s8 :: s9 :: s10 :: s11 :: s12 :: s13 :: s14 :: s15 :: s16 :: s17 :: s18 :: s :: ρ) fun d => .nx (s0 :: s1 :: s2 :: s3 :: s4 :: s5 :: s6 :: s7 :: s8 :: s9 :: s10 :: s11 :: s12 :: s13 :: s14 :: s15 :: s16 :: s17 :: s18 :: some (.sh d) :: ρ) := by rw [evS]; rfl
theorem evS_setL19 {s0 s1 s2 s3 s4 s5 s6 s7 s8 s9 s10 s11 s12 s13 s14 s15 s16 s17 s18 s : Option Sl} {es : List Ex} : evS G (.setL 19 es) (s0 :: s1 :: s2 :: s3 :: s4 :: s5 :: s6 :: s7 :: s8 :: s9 :: s10 :: s11 :: s12 :: s13 :: s14 :: s15 :: s16 :: s17 :: s18 :: s :: ρ) = (evEs G es (s0 :: s1 :: s2 :: s3 :: s4 :: s5 :: s6 :: s7 :: s8 :: s9 :: s10 :: s11 :: s12 :: s13 :: s14 :: s15 :: s16 :: s17 :: s18 :: s :: ρ)).at (s0 :: s1 :: s2 :: s3 :: s4 :: s5 :: s6 :: s7 :: s8 :: s9 :: s10 :: s11 :: s12 :: s13 :: s14 :: s15 :: s16 :: s17 :: s18 :: s :: ρ) fun ds => .nx (s0 :: s1 :: s2 :: s3 :: s4 :: s5 :: s6 :: s7 :: s8 :: s9 :: s10 :: s11 :: s12 :: s13 :: s14 :: s15 :: s16 :: s17 :: s18 :: some (.own ds) :: ρ) := by rw [evS]; rfl
theorem evS_set20 {s0 s1 s2 s3 s4 s5 s6 s7 s8 s9 s10 s11 s12 s13 s14 s15 s16 s17 s18 s19 s : Option Sl} {e : Ex} : evS G (.set 20 e) (s0 :: s1 :: s2 :: s3 :: s4 :: s5 :: s6 :: s7 :: s8 :: s9 :: s10 :: s11 :: s12 :: s13 :: s14 :: s15 :: s16 :: s17 :: s18 :: s19 :: s :: ρ) = (evE G e (s0 :: s1 :: s2 :: s3 :: s4 :: s5 :: s6 :: s7 :: s8 :: s9 :: s10 :: s11 :: s12 :: s13 :: s14 :: s15 :: s16 :: s17 :: s18 :: s19 :: s :: ρ)).at (s0 :: s1 :: s2 :: s3 :: s4 :: s5 :: s6 :: s7 :: s8 :: s9 :: s10 :: s11 :: s12 :: s13 :: s14 :: s15 :: s16 :: s17 :: s18 :: s19 :: s :: ρ) fun d => .nx (s0 :: s1 :: s2 :: s3 :: s4 :: s5 :: s6 :: s7 :: s8 :: s9 :: s10 :: s11 :: s12 :: s13 :: s14 :: s15 :: s16 :: s17 :: s18 :: s19 :: some (.sh d) :: ρ) := by rw [evS]; rfl
theorem evS_setL20 {s0 s1 s2 s3 s4 s5 s6 s7 s8 s9 s10 s11 s12 s13 s14 s15 s16 s17 s18 s19 s : Option Sl} {es : List Ex} : evS G (.setL 20 es) (s0 :: s1 :: s2 :: s3 :: s4 :: s5 :: s6 :: s7 :: s8 :: s9 :: s10 :: s11 :: s12 :: s13 :: s14 :: s15 :: s16 :: s17 :: s18 :: s19 :: s :: ρ) = (evEs G es (s0 :: s1 :: s2 :: s3 :: s4 :: s5 :: s6 :: s7 :: s8 :: s9 :: s10 :: s11 :: s12 :: s13 :: s14 :: s15 :: s16 :: s17 :: s18 :: s19 :: s :: ρ)).at (s0 :: s1 :: s2 :: s3 :: s4 :: s5 :: s6 :: s7 :: s8 :: s9 :: s10 :: s11 :: s12 :: s13 :: s14 :: s15 :: s16 :: s17 :: s18 :: s19 :: s :: ρ) fun ds => .nx (s0 :: s1 :: s2 :: s3 :: s4 :: s5 :: s6 :: s7 :: s8 :: s9 :: s10 :: s11 :: s12 :: s13 :: s14 :: s15 :: s16 :: s17 :: s18 :: s19 :: some (.own ds) :: ρ) := by rw [evS]; rfl
theorem evS_app0 {ds : List D} {e : Ex} (h : ds.length < 16777216) : evS G (.app 0 e) (some (.own ds) :: ρ) = (evE G e (some (.own ds) :: ρ)).at (some (.own ds) :: ρ) fun d => .nx (some (.own (ds ++ [d])) :: ρ) := by rw [evS]; show ((evE G e _).at _ fun d => bif decide (ds.length < 16777216) then Fl.nx _ else .bad) = _; rw [decide_eq_true h]; rfl
theorem evS_frz0 {ds : List D} : evS G (.frz 0) (some (.own ds) :: ρ) = .nx (some (.sh (.list ds)) :: ρ) := by rw [evS]; rfl
theorem evS_frs0 {d : D} : evS G (.frz 0) (some (.sh d) :: ρ) = .nx (some (.sh d) :: ρ) := by rw [evS]; rfl
theorem evE_ixo0 {ds : List D} {e : Ex} : evE G (.ixo 0 e) (some (.own ds) :: ρ) = (evE G e (some (.own ds) :: ρ)).bind fun y => ixD (.list ds) y := by rw [evE]; rfl
theorem evS_aug0 {x : D} {q : Op2} {e : Ex} : evS G (.aug 0 q e) (some (.sh x) :: ρ) = (evE G e (some (.sh x) :: ρ)).at (some (.sh x) :: ρ) fun y => (op2 q x y).at (some (.sh x) :: ρ) fun z => .nx (some (.sh z) :: ρ) := by rw [evS]; rfl
theorem evS_app1 {s0 : Option Sl} {ds : List D} {e : Ex} (h : ds.length < 16777216) : evS G (.app 1 e) (s0 :: some (.own ds) :: ρ) = (evE G e (s0 :: some (.own ds) :: ρ)).at (s0 :: some (.own ds) :: ρ) fun d => .nx (s0 :: some (.own (ds ++ [d])) :: ρ) := by rw [evS]; show ((evE G e _).at _ fun d => bif decide (ds.length < 16777216) then Fl.nx _ else .bad) = _; rw [decide_eq_true h]; rfl
theorem evS_frz1 {s0 : Option Sl} {ds : List D} : evS G (.frz 1) (s0 :: some (.own ds) :: ρ) = .nx (s0 :: some (.sh (.list ds)) :: ρ) := by rw [evS]; rfl
theorem evS_frs1 {s0 : Option Sl} {d : D} : evS G (.frz 1) (s0 :: some (.sh d) :: ρ) = .nx (s0 :: some (.sh d) :: ρ) := by rw [evS]; rfl
theorem evE_ixo1 {s0 : Option Sl} {ds : List D} {e : Ex} : evE G (.ixo 1 e) (s0 :: some (.own ds) :: ρ) = (evE G e (s0 :: some (.own ds) :: ρ)).bind fun y => ixD (.list ds) y := by rw [evE]; rfl
theorem evS_aug1 {s0 : Option Sl} {x : D} {q : Op2} {e : Ex} : evS G (.aug 1 q e) (s0 :: some (.sh x) :: ρ) = (evE G e (s0 :: some (.sh x) :: ρ)).at (s0 :: some (.sh x) :: ρ) fun y => (op2 q x y).at (s0 :: some (.sh x) :: ρ) fun z => .nx (s0 :: some (.sh z) :: ρ) := by rw [evS]; rfl
theorem evS_app2 {s0 s1 : Option Sl} {ds : List D} {e : Ex} (h : ds.length < 16777216) : evS G (.app 2 e) (s0 :: s1 :: some (.own ds) :: ρ) = (evE G e (s0 :: s1 :: some (.own ds) :: ρ)).at (s0 :: s1 :: some (.own ds) :: ρ) fun d => .nx (s0 :: s1 :: some (.own (ds ++ [d])) :: ρ) := by rw [evS]; show ((evE G e _).at _ fun d => bif decide (ds.length < 16777216) then Fl.nx _ else .bad) = _; rw [decide_eq_true h]; rfl
theorem evS_frz2 {s0 s1 : Option Sl} {ds : List D} : evS G (.frz 2) (s0 :: s1 :: some (.own ds) :: ρ) = .nx (s0 :: s1 :: some (.sh (.list ds)) :: ρ) := by rw [evS]; rfl
theorem evS_frs2 {s0 s1 : Option Sl} {d : D} : evS G (.frz 2) (s0 :: s1 :: some (.sh d) :: ρ) = .nx (s0 :: s1 :: some (.sh d) :: ρ) := by rw [evS]; rfl
theorem evE_ixo2 {s0 s1 : Option Sl} {ds : List D} {e : Ex} : evE G (.ixo 2 e) (s0 :: s1 :: some (.own ds) :: ρ) = (evE G e (s0 :: s1 :: some (.own ds) :: ρ)).bind fun y => ixD (.list ds) y := by rw [evE]; rfl
theorem evS_aug2 {s0 s1 : Option Sl} {x : D} {q : Op2} {e : Ex} : evS G (.aug 2 q e) (s0 :: s1 :: some (.sh x) :: ρ) = (evE G e (s0 :: s1 :: some (.sh x) :: ρ)).at (s0 :: s1 :: some (.sh x) :: ρ) fun y => (op2 q x y).at (s0 :: s1 :: some (.sh x) :: ρ) fun z => .nx (s0 :: s1 :: some (.sh z) :: ρ) := by rw [evS]; rfl
theorem evS_app3 {s0 s1 s2 : Option Sl} {ds : List D} {e : Ex} (h : ds.length < 16777216) : evS G (.app 3 e) (s0 :: s1 :: s2 :: some (.own ds) :: ρ) = (evE G e (s0 :: s1 :: s2 :: some (.own ds) :: ρ)).at (s0 :: s1 :: s2 :: some (.own ds) :: ρ) fun d => .nx (s0 :: s1 :: s2 :: some (.own (ds ++ [d])) :: ρ) := by rw [evS]; show ((evE G e _).at _ fun d => bif decide (ds.length < 16777216) then Fl.nx _ else .bad) = _; rw [decide_eq_true h]; rfl
theorem evS_frz3 {s0 s1 s2 : Option Sl} {ds : List D} : evS G (.frz 3) (s0 :: s1 :: s2 :: some (.own ds) :: ρ) = .nx (s0 :: s1 :: s2 :: some (.sh (.list ds)) :: ρ) := by rw [evS]; rfl
theorem evS_frs3 {s0 s1 s2 : Option Sl} {d : D} : evS G (.frz 3) (s0 :: s1 :: s2 :: some (.sh d) :: ρ) = .nx (s0 :: s1 :: s2 :: some (.sh d) :: ρ) := by rw [evS]; rfl
theorem evE_ixo3 {s0 s1 s2 : Option Sl} {ds : List D} {e : Ex} : evE G (.ixo 3 e) (s0 :: s1 :: s2 :: some (.own ds) :: ρ) = (evE G e (s0 :: s1 :: s2 :: some (.own ds) :: ρ)).bind fun y => ixD (.list ds) y := by rw [evE]; rfl
theorem evS_aug3 {s0 s1 s2 : Option Sl} {x : D} {q : Op2} {e : Ex} : evS G (.aug 3 q e) (s0 :: s1 :: s2 :: some (.sh x) :: ρ) = (evE G e (s0 :: s1 :: s2 :: some (.sh x) :: ρ)).at (s0 :: s1 :: s2 :: some (.sh x) :: ρ) fun y => (op2 q x y).at (s0 :: s1 :: s2 :: some (.sh x) :: ρ) fun z => .nx (s0 :: s1 :: s2 :: some (.sh z) :: ρ) := by rw [evS]; rfl
theorem evS_app4 {s0 s1 s2 s3 : Option Sl} {ds : List D} {e : Ex} (h : ds.length < 16777216) : evS G (.app 4 e) (s0 :: s1 :: s2 :: s3 :: some (.own ds) :: ρ) = (evE G e (s0 :: s1 :: s2 :: s3 :: some (.own ds) :: ρ)).at (s0 :: s1 :: s2 :: s3 :: some (.own ds) :: ρ) fun d => .nx (s0 :: s1 :: s2 :: s3 :: some (.own (ds ++ [d])) :: ρ) := by rw [evS]; show ((evE G e _).at _ fun d => bif decide (ds.length < 16777216) then Fl.nx _ else .bad) = _; rw [decide_eq_true h]; rfl
theorem evS_frz4 {s0 s1 s2 s3 : Option Sl} {ds : List D} : evS G (.frz 4) (s0 :: s1 :: s2 :: s3 :: some (.own ds) :: ρ) = .nx (s0 :: s1 :: s2 :: s3 :: some (.sh (.list ds)) :: ρ) := by rw [evS]; rfl
theorem evS_frs4 {s0 s1 s2 s3 : Option Sl} {d : D} : evS G (.frz 4) (s0 :: s1 :: s2 :: s3 :: some (.sh d) :: ρ) = .nx (s0 :: s1 :: s2 :: s3 :: some (.sh d) :: ρ) := by rw [evS]; rfl
theorem evE_ixo4 {s0 s1 s2 s3 : Option Sl} {ds : List D} {e : Ex} : evE G (.ixo 4 e) (s0 :: s1 :: s2 :: s3 :: some (.own ds) :: ρ) = (evE G e (s0 :: s1 :: s2 :: s3 :: some (.own ds) :: ρ)).bind fun y => ixD (.list ds) y := by rw [evE]; rfl
theorem evS_aug4 {s0 s1 s2 s3 : Option Sl} {x : D} {q : Op2} {e : Ex} : evS G (.aug 4 q e) (s0 :: s1 :: s2 :: s3 :: some (.sh x) :: ρ) = (evE G e (s0 :: s1 :: s2 :: s3 :: some (.sh x) :: ρ)).at (s0 :: s1 :: s2 :: s3 :: some (.sh x) :: ρ) fun y => (op2 q x y).at (s0 :: s1 :: s2 :: s3 :: some (.sh x) :: ρ) fun z => .nx (s0 :: s1 :: s2 :: s3 :: some (.sh z) :: ρ) := by rw [evS]; rfl
theorem evS_app5 {s0 s1 s2 s3 s4 : Option Sl} {ds : List D} {e : Ex} (h : ds.length < 16777216) : evS G (.app 5 e) (s0 :: s1 :: s2 :: s3 :: s4 :: some (.own ds) :: ρ) = (evE G e (s0 :: s1 :: s2 :: s3 :: s4 :: some (.own ds) :: ρ)).at (s0 :: s1 :: s2 :: s3 :: s4 :: some (.own ds) :: ρ) fun d => .nx (s0 :: s1 :: s2 :: s3 :: s4 :: some (.own (ds ++ [d])) :: ρ) := by rw [evS]; show ((evE G e _).at _ fun d => bif decide (ds.length < 16777216) then Fl.nx _ else .bad) = _; rw [decide_eq_true h]; rfl
theorem evS_frz5 {s0 s1 s2 s3 s4 : Option Sl} {ds : List D} : evS G (.frz 5) (s0 :: s1 :: s2 :: s3 :: s4 :: some (.own ds) :: ρ) = .nx (s0 :: s1 :: s2 :: s3 :: s4 :: some (.sh (.list ds)) :: ρ) := by rw [evS]; rfl
theorem evS_frs5 {s0 s1 s2 s3 s4 : Option Sl} {d : D} : evS G (.frz 5) (s0 :: s1 :: s2 :: s3 :: s4 :: some (.sh d) :: ρ) = .nx (s0 :: s1 :: s2 :: s3 :: s4 :: some (.sh d) :: ρ) := by rw [evS]; rfl
theorem evE_ixo5 {s0 s1 s2 s3 s4 : Option Sl} {ds : List D} {e : Ex} : evE G (.ixo 5 e) (s0 :: s1 :: s2 :: s3 :: s4 :: some (.own ds) :: ρ) = (evE G e (s0 :: s1 :: s2 :: s3 :: s4 :: some (.own ds) :: ρ)).bind fun y => ixD (.list ds) y := by rw [evE]; rfl
theorem evS_aug5 {s0 s1 s2 s3 s4 : Option Sl} {x : D} {q : Op2} {e : Ex} : evS G (.aug 5 q e) (s0 :: s1 :: s2 :: s3 :: s4 :: some (.sh x) :: ρ) = (evE G e (s0 :: s1 :: s2 :: s3 :: s4 :: some (.sh x) :: ρ)).at (s0 :: s1 :: s2 :: s3 :: s4 :: some (.sh x) :: ρ) fun y => (op2 q x y).at (s0 :: s1 :: s2 :: s3 :: s4 :: some (.sh x) :: ρ) fun z => .nx (s0 :: s1 :: s2 :: s3 :: s4 :: some (.sh z) :: ρ) := by rw [evS]; rfl
theorem evS_app6 {s0 s1 s2 s3 s4 s5 : Option Sl} {ds : List D} {e : Ex} (h : ds.length < 16777216) : evS G (.app 6 e) (s0 :: s1 :: s2 :: s3 :: s4 :: s5 :: some (.own ds) :: ρ) = (evE G e (s0 :: s1 :: s2 :: s3 :: s4 :: s5 :: some (.own ds) :: ρ)).at (s0 :: s1 :: s2 :: s3 :: s4 :: s5 :: some (.own ds) :: ρ) fun d => .nx (s0 :: s1 :: s2 :: s3 :: s4 :: s5 :: some (.own (ds ++ [d])) :: ρ) := by rw [evS]; show ((evE G e _).at _ fun d => bif decide (ds.length < 16777216) then Fl.nx _ else .bad) = _; rw [decide_eq_true h]; rfl
theorem evS_frz6 {s0 s1 s2 s3 s4 s5 : Option Sl} {ds : List D} : evS G (.frz 6) (s0 :: s1 :: s2 :: s3 :: s4 :: s5 :: some (.own ds) :: ρ) = .nx (s0 :: s1 :: s2 :: s3 :: s4 :: s5 :: some (.sh (.list ds)) :: ρ) := by rw [evS]; rfl
theorem evS_frs6 {s0 s1 s2 s3 s4 s5 : Option Sl} {d : D} : evS G (.frz 6) (s0 :: s1 :: s2 :: s3 :: s4 :: s5 :: some (.sh d) :: ρ) = .nx (s0 :: s1 :: s2 :: s3 :: s4 :: s5 :: some (.sh d) :: ρ) := by rw [evS]; rfl
theorem evE_ixo6 {s0 s1 s2 s3 s4 s5 : Option Sl} {ds : List D} {e : Ex} : evE G (.ixo 6 e) (s0 :: s1 :: s2 :: s3 :: s4 :: s5 :: some (.own ds) :: ρ) = (evE G e (s0 :: s1 :: s2 :: s3 :: s4 :: s5 :: some (.own ds) :: ρ)).bind fun y => ixD (.list ds) y := by rw [evE]; rfl
theorem evS_aug6 {s0 s1 s2 s3 s4 s5 : Option Sl} {x : D} {q : Op2} {e : Ex} : evS G (.aug 6 q e) (s0 :: s1 :: s2 :: s3 :: s4 :: s5 :: some (.sh x) :: ρ) = (evE G e (s0 :: s1 :: s2 :: s3 :: s4 :: s5 :: some (.sh x) :: ρ)).at (s0 :: s1 :: s2 :: s3 :: s4 :: s5 :: some (.sh x) :: ρ) fun y => (op2 q x y).at (s0 :: s1 :: s2 :: s3 :: s4 :: s5 :: some (.sh x) :: ρ) fun z => .nx (s0 :: s1 :: s2 :: s3 :: s4 :: s5 :: some (.sh z) :: ρ) := by rw [evS]; rfl
theorem evS_app7 {s0 s1 s2 s3 s4 s5 s6 : Option Sl} {ds : List D} {e : Ex} (h : ds.length < 16777216) : evS G (.app 7 e) (s0 :: s1 :: s2 :: s3 :: s4 :: s5 :: s6 :: some (.own ds) :: ρ) = (evE G e (s0 :: s1 :: s2 :: s3 :: s4 :: s5 :: s6 :: some (.own ds) :: ρ)).at (s0 :: s1 :: s2 :: s3 :: s4 :: s5 :: s6 :: some (.own ds) :: ρ) fun d => .nx (s0 :: s1 :: s2 :: s3 :: s4 :: s5 :: s6 :: some (.own (ds ++ [d])) :: ρ) := by rw [evS]; show ((evE G e _).at _ fun d => bif decide (ds.length < 16777216) then Fl.nx _ else .bad) = _; rw [decide_eq_true h]; rfl
theorem evS_frz7 {s0 s1 s2 s3 s4 s5 s6 : Option Sl} {ds : List D} : evS G (.frz 7) (s0 :: s1 :: s2 :: s3 :: s4 :: s5 :: s6 :: some (.own ds) :: ρ) = .nx (s0 :: s1 :: s2 :: s3 :: s4 :: s5 :: s6 :: some (.sh (.list ds)) :: ρ) := by rw [evS]; rfl
theorem evS_frs7 {s0 s1 s2 s3 s4 s5 s6 : Option Sl} {d : D} : evS G (.frz 7) (s0 :: s1 :: s2 :: s3 :: s4 :: s5 :: s6 :: some (.sh d) :: ρ) = .nx (s0 :: s1 :: s2 :: s3 :: s4 :: s5 :: s6 :: some (.sh d) :: ρ) := by rw [evS]; rfl
theorem evE_ixo7 {s0 s1 s2 s3 s4 s5 s6 : Option Sl} {ds : List D} {e : Ex} : evE G (.ixo 7 e) (s0 :: s1 :: s2 :: s3 :: s4 :: s5 :: s6 :: some (.own ds) :: ρ) = (evE G e (s0 :: s1 :: s2 :: s3 :: s4 :: s5 :: s6 :: some (.own ds) :: ρ)).bind fun y => ixD (.list ds) y := by rw [evE]; rfl
theorem evS_aug7 {s0 s1 s2 s3 s4 s5 s6 : Option Sl} {x : D} {q : Op2} {e : Ex} : evS G (.aug 7 q e) (s0 :: s1 :: s2 :: s3 :: s4 :: s5 :: s6 :: some (.sh x) :: ρ) = (evE G e (s0 :: s1 :: s2 :: s3 :: s4 :: s5 :: s6 :: some (.sh x) :: ρ)).at (s0 :: s1 :: s2 :: s3 :: s4 :: s5 :: s6 :: some (.sh x) :: ρ) fun y => (op2 q x y).at (s0 :: s1 :: s2 :: s3 :: s4 :: s5 :: s6 :: some (.sh x) :: ρ) fun z => .nx (s0 :: s1 :: s2 :: s3 :: s4 :: s5 :: s6 :: some (.sh z) :: ρ) := by rw [evS]; rfl
theorem evS_app8 {s0 s1 s2 s3 s4 s5 s6 s7 : Option Sl} {ds : List D} {e : Ex} (h : ds.length < 16777216) : evS G (.app 8 e) (s0 :: s1 :: s2 :: s3 :: s4 :: s5 :: s6 :: s7 :: some (.own ds) :: ρ) = (evE G e (s0 :: s1 :: s2 :: s3 :: s4 :: s5 :: s6 :: s7 :: some (.own ds) :: ρ)).at (s0 :: s1 :: s2 :: s3 :: s4 :: s5 :: s6 :: s7 :: some (.own ds) :: ρ) fun d => .nx (s0 :: s1 :: s2 :: s3 :: s4 :: s5 :: s6 :: s7 :: some (.own (ds ++ [d])) :: ρ) := by rw [evS]; show ((evE G e _).at _ fun d => bif decide (ds.length < 16777216) then Fl.nx _ else .bad) = _; rw [decide_eq_true h]; rfl
theorem evS_frz8 {s0 s1 s2 s3 s4 s5 s6 s7 : Option Sl} {ds : List D} : evS G (.frz 8) (s0 :: s1 :: s2 :: s3 :: s4 :: s5 :: s6 :: s7 :: some (.own ds) :: ρ) = .nx (s0 :: s1 :: s2 :: s3 :: s4 :: s5 :: s6 :: s7 :: some (.sh (.list ds)) :: ρ) := by rw [evS]; rfl
theorem evS_frs8 {s0 s1 s2 s3 s4 s5 s6 s7 : Option Sl} {d : D} : evS G (.frz 8) (s0 :: s1 :: s2 :: s3 :: s4 :: s5 :: s6 :: s7 :: some (.sh d) :: ρ) = .nx (s0 :: s1 :: s2 :: s3 :: s4 :: s5 :: s6 :: s7 :: some (.sh d) :: ρ) := by rw [evS]; rfl
theorem evE_ixo8 {s0 s1 s2 s3 s4 s5 s6 s7 : Option Sl} {ds : List D} {e : Ex} : evE G (.ixo 8 e) (s0 :: s1 :: s2 :: s3 :: s4 :: s5 :: s6 :: s7 :: some (.own ds) :: ρ) = (evE G e (s0 :: s1 :: s2 :: s3 :: s4 :: s5 :: s6 :: s7 :: some (.own ds) :: ρ)).bind fun y => ixD (.list ds) y := by rw [evE]; rfl
theorem evS_aug8 {s0 s1 s2 s3 s4 s5 s6 s7 : Option Sl} {x : D} {q : Op2} {e : Ex} : evS G (.aug 8 q e) (s0 :: s1 :: s2 :: s3 :: s4 :: s5 :: s6 :: s7 :: some (.sh x) :: ρ) = (evE G e (s0 :: s1 :: s2 :: s3 :: s4 :: s5 :: s6 :: s7 :: some (.sh x) :: ρ)).at (s0 :: s1 :: s2 :: s3 :: s4 :: s5 :: s6 :: s7 :: some (.sh x) :: ρ) fun y => (op2 q x y).at (s0 :: s1 :: s2 :: s3 :: s4 :: s5 :: s6 :: s7 :: some (.sh x) :: ρ) fun z => .nx (s0 :: s1 :: s2 :: s3 :: s4 :: s5 :: s6 :: s7 :: some (.sh z) :: ρ) := by rw [evS]; rfl
theorem evS_app9 {s0 s1 s2 s3 s4 s5 s6 s7 s8 : Option Sl} {ds : List D} {e : Ex} (h : ds.length < 16777216) : evS G (.app 9 e) (s0 :: s1 :: s2 :: s3 :: s4 :: s5 :: s6 :: s7 :: s8 :: some (.own ds) :: ρ) = (evE G e (s0 :: s1 :: s2 :: s3 :: s4 :: s5 :: s6 :: s7 :: s8 :: some (.own ds) :: ρ)).at (s0 :: s1 :: s2 :: s3 :: s4 :: s5 :: s6 :: s7 :: s8 :: some (.own ds) :: ρ) fun d => .nx (s0 :: s1 :: s2 :: s3 :: s4 :: s5 :: s6 :: s7 :: s8 :: some (.own (ds ++ [d])) :: ρ) := by rw [evS]; show ((evE G e _).at _ fun d => bif decide (ds.length < 16777216) then Fl.nx _ else .bad) = _; rw [decide_eq_true h]; rfl
theorem evS_frz9 {s0 s1 s2 s3 s4 s5 s6 s7 s8 : Option Sl} {ds : List D} : evS G (.frz 9) (s0 :: s1 :: s2 :: s3 :: s4 :: s5 :: s6 :: s7 :: s8 :: some (.own ds) :: ρ) = .nx (s0 :: s1 :: s2 :: s3 :: s4 :: s5 :: s6 :: s7 :: s8 :: some (.sh (.list ds)) :: ρ) := by rw [evS]; rfl
theorem evS_frs9 {s0 s1 s2 s3 s4 s5 s6 s7 s8 : Option Sl} {d : D} : evS G (.frz 9) (s0 :: s1 :: s2 :: s3 :: s4 :: s5 :: s6 :: s7 :: s8 :: some (.sh d) :: ρ) = .nx (s0 :: s1 :: s2 :: s3 :: s4 :: s5 :: s6 :: s7 :: s8 :: some (.sh d) :: ρ) := by rw [evS]; rfl
theorem evE_ixo9 {s0 s1 s2 s3 s4 s5 s6 s7 s8 : Option Sl} {ds : List D} {e : Ex} : evE G (.ixo 9 e) (s0 :: s1 :: s2 :: s3 :: s4 :: s5 :: s6 :: s7 :: s8 :: some (.own ds) :: ρ) = (evE G e (s0 :: s1 :: s2 :: s3 :: s4 :: s5 :: s6 :: s7 :: s8 :: some (.own ds) :: ρ)).bind fun y => ixD (.list ds) y := by rw [evE]; rfl
theorem evS_aug9 {s0 s1 s2 s3 s4 s5 s6 s7 s8 : Option Sl} {x : D} {q : Op2} {e : Ex} : evS G (.aug 9 q e) (s0 :: s1 :: s2 :: s3 :: s4 :: s5 :: s6 :: s7 :: s8 :: some (.sh x) :: ρ) = (evE G e (s0 :: s1 :: s2 :: s3 :: s4 :: s5 :: s6 :: s7 :: s8 :: some (.sh x) :: ρ)).at (s0 :: s1 :: s2 :: s3 :: s4 :: s5 :: s6 :: s7 :: s8 :: some (.sh x) :: ρ) fun y => (op2 q x y).at (s0 :: s1 :: s2 :: s3 :: s4 :: s5 :: s6 :: s7 :: s8 :: some (.sh x) :: ρ) fun z => .nx (s0 :: s1 :: s2 :: s3 :: s4 :: s5 :: s6 :: s7 :: s8 :: some (.sh z) :: ρ) := by rw [evS]; rfl
theorem evS_app10 {s0 s1 s2 s3 s4 s5 s6 s7 s8 s9 : Option Sl} {ds : List D} {e : Ex} (h : ds.length < 16777216) : evS G (.app 10 e) (s0 :: s1 :: s2 :: s3 :: s4 :: s5 :: s6 :: s7 :: s8 :: s9 :: some (.own ds) :: ρ) = (evE G e (s0 :: s1 :: s2 :: s3 :: s4 :: s5 :: s6 :: s7 :: s8 :: s9 :: some (.own ds) :: ρ)).at (s0 :: s1 :: s2 :: s3 :: s4 :: s5 :: s6 :: s7 :: s8 :: s9 :: some (.own ds) :: ρ) fun d => .nx (s0 :: s1 :: s2 :: s3 :: s4 :: s5 :: s6 :: s7 :: s8 :: s9 :: some (.own (ds ++ [d])) :: ρ) := by rw [evS]; show ((evE G e _).at _ fun d => bif decide (ds.length < 16777216) then Fl.nx _ else .bad) = _; rw [decide_eq_true h]; rfl
theorem evS_frz10 {s0 s1 s2 s3 s4 s5 s6 s7 s8 s9 : Option Sl} {ds : List D} : evS G (.frz 10) (s0 :: s1 :: s2 :: s3 :: s4 :: s5 :: s6 :: s7 :: s8 :: s9 :: some (.own ds) :: ρ) = .nx (s0 :: s1 :: s2 :: s3 :: s4 :: s5 :: s6 :: s7 :: s8 :: s9 :: some (.sh (.list ds)) :: ρ) := by rw [evS]; rfl
theorem evS_frs10 {s0 s1 s2 s3 s4 s5 s6 s7 s8 s9 : Option Sl} {d : D} : evS G (.frz 10) (s0 :: s1 :: s2 :: s3 :: s4 :: s5 :: s6 :: s7 :: s8 :: s9 :: some (.sh d) :: ρ) = .nx (s0 :: s1 :: s2 :: s3 :: s4 :: s5 :: s6 :: s7 :: s8 :: s9 :: some (.sh d) :: ρ) := by rw [evS]; rfl
theorem evE_ixo10 {s0 s1 s2 s3 s4 s5 s6 s7 s8 s9 : Option Sl} {ds : List D} {e : Ex} : evE G (.ixo 10 e) (s0 :: s1 :: s2 :: s3 :: s4 :: s5 :: s6 :: s7 :: s8 :: s9 :: some (.own ds) :: ρ) = (evE G e (s0 :: s1 :: s2 :: s3 :: s4 :: s5 :: s6 :: s7 :: s8 :: s9 :: some (.own ds) :: ρ)).bind fun y => ixD (.list ds) y := by rw [evE]; rfl
theorem evS_aug10 {s0 s1 s2 s3 s4 s5 s6 s7 s8 s9 : Option Sl} {x : D} {q : Op2} {e : Ex} : evS G (.aug 10 q e) (s0 :: s1 :: s2 :: s3 :: s4 :: s5 :: s6 :: s7 :: s8 :: s9 :: some (.sh x) :: ρ) = (evE G e (s0 :: s1 :: s2 :: s3 :: s4 :: s5 :: s6 :: s7 :: s8 :: s9 :: some (.sh x) :: ρ)).at (s0 :: s1 :: s2 :: s3 :: s4 :: s5 :: s6 :: s7 :: s8 :: s9 :: some (.sh x) :: ρ) fun y => (op2 q x y).at (s0 :: s1 :: s2 :: s3 :: s4 :: s5 :: s6 :: s7 :: s8 :: s9 :: some (.sh x) :: ρ) fun z => .nx (s0 :: s1 :: s2 :: s3 :: s4 :: s5 :: s6 :: s7 :: s8 :: s9 :: some (.sh z) :: ρ) := by rw [evS]; rfl
theorem evS_app11 {s0 s1 s2 s3 s4 s5 s6 s7 s8 s9 s10 : Option Sl} {ds : List D} {e : Ex} (h : ds.length < 16777216) : evS G (.app 11 e) (s0 :: s1 :: s2 :: s3 :: s4 :: s5 :: s6 :: s7 :: s8 :: s9 :: s10 :: some (.own ds) :: ρ) = (evE G e (s0 :: s1 :: s2 :: s3 :: s4 :: s5 :: s6 :: s7 :: s8 :: s9 :: s10 :: some (.own ds) :: ρ)).at (s0 :: s1 :: s2 :: s3 :: s4 :: s5 :: s6 :: s7 :: s8 :: s9 :: s10 :: some (.own ds) :: ρ) fun d => .nx (s0 :: s1 :: s2 :: s3 :: s4 :: s5 :: s6 :: s7 :: s8 :: s9 :: s10 :: some (.own (ds ++ [d])) :: ρ) := by rw [evS]; show ((evE G e _).at _ fun d => bif decide (ds.length < 16777216) then Fl.nx _ else .bad) = _; rw [decide_eq_true h]; rfl
theorem evS_frz11 {s0 s1 s2 s3 s4 s5 s6 s7 s8 s9 s10 : Option Sl} {ds : List D} : evS G (.frz 11) (s0 :: s1 :: s2 :: s3 :: s4 :: s5 :: s6 :: s7 :: s8 :: s9 :: s10 :: some (.own ds) :: ρ) = .nx (s0 :: s1 :: s2 :: s3 :: s4 :: s5 :: s6 :: s7 :: s8 :: s9 :: s10 :: some (.sh (.list ds)) :: ρ) := by rw [evS]; rfl
theorem evS_frs11 {s0 s1 s2 s3 s4 s5 s6 s7 s8 s9 s10 : Option Sl} {d : D} : evS G (.frz 11) (s0 :: s1 :: s2 :: s3 :: s4 :: s5 :: s6 :: s7 :: s8 :: s9 :: s10 :: some (.sh d) :: ρ) = .nx (s0 :: s1 :: s2 :: s3 :: s4 :: s5 :: s6 :: s7 :: s8 :: s9 :: s10 :: some (.sh d) :: ρ) := by rw [evS]; rfl
theorem evE_ixo11 {s0 s1 s2 s3 s4 s5 s6 s7 s8 s9 s10 : Option Sl} {ds : List D} {e : Ex} : evE G (.ixo 11 e) (s0 :: s1 :: s2 :: s3 :: s4 :: s5 :: s6 :: s7 :: s8 :: s9 :: s10 :: some (.own ds) :: ρ) = (evE G e (s0 :: s1 :: s2 :: s3 :: s4 :: s5 :: s6 :: s7 :: s8 :: s9 :: s10 :: some (.own ds) :: ρ)).bind fun y => ixD (.list ds) y := by rw [evE]; rfl
theorem evS_aug11 {s0 s1 s2 s3 s4 s5 s6 s7 s8 s9 s10 : Option Sl} {x : D} {q : Op2} {e : Ex} : evS G (.aug 11 q e) (s0 :: s1 :: s2 :: s3 :: s4 :: s5 :: s6 :: s7 :: s8 :: s9 :: s10 :: some (.sh x) :: ρ) = (evE G e (s0 :: s1 :: s2 :: s3 :: s4 :: s5 :: s6 :: s7 :: s8 :: s9 :: s10 :: some (.sh x) :: ρ)).at (s0 :: s1 :: s2 :: s3 :: s4 :: s5 :: s6 :: s7 :: s8 :: s9 :: s10 :: some (.sh x) :: ρ) fun y => (op2 q x y).at (s0 :: s1 :: s2 :: s3 :: s4 :: s5 :: s6 :: s7 :: s8 :: s9 :: s10 :: some (.sh x) :: ρ) fun z => .nx (s0 :: s1 :: s2 :: s3 :: s4 :: s5 :: s6 :: s7 :: s8 :: s9 :: s10 :: some (.sh z) :: ρ) := by rw [evS]; rfl
theorem evS_app12 {s0 s1 s2 s3 s4 s5 s6 s7 s8 s9 s10 s11 : Option Sl} {ds : List D} {e : Ex} (h : ds.length < 16777216) : evS G (.app 12 e) (s0 :: s1 :: s2 :: s3 :: s4 :: s5 :: s6 :: s7 :: s8 :: s9 :: s10 :: s11 :: some (.own ds) :: ρ) = (evE G e (s0 :: s1 :: s2 :: s3 :: s4 :: s5 :: s6 :: s7 :: s8 :: s9 :: s10 :: s11 :: some (.own ds) :: ρ)).at (s0 :: s1 :: s2 :: s3 :: s4 :: s5 :: s6 :: s7 :: s8 :: s9 :: s10 :: s11 :: some (.own ds) :: ρ) fun d => .nx (s0 :: s1 :: s2 :: s3 :: s4 :: s5 :: s6 :: s7 :: s8 :: s9 :: s10 :: s11 :: some (.own (ds ++ [d])) :: ρ) := by rw [evS]; show ((evE G e _).at _ fun d => bif decide (ds.length < 16777216) then Fl.nx _ else .bad) = _; rw [decide_eq_true h]; rfl
theorem evS_frz12 {s0 s1 s2 s3 s4 s5 s6 s7 s8 s9 s10 s11 : Option Sl} {ds : List D} : evS G (.frz 12) (s0 :: s1 :: s2 :: s3 :: s4 :: s5 :: s6 :: s7 :: s8 :: s9 :: s10 :: s11 :: some (.own ds) :: ρ) = .nx (s0 :: s1 :: s2 :: s3 :: s4 :: s5 :: s6 :: s7 :: s8 :: s9 :: s10 :: s11 :: some (.sh (.list ds)) :: ρ) := by rw [evS]; rfl
theorem evS_frs12 {s0 s1 s2 s3 s4 s5 s6 s7 s8 s9 s10 s11 : Option Sl} {d : D} : evS G (.frz 12) (s0 :: s1 :: s2 :: s3 :: s4 :: s5 :: s6 :: s7 :: s8 :: s9 :: s10 :: s11 :: some (.sh d) :: ρ) = .nx (s0 :: s1 :: s2 :: s3 :: s4 :: s5 :: s6 :: s7 :: s8 :: s9 :: s10 :: s11 :: some (.sh d) :: ρ) := by rw [evS]; rfl
theorem evE_ixo12 {s0 s1 s2 s3 s4 s5 s6 s7 s8 s9 s10 s11 : Option Sl} {ds : List D} {e : Ex} : evE G (.ixo 12 e) (s0 :: s1 :: s2 :: s3 :: s4 :: s5 :: s6 :: s7 :: s8 :: s9 :: s10 :: s11 :: some (.own ds) :: ρ) = (evE G e (s0 :: s1 :: s2 :: s3 :: s4 :: s5 :: s6 :: s7 :: s8 :: s9 :: s10 :: s11 :: some (.own ds) :: ρ)).bind fun y => ixD (.list ds) y := by rw [evE]; rfl
theorem evS_aug12 {s0 s1 s2 s3 s4 s5 s6 s7 s8 s9 s10 s11 : Option Sl} {x : D} {q : Op2} {e : Ex} : evS G (.aug 12 q e) (s0 :: s1 :: s2 :: s3 :: s4 :: s5 :: s6 :: s7 :: s8 :: s9 :: s10 :: s11 :: some (.sh x) :: ρ) = (evE G e (s0 :: s1 :: s2 :: s3 :: s4 :: s5 :: s6 :: s7 :: s8 :: s9 :: s10 :: s11 :: some (.sh x) :: ρ)).at (s0 :: s1 :: s2 :: s3 :: s4 :: s5 :: s6 :: s7 :: s8 :: s9 :: s10 :: s11 :: some (.sh x) :: ρ) fun y => (op2 q x y).at (s0 :: s1 :: s2 :: s3 :: s4 :: s5 :: s6 :: s7 :: s8 :: s9 :: s10 :: s11 :: some (.sh x) :: ρ) fun z => .nx (s0 :: s1 :: s2 :: s3 :: s4 :: s5 :: s6 :: s7 :: s8 :: s9 :: s10 :: s11 :: some (.sh z) :: ρ) := by rw [evS]; rfl
theorem evS_app13 {s0 s1 s2 s3 s4 s5 s6 s7 s8 s9 s10 s11 s12 : Option Sl} {ds : List D} {e : Ex} (h : ds.length < 16777216) : evS G (.app 13 e) (s0 :: s1 :: s2 :: s3 :: s4 :: s5 :: s6 :: s7 :: s8 :: s9 :: s10 :: s11 :: s12 :: some (.own ds) :: ρ) = (evE G e (s0 :: s1 :: s2 :: s3 :: s4 :: s5 :: s6 :: s7 :: s8 :: s9 :: s10 :: s11 :: s12 :: some (.own ds) :: ρ)).at (s0 :: s1 :: s2 :: s3 :: s4 :: s5 :: s6 :: s7 :: s8 :: s9 :: s10 :: s11 :: s12 :: some (.own ds) :: ρ) fun d => .nx (s0 :: s1 :: s2 :: s3 :: s4 :: s5 :: s6 :: s7 :: s8 :: s9 :: s10 :: s11 :: s12 :: some (.own (ds ++ [d])) :: ρ) := by rw [evS]; show ((evE G e _).at _ fun d => bif decide (ds.length < 16777216) then Fl.nx _ else .bad) = _; rw [decide_eq_true h]; rfl
theorem evS_frz13 {s0 s1 s2 s3 s4 s5 s6 s7 s8 s9 s10 s11 s12 : Option Sl} {ds : List D} : evS G (.frz 13) (s0 :: s1 :: s2 :: s3 :: s4 :: s5 :: s6 :: s7 :: s8 :: s9 :: s10 :: s11 :: s12 :: some (.own ds) :: ρ) = .nx (s0 :: s1 :: s2 :: s3 :: s4 :: s5 :: s6 :: s7 :: s8 :: s9 :: s10 :: s11 :: s12 :: some (.sh (.list ds)) :: ρ) := by rw [evS]; rfl
theorem evS_frs13 {s0 s1 s2 s3 s4 s5 s6 s7 s8 s9 s10 s11 s12 : Option Sl} {d : D} : evS G (.frz 13) (s0 :: s1 :: s2 :: s3 :: s4 :: s5 :: s6 :: s7 :: s8 :: s9 :: s10 :: s11 :: s12 :: some (.sh d) :: ρ) = .nx (s0 :: s1 :: s2 :: s3 :: s4 :: s5 :: s6 :: s7 :: s8 :: s9 :: s10 :: s11 :: s12 :: some (.sh d) :: ρ) := by rw [evS]; rfl
theorem evE_ixo13 {s0 s1 s2 s3 s4 s5 s6 s7 s8 s9 s10 s11 s12 : Option Sl} {ds : List D} {e : Ex} : evE G (.ixo 13 e) (s0 :: s1 :: s2 :: s3 :: s4 :: s5 :: s6 :: s7 :: s8 :: s9 :: s10 :: s11 :: s12 :: some (.own ds) :: ρ) = (evE G e (s0 :: s1 :: s2 :: s3 :: s4 :: s5 :: s6 :: s7 :: s8 :: s9 :: s10 :: s11 :: s12 :: some (.own ds) :: ρ)).bind fun y => ixD (.list ds) y := by rw [evE]; rfl
theorem evS_aug13 {s0 s1 s2 s3 s4 s5 s6 s7 s8 s9 s10 s11 s12 : Option Sl} {x : D} {q : Op2} {e : Ex} : evS G (.aug 13 q e) (s0 :: s1 :: s2 :: s3 :: s4 :: s5 :: s6 :: s7 :: s8 :: s9 :: s10 :: s11 :: s12 :: some (.sh x) :: ρ) = (evE G e (s0 :: s1 :: s2 :: s3 :: s4 :: s5 :: s6 :: s7 :: s8 :: s9 :: s10 :: s11 :: s12 :: some (.sh x) :: ρ)).at (s0 :: s1 :: s2 :: s3 :: s4 :: s5 :: s6 :: s7 :: s8 :: s9 :: s10 :: s11 :: s12 :: some (.sh x) :: ρ) fun y => (op2 q x y).at (s0 :: s1 :: s2 :: s3 :: s4 :: s5 :: s6 :: s7 :: s8 :: s9 :: s10 :: s11 :: s12 :: some (.sh x) :: ρ) fun z => .nx (s0 :: s1 :: s2 :: s3 :: s4 :: s5 :: s6 :: s7 :: s8 :: s9 :: s10 :: s11 :: s12 :: some (.sh z) :: ρ) := by rw [evS]; rfl
theorem evS_app14 {s0 s1 s2 s3 s4 s5 s6 s7 s8 s9 s10 s11 s12 s13 : Option Sl} {ds : List D} {e : Ex} (h : ds.length < 16777216) : evS G (.app 14 e) (s0 :: s1 :: s2 :: s3 :: s4 :: s5 :: s6 :: s7 :: s8 :: s9 :: s10 :: s11 :: s12 :: s13 :: some (.own ds) :: ρ) = (evE G e (s0 :: s1 :: s2 :: s3 :: s4 :: s5 :: s6 :: s7 :: s8 :: s9 :: s10 :: s11 :: s12 :: s13 :: some (.own ds) :: ρ)).at (s0 :: s1 :: s2 :: s3 :: s4 :: s5 :: s6 :: s7 :: s8 :: s9 :: s10 :: s11 :: s12 :: s13 :: some (.own ds) :: ρ) fun d => .nx (s0 :: s1 :: s2 :: s3 :: s4 :: s5 :: s6 :: s7 :: s8 :: s9 :: s10 :: s11 :: s12 :: s13 :: some (.own (ds ++ [d])) :: ρ) := by rw [evS]; show ((evE G e _).at _ fun d => bif decide (ds.length < 16777216) then Fl.nx _ else .bad) = _; rw [decide_eq_true h]; rfl
theorem evS_frz14 {s0 s1 s2 s3 s4 s5 s6 s7 s8 s9 s10 s11 s12 s13 : Option Sl} {ds : List D} : evS G (.frz 14) (s0 :: s1 :: s2 :: s3 :: s4 :: s5 :: s6 :: s7 :: s8 :: s9 :: s10 :: s11 :: s12 :: s13 :: some (.own ds) :: ρ) = .nx (s0 :: s1 :: s2 :: s3 :: s4 :: s5 :: s6 :: s7 :: s8 :: s9 :: s10 :: s11 :: s12 :: s13 :: some (.sh (.list ds)) :: ρ) := by rw [evS]; rfl
theorem evS_frs14 {s0 s1 s2 s3 s4 s5 s6 s7 s8 s9 s10 s11 s12 s13 : Option Sl} {d : D} : evS G (.frz 14) (s0 :: s1 :: s2 :: s3 :: s4 :: s5 :: s6 :: s7 :: s8 :: s9 :: s10 :: s11 :: s12 :: s13 :: some (.sh d) :: ρ) = .nx (s0 :: s1 :: s2 :: s3 :: s4 :: s5 :: s6 :: s7 :: s8 :: s9 :: s10 :: s11 :: s12 :: s13 :: some (.sh d) :: ρ) := by rw [evS]; rfl
theorem evE_ixo14 {s0 s1 s2 s3 s4 s5 s6 s7 s8 s9 s10 s11 s12 s13 : Option Sl} {ds : List D} {e : Ex} : evE G (.ixo 14 e) (s0 :: s1 :: s2 :: s3 :: s4 :: s5 :: s6 :: s7 :: s8 :: s9 :: s10 :: s11 :: s12 :: s13 :: some (.own ds) :: ρ) = (evE G e (s0 :: s1 :: s2 :: s3 :: s4 :: s5 :: s6 :: s7 :: s8 :: s9 :: s10 :: s11 :: s12 :: s13 :: some (.own ds) :: ρ)).bind fun y => ixD (.list ds) y := by rw [evE]; rfl
theorem evS_aug14 {s0 s1 s2 s3 s4 s5 s6 s7 s8 s9 s10 s11 s12 s13 : Option Sl} {x : D} {q : Op2} {e : Ex} : evS G (.aug 14 q e) (s0 :: s1 :: s2 :: s3 :: s4 :: s5 :: s6 :: s7 :: s8 :: s9 :: s10 :: s11 :: s12 :: s13 :: some (.sh x) :: ρ) = (evE G e (s0 :: s1 :: s2 :: s3 :: s4 :: s5 :: s6 :: s7 :: s8 :: s9 :: s10 :: s11 :: s12 :: s13 :: some (.sh x) :: ρ)).at (s0 :: s1 :: s2 :: s3 :: s4 :: s5 :: s6 :: s7 :: s8 :: s9 :: s10 :: s11 :: s12 :: s13 :: some (.sh x) :: ρ) fun y => (op2 q x y).at (s0 :: s1 :: s2 :: s3 :: s4 :: s5 :: s6 :: s7 :: s8 :: s9 :: s10 :: s11 :: s12 :: s13 :: some (.sh x) :: ρ) fun z => .nx (s0 :: s1 :: s2 :: s3 :: s4 :: s5 :: s6 :: s7 :: s8 :: s9 :: s10 :: s11 :: s12 :: s13 :: some (.sh z) :: ρ) := by rw [evS]; rfl
theorem evS_app15 {s0 s1 s2 s3 s4 s5 s6 s7 s8 s9 s10 s11 s12 s13 s14 : Option Sl} {ds : List D} {e : Ex} (h : ds.length < 16777216) : evS G (.app 15 e) (s0 :: s1 :: s2 :: s3 :: s4 :: s5 :: s6 :: s7 :: s8 :: s9 :: s10 :: s11 :: s12 :: s13 :: s14 :: some (.own ds) :: ρ) = (evE G e (s0 :: s1 :: s2 :: s3 :: s4 :: s5 :: s6 :: s7 :: s8 :: s9 :: s10 :: s11 :: s12 :: s13 :: s14 :: some (.own ds) :: ρ)).at (s0 :: s1 :: s2 :: s3 :: s4 :: s5 :: s6 :: s7 :: s8 :: s9 :: s10 :: s11 :: s12 :: s13 :: s14 :: some (.own ds) :: ρ) fun d => .nx (s0 :: s1 :: s2 :: s3 :: s4 :: s5 :: s6 :: s7 :: s8 :: s9 :: s10 :: s11 :: s12 :: s13 :: s14 :: some (.own (ds ++ [d])) :: ρ) := by rw [evS]; show ((evE G e _).at _ fun d => bif decide (ds.length < 16777216) then Fl.nx _ else .bad) = _; rw [decide_eq_true h]; rfl
theorem evS_frz15 {s0 s1 s2 s3 s4 s5 s6 s7 s8 s9 s10 s11 s12 s13 s14 : Option Sl} {ds : List D} : evS G (.frz 15) (s0 :: s1 :: s2 :: s3 :: s4 :: s5 :: s6 :: s7 :: s8 :: s9 :: s10 :: s11 :: s12 :: s13 :: s14 :: some (.own ds) :: ρ) = .nx (s0 :: s1 :: s2 :: s3 :: s4 :: s5 :: s6 :: s7 :: s8 :: s9 :: s10 :: s11 :: s12 :: s13 :: s14 :: some (.sh (.list ds)) :: ρ) := by rw [evS]; rfl
theorem evS_frs15 {s0 s1 s2 s3 s4 s5 s6 s7 s8 s9 s10 s11 s12 s13 s14 : Option Sl} {d : D} : evS G (.frz 15) (s0 :: s1 :: s2 :: s3 :: s4 :: s5 :: s6 :: s7 :: s8 :: s9 :: s10 :: s11 :: s12 :: s13 :: s14 :: some (.sh d) :: ρ) = .nx (s0 :: s1 :: s2 :: s3 :: s4 :: s5 :: s6 :: s7 :: s8 :: s9 :: s10 :: s11 :: s12 :: s13 :: s14 :: some (.sh d) :: ρ) := by rw [evS]; rfl
theorem evE_ixo15 {s0 s1 s2 s3 s4 s5 s6 s7 s8 s9 s10 s11 s12 s13 s14 : Option Sl} {ds : List D} {e : Ex} : evE G (.ixo 15 e) (s0 :: s1 :: s2 :: s3 :: s4 :: s5 :: s6 :: s7 :: s8 :: s9 :: s10 :: s11 :: s12 :: s13 :: s14 :: some (.own ds) :: ρ) = (evE G e (s0 :: s1 :: s2 :: s3 :: s4 :: s5 :: s6 :: s7 :: s8 :: s9 :: s10 :: s11 :: s12 :: s13 :: s14 :: some (.own ds) :: ρ)).bind fun y => ixD (.list ds) y := by rw [evE]; rfl
theorem evS_aug15 {s0 s1 s2 s3 s4 s5 s6 s7 s8 s9 s10 s11 s12 s13 s14 : Option Sl} {x : D} {q : Op2} {e : Ex} : evS G (.aug 15 q e) (s0 :: s1 :: s2 :: s3 :: s4 :: s5 :: s6 :: s7 :: s8 :: s9 :: s10 :: s11 :: s12 :: s13 :: s14 :: some (.sh x) :: ρ) = (evE G e (s0 :: s1 :: s2 :: s3 :: s4 :: s5 :: s6 :: s7 :: s8 :: s9 :: s10 :: s11 :: s12 :: s13 :: s14 :: some (.sh x) :: ρ)).at (s0 :: s1 :: s2 :: s3 :: s4 :: s5 :: s6 :: s7 :: s8 :: s9 :: s10 :: s11 :: s12 :: s13 :: s14 :: some (.sh x) :: ρ) fun y => (op2 q x y).at (s0 :: s1 :: s2 :: s3 :: s4 :: s5 :: s6 :: s7 :: s8 :: s9 :: s10 :: s11 :: s12 :: s13 :: s14 :: some (.sh x) :: ρ) fun z => .nx (s0 :: s1 :: s2 :: s3 :: s4 :: s5 :: s6 :: s7 :: s8 :: s9 :: s10 :: s11 :: s12 :: s13 :: s14 :: some (.sh z) :: ρ) := by rw [evS]; rfl
theorem evS_app16 {s0 s1 s2 s3 s4 s5 s6 s7 s8 s9 s10 s11 s12 s13 s14 s15 : Option Sl} {ds : List D} {e : Ex} (h : ds.length < 16777216) : evS G (.app 16 e) (s0 :: s1 :: s2 :: s3 :: s4 :: s5 :: s6 :: s7 :: s8 :: s9 :: s10 :: s11 :: s12 :: s13 :: s14 :: s15 :: some (.own ds) :: ρ) = (evE G e (s0 :: s1 :: s2 :: s3 :: s4 :: s5 :: s6 :: s7 :: s8 :: s9 :: s10 :: s11 :: s12 :: s13 :: s14 :: s15 :: some (.own ds) :: ρ)).at (s0 :: s1 :: s2 :: s3 :: s4 :: s5 :: s6 :: s7 :: s8 :: s9 :: s10 :: s11 :: s12 :: s13 :: s14 :: s15 :: some (.own ds) :: ρ) fun d => .nx (s0 :: s1 :: s2 :: s3 :: s4 :: s5 :: s6 :: s7 :: s8 :: s9 :: s10 :: s11 :: s12 :: s13 :: s14 :: s15 :: some (.own (ds ++ [d])) :: ρ) := by rw [evS]; show ((evE G e _).at _ fun d => bif decide (ds.length < 16777216) then Fl.nx _ else .bad) = _; rw [decide_eq_true h]; rfl
theorem evS_frz16 {s0 s1 s2 s3 s4 s5 s6 s7 s8 s9 s10 s11 s12 s13 s14 s15 : Option Sl} {ds : List D} : evS G (.frz 16) (s0 :: s1 :: s2 :: s3 :: s4 :: s5 :: s6 :: s7 :: s8 :: s9 :: s10 :: s11 :: s12 :: s13 :: s14 :: s15 :: some (.own ds) :: ρ) = .nx (s0 :: s1 :: s2 :: s3 :: s4 :: s5 :: s6 :: s7 :: s8 :: s9 :: s10 :: s11 :: s12 :: s13 :: s14 :: s15 :: some (.sh (.list ds)) :: ρ) := by rw [evS]; rfl
theorem evS_frs16 {s0 s1 s2 s3 s4 s5 s6 s7 s8 s9 s10 s11 s12 s13 s14 s15 : Option Sl} {d : D} : evS G (.frz 16) (s0 :: s1 :: s2 :: s3 :: s4 :: s5 :: s6 :: s7 :: s8 :: s9 :: s10 :: s11 :: s12 :: s13 :: s14 :: s15 :: some (.sh d) :: ρ) = .nx (s0 :: s1 :: s2 :: s3 :: s4 :: s5 :: s6 :: s7 :: s8 :: s9 :: s10 :: s11 :: s12 :: s13 :: s14 :: s15 :: some (.sh d) :: ρ) := by rw [evS]; rfl
theorem evE_ixo16 {s0 s1 s2 s3 s4 s5 s6 s7 s8 s9 s10 s11 s12 s13 s14 s15 : Option Sl} {ds : List D} {e : Ex} : evE G (.ixo 16 e) (s0 :: s1 :: s2 :: s3 :: s4 :: s5 :: s6 :: s7 :: s8 :: s9 :: s10 :: s11 :: s12 :: s13 :: s14 :: s15 :: some (.own ds) :: ρ) = (evE G e (s0 :: s1 :: s2 :: s3 :: s4 :: s5 :: s6 :: s7 :: s8 :: s9 :: s10 :: s11 :: s12 :: s13 :: s14 :: s15 :: some (.own ds) :: ρ)).bind fun y => ixD (.list ds) y := by rw [evE]; rfl
theorem evS_aug16 {s0 s1 s2 s3 s4 s5 s6 s7 s8 s9 s10 s11 s12 s13 s14 s15 : Option Sl} {x : D} {q : Op2} {e : Ex} : evS G (.aug 16 q e) (s0 :: s1 :: s2 :: s3 :: s4 :: s5 :: s6 :: s7 :: s8 :: s9 :: s10 :: s11 :: s12 :: s13 :: s14 :: s15 :: some (.sh x) :: ρ) = (evE G e (s0 :: s1 :: s2 :: s3 :: s4 :: s5 :: s6 :: s7 :: s8 :: s9 :: s10 :: s11 :: s12 :: s13 :: s14 :: s15 :: some (.sh x) :: ρ)).at (s0 :: s1 :: s2 :: s3 :: s4 :: s5 :: s6 :: s7 :: s8 :: s9 :: s10 :: s11 :: s12 :: s13 :: s14 :: s15 :: some (.sh x) :: ρ) fun y => (op2 q x y).at (s0 :: s1 :: s2 :: s3 :: s4 :: s5 :: s6 :: s7 :: s8 :: s9 :: s10 :: s11 :: s12 :: s13 :: s14 :: s15 :: some (.sh x) :: ρ) fun z => .nx (s0 :: s1 :: s2 :: s3 :: s4 :: s5 :: s6 :: s7 :: s8 :: s9 :: s10 :: s11 :: s12 :: s13 :: s14 :: s15 :: some (.sh z) :: ρ) := by rw [evS]; rfl
theorem evS_setL {i : Nat} {es : List Ex} : evS G (.setL i es) ρ = (evEs G es ρ).at ρ fun ds => .nx (ρ.set i (some (.own ds))) := by rw [evS]
theorem evS_pass : evS G .pass ρ = .nx ρ := by rw [evS]
def ifE (x a b : R D) : R D := x.bind fun x => match x with | .bool true => a | .bool false => b | _ => .bad
theorem evE_ife {c a b : Ex} : evE G (.ife c a b) ρ = ifE (evE G c ρ) (evE G a ρ) (evE G b ρ) := by rw [evE]; rfl
theorem ifE_t {a b : R D} : ifE (.ok (.bool true)) a b = a := id rfl
theorem ifE_f {a b : R D} : ifE (.ok (.bool false)) a b = b := id rfl
def rngD (d : D) : R (List D) := match d with
    | .int j => bif decide (-(2 ^ 62) ≤ j) && decide (j < 2 ^ 62) then .ok ((List.range j.toNat).map fun (k : Nat) => .int ((0 : Int) + (k : Int))) else .bad
    | _ => .bad
def rng2D (d e : D) : R (List D) := match d, e with
    | .int i, .int j => bif (decide (-(2 ^ 62) ≤ i) && decide (i < 2 ^ 62)) && (decide (-(2 ^ 62) ≤ j) && decide (j < 2 ^ 62)) then .ok ((List.range (j - i).toNat).map fun (k : Nat) => .int (i + (k : Int))) else .bad
    | _, _ => .bad
theorem it_rng1 {e : Ex} : itD G (.rng1 e) ρ = (evE G e ρ).bind rngD := id rfl
theorem it_rng2 {a b : Ex} : itD G (.rng2 a b) ρ = (evE G a ρ).bind fun d => (evE G b ρ).bind fun e => rng2D d e := id rfl
theorem rngD_ok {j : Int} (h1 : 0 ≤ j) (h2 : j < 4611686018427387904) : rngD (.int j) = .ok ((List.range j.toNat).map fun (k : Nat) => .int (k : Int)) := by
  unfold rngD
  have e : (2 : Int) ^ 62 = 4611686018427387904 := by decide +kernel
  dsimp only
  rw [e, decide_eq_true (show -4611686018427387904 ≤ j by omega), decide_eq_true h2]
  simp only [Int.zero_add]
  rfl
theorem rng2D_ok {i j : Int} (h1 : -4611686018427387904 ≤ i) (h2 : j < 4611686018427387904) (h3 : i < 4611686018427387904) (h4 : -4611686018427387904 ≤ j) : rng2D (.int i) (.int j) = .ok ((List.range (j - i).toNat).map fun (k : Nat) => .int (i + (k : Int))) := by
  unfold rng2D
  have e : (2 : Int) ^ 62 = 4611686018427387904 := by decide +kernel
  dsimp only
  rw [e, decide_eq_true h1, decide_eq_true h2, decide_eq_true h3, decide_eq_true h4]
  rfl
theorem c_isnN : cm2 .isnot .none .none = .ok (.bool false) := id rfl
theorem c_isnI {i : Int} : cm2 .isnot (.int i) .none = .ok (.bool true) := id rfl
theorem c_isN : cm2 .is .none .none = .ok (.bool true) := id rfl
theorem c_isI {i : Int} : cm2 .is (.int i) .none = .ok (.bool false) := id rfl
theorem c_isnL {xs : List D} : cm2 .isnot (.list xs) .none = .ok (.bool true) := id rfl
theorem c_isnT {xs : List D} : cm2 .isnot (.tuple xs) .none = .ok (.bool true) := id rfl
theorem c_isL {xs : List D} : cm2 .is (.list xs) .none = .ok (.bool false) := id rfl
theorem c_isT {xs : List D} : cm2 .is (.tuple xs) .none = .ok (.bool false) := id rfl
theorem o_band {i j : Int} : op2 .band (.int i) (.int j) = .ok (.int (Builtin.bitAnd i j)) := id rfl
theorem o_shr {i j : Int} (h : 0 ≤ j) : op2 .shr (.int i) (.int j) = .ok (.int (i / 2 ^ j.toNat)) := by
  show (bif decide (0 ≤ j) then R.ok (PyData.int (i / 2 ^ j.toNat)) else .bad) = _
  rw [decide_eq_true h]
  rfl
theorem len_t0 : biD .len [.tuple []] = .ok (.int 0) := id rfl
theorem tup_t {xs : List D} : biD .tuple [.tuple xs] = .ok (.tuple xs) := id rfl
theorem call_8 {f0 f1 f2 f3 f4 f5 f6 f7 f8 : List D → R D} {fs : List (List D → R D)} {co ds : List D} : Ge.call ⟨f0 :: f1 :: f2 :: f3 :: f4 :: f5 :: f6 :: f7 :: f8 :: fs, co⟩ 8 ds = f8 ds := id rfl
theorem call_9 {f0 f1 f2 f3 f4 f5 f6 f7 f8 f9 : List D → R D} {fs : List (List D → R D)} {co ds : List D} : Ge.call ⟨f0 :: f1 :: f2 :: f3 :: f4 :: f5 :: f6 :: f7 :: f8 :: f9 :: fs, co⟩ 9 ds = f9 ds := id rfl
theorem call_10 {f0 f1 f2 f3 f4 f5 f6 f7 f8 f9 f10 : List D → R D} {fs : List (List D → R D)} {co ds : List D} : Ge.call ⟨f0 :: f1 :: f2 :: f3 :: f4 :: f5 :: f6 :: f7 :: f8 :: f9 :: f10 :: fs, co⟩ 10 ds = f10 ds := id rfl
theorem call_11 {f0 f1 f2 f3 f4 f5 f6 f7 f8 f9 f10 f11 : List D → R D} {fs : List (List D → R D)} {co ds : List D} : Ge.call ⟨f0 :: f1 :: f2 :: f3 :: f4 :: f5 :: f6 :: f7 :: f8 :: f9 :: f10 :: f11 :: fs, co⟩ 11 ds = f11 ds := id rfl
theorem call_12 {f0 f1 f2 f3 f4 f5 f6 f7 f8 f9 f10 f11 f12 : List D → R D} {fs : List (List D → R D)} {co ds : List D} : Ge.call ⟨f0 :: f1 :: f2 :: f3 :: f4 :: f5 :: f6 :: f7 :: f8 :: f9 :: f10 :: f11 :: f12 :: fs, co⟩ 12 ds = f12 ds := id rfl
end
end FT

namespace FT
open PySem PySem.Spec PyProof.Rows L2
theorem v_is_whole (i : Int) : sem_is_whole [.int i] = .ok (.bool true) := rfl
theorem v_is_form (a b c : Int) {n m l : Nat} [Bd n a] [Bd m b] [Bd l c] (hn : n + m + l ≤ 10000000) : sem_is_form [(PyData.tuple [PyData.int a, PyData.int b, PyData.int c])] = .ok (.bool (decide (0 < a) && decide (b * b < 4 * a * c))) := by
  show (evSs G_is_form b_is_form [some (.sh _), none]).ans = _
  unfold b_is_form w1_is_form G_is_form
  simp (disch := first | exact mulOk_bd | assumption | omega) only [evE_v0, evE_v1, evE_v2, evE_v3, evE_v4, evE_v5, evE_v6, evE_v7, evE_v8, evE_v9, evE_v10, evE_int, evE_bl, evE_non, evE_str, evE_bin, evE_neg, evE_not, evE_cmp, evE_tup, evE_lst, evE_ix, evE_call, evE_bi, evE_sl, evE_isi, andB_t, andB_f, orB_t, orB_f, andB_b, orB_b, evE_and, evE_or, evAnd_one, evOr_one, evAnd_two, evOr_two, evEs_nil, evEs_cons, evSs_nil, evSs_cons, evS_ex, evS_ret, ifB_t, ifB_f, evS_ife, evS_raise, evS_for, seq_t, seq_l, it_seq, ans_nx, ans_rt, ans_xc, forL_nil, forL_cons, ix_t0, ix_t1, ix_t2, ix_t3, o_add, o_sub, o_mul, o_fdiv, o_mod, o_neg, o_not, c_lt, c_le, c_gt, c_ge, c_eq, c_ne, c_eq2, c_ne2, c_eq3, c_ne3, c_is, c_isnot, isi_tt, isi_lt, isi_it, isi_ii, isi_ib, isi_ll, len_t1, len_t2, len_t3, len_t4, len_l, abs_i, tup_l, part_0, part_1, sl_l, call_0, call_1, call_2, call_3, call_4, call_5, call_6, call_7, glob_0, glob_1, glob_2, evE_v11, evE_v12, evE_v13, evE_v14, evE_v15, evE_v16, evE_v17, evE_v18, evE_v19, evE_v20, evS_set0, evS_setL0, evS_set1, evS_setL1, evS_set2, evS_setL2, evS_set3, evS_setL3, evS_set4, evS_setL4, evS_set5, evS_setL5, evS_set6, evS_setL6, evS_set7, evS_setL7, evS_set8, evS_setL8, evS_set9, evS_setL9, evS_set10, evS_setL10, evS_set11, evS_setL11, evS_set12, evS_setL12, evS_set13, evS_setL13, evS_set14, evS_setL14, evS_set15, evS_setL15, evS_set16, evS_setL16, evS_set17, evS_setL17, evS_set18, evS_setL18, evS_set19, evS_setL19, evS_set20, evS_setL20, evS_app0, evS_frz0, evS_frs0, evE_ixo0, evS_aug0, evS_app1, evS_frz1, evS_frs1, evE_ixo1, evS_aug1, evS_app2, evS_frz2, evS_frs2, evE_ixo2, evS_aug2, evS_app3, evS_frz3, evS_frs3, evE_ixo3, evS_aug3, evS_app4, evS_frz4, evS_frs4, evE_ixo4, evS_aug4, evS_app5, evS_frz5, evS_frs5, evE_ixo5, evS_aug5, evS_app6, evS_frz6, evS_frs6, evE_ixo6, evS_aug6, evS_app7, evS_frz7, evS_frs7, evE_ixo7, evS_aug7, evS_app8, evS_frz8, evS_frs8, evE_ixo8, evS_aug8, evS_app9, evS_frz9, evS_frs9, evE_ixo9, evS_aug9, evS_app10, evS_frz10, evS_frs10, evE_ixo10, evS_aug10, evS_app11, evS_frz11, evS_frs11, evE_ixo11, evS_aug11, evS_app12, evS_frz12, evS_frs12, evE_ixo12, evS_aug12, evS_app13, evS_frz13, evS_frs13, evE_ixo13, evS_aug13, evS_app14, evS_frz14, evS_frs14, evE_ixo14, evS_aug14, evS_app15, evS_frz15, evS_frs15, evE_ixo15, evS_aug15, evS_app16, evS_frz16, evS_frs16, evE_ixo16, evS_aug16, evS_pass, evE_ife, ifE_t, ifE_f, it_rng1, it_rng2, c_isnN, c_isnI, c_isN, c_isI, c_isnL, c_isnT, c_isL, c_isT, o_band, o_shr, len_t0, tup_t, call_8, call_9, call_10, call_11, call_12, rb_ok, rb_bad, rb_exc, ra_ok, ra_bad, ra_exc, ft_nx, ft_rt, ft_bad, ft_xc, List.set_cons_zero, List.set_cons_succ, List.nil_append, List.cons_append, Bool.not_true, Bool.not_false, decide_true, decide_false, eq_self, Int.reduceEq, Bool.false_or, Bool.or_false, Bool.true_or, Bool.or_true, Bool.true_and, Bool.and_true, Bool.false_and, Bool.and_false, Bool.or_self, Bool.and_self, v_is_whole]
theorem v_asked_form (a b c : Int) {n m l : Nat} [Bd n a] [Bd m b] [Bd l c] (hn : n + m + l ≤ 10000000) (h1 : 0 < a) (h2 : b * b < 4 * a * c) : sem_asked_form [(PyData.tuple [PyData.int a, PyData.int b, PyData.int c])] = .ok (PyData.tuple [PyData.int a, PyData.int b, PyData.int c]) := by
  show (evSs G_asked_form b_asked_form [some (.sh _)]).ans = _
  unfold b_asked_form G_asked_form
  simp (disch := first | exact mulOk_bd | assumption | omega) only [evE_v0, evE_v1, evE_v2, evE_v3, evE_v4, evE_v5, evE_v6, evE_v7, evE_v8, evE_v9, evE_v10, evE_int, evE_bl, evE_non, evE_str, evE_bin, evE_neg, evE_not, evE_cmp, evE_tup, evE_lst, evE_ix, evE_call, evE_bi, evE_sl, evE_isi, andB_t, andB_f, orB_t, orB_f, andB_b, orB_b, evE_and, evE_or, evAnd_one, evOr_one, evAnd_two, evOr_two, evEs_nil, evEs_cons, evSs_nil, evSs_cons, evS_ex, evS_ret, ifB_t, ifB_f, evS_ife, evS_raise, evS_for, seq_t, seq_l, it_seq, ans_nx, ans_rt, ans_xc, forL_nil, forL_cons, ix_t0, ix_t1, ix_t2, ix_t3, o_add, o_sub, o_mul, o_fdiv, o_mod, o_neg, o_not, c_lt, c_le, c_gt, c_ge, c_eq, c_ne, c_eq2, c_ne2, c_eq3, c_ne3, c_is, c_isnot, isi_tt, isi_lt, isi_it, isi_ii, isi_ib, isi_ll, len_t1, len_t2, len_t3, len_t4, len_l, abs_i, tup_l, part_0, part_1, sl_l, call_0, call_1, call_2, call_3, call_4, call_5, call_6, call_7, glob_0, glob_1, glob_2, evE_v11, evE_v12, evE_v13, evE_v14, evE_v15, evE_v16, evE_v17, evE_v18, evE_v19, evE_v20, evS_set0, evS_setL0, evS_set1, evS_setL1, evS_set2, evS_setL2, evS_set3, evS_setL3, evS_set4, evS_setL4, evS_set5, evS_setL5, evS_set6, evS_setL6, evS_set7, evS_setL7, evS_set8, evS_setL8, evS_set9, evS_setL9, evS_set10, evS_setL10, evS_set11, evS_setL11, evS_set12, evS_setL12, evS_set13, evS_setL13, evS_set14, evS_setL14, evS_set15, evS_setL15, evS_set16, evS_setL16, evS_set17, evS_setL17, evS_set18, evS_setL18, evS_set19, evS_setL19, evS_set20, evS_setL20, evS_app0, evS_frz0, evS_frs0, evE_ixo0, evS_aug0, evS_app1, evS_frz1, evS_frs1, evE_ixo1, evS_aug1, evS_app2, evS_frz2, evS_frs2, evE_ixo2, evS_aug2, evS_app3, evS_frz3, evS_frs3, evE_ixo3, evS_aug3, evS_app4, evS_frz4, evS_frs4, evE_ixo4, evS_aug4, evS_app5, evS_frz5, evS_frs5, evE_ixo5, evS_aug5, evS_app6, evS_frz6, evS_frs6, evE_ixo6, evS_aug6, evS_app7, evS_frz7, evS_frs7, evE_ixo7, evS_aug7, evS_app8, evS_frz8, evS_frs8, evE_ixo8, evS_aug8, evS_app9, evS_frz9, evS_frs9, evE_ixo9, evS_aug9, evS_app10, evS_frz10, evS_frs10, evE_ixo10, evS_aug10, evS_app11, evS_frz11, evS_frs11, evE_ixo11, evS_aug11, evS_app12, evS_frz12, evS_frs12, evE_ixo12, evS_aug12, evS_app13, evS_frz13, evS_frs13, evE_ixo13, evS_aug13, evS_app14, evS_frz14, evS_frs14, evE_ixo14, evS_aug14, evS_app15, evS_frz15, evS_frs15, evE_ixo15, evS_aug15, evS_app16, evS_frz16, evS_frs16, evE_ixo16, evS_aug16, evS_pass, evE_ife, ifE_t, ifE_f, it_rng1, it_rng2, c_isnN, c_isnI, c_isN, c_isI, c_isnL, c_isnT, c_isL, c_isT, o_band, o_shr, len_t0, tup_t, call_8, call_9, call_10, call_11, call_12, rb_ok, rb_bad, rb_exc, ra_ok, ra_bad, ra_exc, ft_nx, ft_rt, ft_bad, ft_xc, List.set_cons_zero, List.set_cons_succ, List.nil_append, List.cons_append, Bool.not_true, Bool.not_false, decide_true, decide_false, eq_self, Int.reduceEq, Bool.false_or, Bool.or_false, Bool.true_or, Bool.or_true, Bool.true_and, Bool.and_true, Bool.false_and, Bool.and_false, Bool.or_self, Bool.and_self, v_is_form a b c hn, decide_eq_true h1, decide_eq_true h2]
theorem v_asked_turning (p q r s : Int) {n m l k : Nat} [Bd n p] [Bd m q] [Bd l r] [Bd k s] (hn : n + m + l + k ≤ 10000000) (h : p * s - q * r = 1) : sem_asked_turning [(PyData.tuple [PyData.int p, PyData.int q, PyData.int r, PyData.int s])] = .ok (PyData.tuple [PyData.int p, PyData.int q, PyData.int r, PyData.int s]) := by
  show (evSs G_asked_turning b_asked_turning [some (.sh _), none]).ans = _
  unfold b_asked_turning w1_asked_turning G_asked_turning
  simp (disch := first | exact mulOk_bd | assumption | omega) only [evE_v0, evE_v1, evE_v2, evE_v3, evE_v4, evE_v5, evE_v6, evE_v7, evE_v8, evE_v9, evE_v10, evE_int, evE_bl, evE_non, evE_str, evE_bin, evE_neg, evE_not, evE_cmp, evE_tup, evE_lst, evE_ix, evE_call, evE_bi, evE_sl, evE_isi, andB_t, andB_f, orB_t, orB_f, andB_b, orB_b, evE_and, evE_or, evAnd_one, evOr_one, evAnd_two, evOr_two, evEs_nil, evEs_cons, evSs_nil, evSs_cons, evS_ex, evS_ret, ifB_t, ifB_f, evS_ife, evS_raise, evS_for, seq_t, seq_l, it_seq, ans_nx, ans_rt, ans_xc, forL_nil, forL_cons, ix_t0, ix_t1, ix_t2, ix_t3, o_add, o_sub, o_mul, o_fdiv, o_mod, o_neg, o_not, c_lt, c_le, c_gt, c_ge, c_eq, c_ne, c_eq2, c_ne2, c_eq3, c_ne3, c_is, c_isnot, isi_tt, isi_lt, isi_it, isi_ii, isi_ib, isi_ll, len_t1, len_t2, len_t3, len_t4, len_l, abs_i, tup_l, part_0, part_1, sl_l, call_0, call_1, call_2, call_3, call_4, call_5, call_6, call_7, glob_0, glob_1, glob_2, evE_v11, evE_v12, evE_v13, evE_v14, evE_v15, evE_v16, evE_v17, evE_v18, evE_v19, evE_v20, evS_set0, evS_setL0, evS_set1, evS_setL1, evS_set2, evS_setL2, evS_set3, evS_setL3, evS_set4, evS_setL4, evS_set5, evS_setL5, evS_set6, evS_setL6, evS_set7, evS_setL7, evS_set8, evS_setL8, evS_set9, evS_setL9, evS_set10, evS_setL10, evS_set11, evS_setL11, evS_set12, evS_setL12, evS_set13, evS_setL13, evS_set14, evS_setL14, evS_set15, evS_setL15, evS_set16, evS_setL16, evS_set17, evS_setL17, evS_set18, evS_setL18, evS_set19, evS_setL19, evS_set20, evS_setL20, evS_app0, evS_frz0, evS_frs0, evE_ixo0, evS_aug0, evS_app1, evS_frz1, evS_frs1, evE_ixo1, evS_aug1, evS_app2, evS_frz2, evS_frs2, evE_ixo2, evS_aug2, evS_app3, evS_frz3, evS_frs3, evE_ixo3, evS_aug3, evS_app4, evS_frz4, evS_frs4, evE_ixo4, evS_aug4, evS_app5, evS_frz5, evS_frs5, evE_ixo5, evS_aug5, evS_app6, evS_frz6, evS_frs6, evE_ixo6, evS_aug6, evS_app7, evS_frz7, evS_frs7, evE_ixo7, evS_aug7, evS_app8, evS_frz8, evS_frs8, evE_ixo8, evS_aug8, evS_app9, evS_frz9, evS_frs9, evE_ixo9, evS_aug9, evS_app10, evS_frz10, evS_frs10, evE_ixo10, evS_aug10, evS_app11, evS_frz11, evS_frs11, evE_ixo11, evS_aug11, evS_app12, evS_frz12, evS_frs12, evE_ixo12, evS_aug12, evS_app13, evS_frz13, evS_frs13, evE_ixo13, evS_aug13, evS_app14, evS_frz14, evS_frs14, evE_ixo14, evS_aug14, evS_app15, evS_frz15, evS_frs15, evE_ixo15, evS_aug15, evS_app16, evS_frz16, evS_frs16, evE_ixo16, evS_aug16, evS_pass, evE_ife, ifE_t, ifE_f, it_rng1, it_rng2, c_isnN, c_isnI, c_isN, c_isI, c_isnL, c_isnT, c_isL, c_isT, o_band, o_shr, len_t0, tup_t, call_8, call_9, call_10, call_11, call_12, rb_ok, rb_bad, rb_exc, ra_ok, ra_bad, ra_exc, ft_nx, ft_rt, ft_bad, ft_xc, List.set_cons_zero, List.set_cons_succ, List.nil_append, List.cons_append, Bool.not_true, Bool.not_false, decide_true, decide_false, eq_self, Int.reduceEq, Bool.false_or, Bool.or_false, Bool.true_or, Bool.or_true, Bool.true_and, Bool.and_true, Bool.false_and, Bool.and_false, Bool.or_self, Bool.and_self, v_is_whole, h]
theorem v_turned (a b c p q r s : Int) {n m l n1 n2 n3 n4 : Nat} [Bd n a] [Bd m b] [Bd l c] [Bd n1 p] [Bd n2 q] [Bd n3 r] [Bd n4 s] (hn : n + m + l + n1 + n2 + n3 + n4 ≤ 10000000) (h1 : 0 < a) (h2 : b * b < 4 * a * c) (h : p * s - q * r = 1) :
    sem_turned [(PyData.tuple [PyData.int a, PyData.int b, PyData.int c]), (PyData.tuple [PyData.int p, PyData.int q, PyData.int r, PyData.int s])] = .ok (PyData.tuple [PyData.int (a * p * p + b * p * r + c * r * r), PyData.int (2 * a * p * q + b * (p * s + q * r) + 2 * c * r * s), PyData.int (a * q * q + b * q * s + c * s * s)]) := by
  show (evSs G_turned b_turned [some (.sh _), some (.sh _), none, none, none, none, none, none, none]).ans = _
  unfold b_turned G_turned
  simp (disch := first | exact mulOk_bd | assumption | omega) only [evE_v0, evE_v1, evE_v2, evE_v3, evE_v4, evE_v5, evE_v6, evE_v7, evE_v8, evE_v9, evE_v10, evE_int, evE_bl, evE_non, evE_str, evE_bin, evE_neg, evE_not, evE_cmp, evE_tup, evE_lst, evE_ix, evE_call, evE_bi, evE_sl, evE_isi, andB_t, andB_f, orB_t, orB_f, andB_b, orB_b, evE_and, evE_or, evAnd_one, evOr_one, evAnd_two, evOr_two, evEs_nil, evEs_cons, evSs_nil, evSs_cons, evS_ex, evS_ret, ifB_t, ifB_f, evS_ife, evS_raise, evS_for, seq_t, seq_l, it_seq, ans_nx, ans_rt, ans_xc, forL_nil, forL_cons, ix_t0, ix_t1, ix_t2, ix_t3, o_add, o_sub, o_mul, o_fdiv, o_mod, o_neg, o_not, c_lt, c_le, c_gt, c_ge, c_eq, c_ne, c_eq2, c_ne2, c_eq3, c_ne3, c_is, c_isnot, isi_tt, isi_lt, isi_it, isi_ii, isi_ib, isi_ll, len_t1, len_t2, len_t3, len_t4, len_l, abs_i, tup_l, part_0, part_1, sl_l, call_0, call_1, call_2, call_3, call_4, call_5, call_6, call_7, glob_0, glob_1, glob_2, evE_v11, evE_v12, evE_v13, evE_v14, evE_v15, evE_v16, evE_v17, evE_v18, evE_v19, evE_v20, evS_set0, evS_setL0, evS_set1, evS_setL1, evS_set2, evS_setL2, evS_set3, evS_setL3, evS_set4, evS_setL4, evS_set5, evS_setL5, evS_set6, evS_setL6, evS_set7, evS_setL7, evS_set8, evS_setL8, evS_set9, evS_setL9, evS_set10, evS_setL10, evS_set11, evS_setL11, evS_set12, evS_setL12, evS_set13, evS_setL13, evS_set14, evS_setL14, evS_set15, evS_setL15, evS_set16, evS_setL16, evS_set17, evS_setL17, evS_set18, evS_setL18, evS_set19, evS_setL19, evS_set20, evS_setL20, evS_app0, evS_frz0, evS_frs0, evE_ixo0, evS_aug0, evS_app1, evS_frz1, evS_frs1, evE_ixo1, evS_aug1, evS_app2, evS_frz2, evS_frs2, evE_ixo2, evS_aug2, evS_app3, evS_frz3, evS_frs3, evE_ixo3, evS_aug3, evS_app4, evS_frz4, evS_frs4, evE_ixo4, evS_aug4, evS_app5, evS_frz5, evS_frs5, evE_ixo5, evS_aug5, evS_app6, evS_frz6, evS_frs6, evE_ixo6, evS_aug6, evS_app7, evS_frz7, evS_frs7, evE_ixo7, evS_aug7, evS_app8, evS_frz8, evS_frs8, evE_ixo8, evS_aug8, evS_app9, evS_frz9, evS_frs9, evE_ixo9, evS_aug9, evS_app10, evS_frz10, evS_frs10, evE_ixo10, evS_aug10, evS_app11, evS_frz11, evS_frs11, evE_ixo11, evS_aug11, evS_app12, evS_frz12, evS_frs12, evE_ixo12, evS_aug12, evS_app13, evS_frz13, evS_frs13, evE_ixo13, evS_aug13, evS_app14, evS_frz14, evS_frs14, evE_ixo14, evS_aug14, evS_app15, evS_frz15, evS_frs15, evE_ixo15, evS_aug15, evS_app16, evS_frz16, evS_frs16, evE_ixo16, evS_aug16, evS_pass, evE_ife, ifE_t, ifE_f, it_rng1, it_rng2, c_isnN, c_isnI, c_isN, c_isI, c_isnL, c_isnT, c_isL, c_isT, o_band, o_shr, len_t0, tup_t, call_8, call_9, call_10, call_11, call_12, rb_ok, rb_bad, rb_exc, ra_ok, ra_bad, ra_exc, ft_nx, ft_rt, ft_bad, ft_xc, List.set_cons_zero, List.set_cons_succ, List.nil_append, List.cons_append, Bool.not_true, Bool.not_false, decide_true, decide_false, eq_self, Int.reduceEq, Bool.false_or, Bool.or_false, Bool.true_or, Bool.or_true, Bool.true_and, Bool.and_true, Bool.false_and, Bool.and_false, Bool.or_self, Bool.and_self, v_asked_form a b c (by omega) h1 h2, v_asked_turning p q r s (by omega) h]
theorem v_behind (a b c d p q r s : Int) {m0 m1 m2 m3 n1 n2 n3 n4 : Nat} [Bd m0 a] [Bd m1 b] [Bd m2 c] [Bd m3 d] [Bd n1 p] [Bd n2 q] [Bd n3 r] [Bd n4 s] (hn : m0 + m1 + m2 + m3 + n1 + n2 + n3 + n4 ≤ 10000000) (h0 : a * d - b * c = 1) (h : p * s - q * r = 1) :
    sem_behind [(PyData.tuple [PyData.int a, PyData.int b, PyData.int c, PyData.int d]), (PyData.tuple [PyData.int p, PyData.int q, PyData.int r, PyData.int s])] = .ok (PyData.tuple [PyData.int (a * p + b * r), PyData.int (a * q + b * s), PyData.int (c * p + d * r), PyData.int (c * q + d * s)]) := by
  show (evSs G_behind b_behind [some (.sh _), some (.sh _), none, none, none, none]).ans = _
  unfold b_behind G_behind
  simp (disch := first | exact mulOk_bd | assumption | omega) only [evE_v0, evE_v1, evE_v2, evE_v3, evE_v4, evE_v5, evE_v6, evE_v7, evE_v8, evE_v9, evE_v10, evE_int, evE_bl, evE_non, evE_str, evE_bin, evE_neg, evE_not, evE_cmp, evE_tup, evE_lst, evE_ix, evE_call, evE_bi, evE_sl, evE_isi, andB_t, andB_f, orB_t, orB_f, andB_b, orB_b, evE_and, evE_or, evAnd_one, evOr_one, evAnd_two, evOr_two, evEs_nil, evEs_cons, evSs_nil, evSs_cons, evS_ex, evS_ret, ifB_t, ifB_f, evS_ife, evS_raise, evS_for, seq_t, seq_l, it_seq, ans_nx, ans_rt, ans_xc, forL_nil, forL_cons, ix_t0, ix_t1, ix_t2, ix_t3, o_add, o_sub, o_mul, o_fdiv, o_mod, o_neg, o_not, c_lt, c_le, c_gt, c_ge, c_eq, c_ne, c_eq2, c_ne2, c_eq3, c_ne3, c_is, c_isnot, isi_tt, isi_lt, isi_it, isi_ii, isi_ib, isi_ll, len_t1, len_t2, len_t3, len_t4, len_l, abs_i, tup_l, part_0, part_1, sl_l, call_0, call_1, call_2, call_3, call_4, call_5, call_6, call_7, glob_0, glob_1, glob_2, evE_v11, evE_v12, evE_v13, evE_v14, evE_v15, evE_v16, evE_v17, evE_v18, evE_v19, evE_v20, evS_set0, evS_setL0, evS_set1, evS_setL1, evS_set2, evS_setL2, evS_set3, evS_setL3, evS_set4, evS_setL4, evS_set5, evS_setL5, evS_set6, evS_setL6, evS_set7, evS_setL7, evS_set8, evS_setL8, evS_set9, evS_setL9, evS_set10, evS_setL10, evS_set11, evS_setL11, evS_set12, evS_setL12, evS_set13, evS_setL13, evS_set14, evS_setL14, evS_set15, evS_setL15, evS_set16, evS_setL16, evS_set17, evS_setL17, evS_set18, evS_setL18, evS_set19, evS_setL19, evS_set20, evS_setL20, evS_app0, evS_frz0, evS_frs0, evE_ixo0, evS_aug0, evS_app1, evS_frz1, evS_frs1, evE_ixo1, evS_aug1, evS_app2, evS_frz2, evS_frs2, evE_ixo2, evS_aug2, evS_app3, evS_frz3, evS_frs3, evE_ixo3, evS_aug3, evS_app4, evS_frz4, evS_frs4, evE_ixo4, evS_aug4, evS_app5, evS_frz5, evS_frs5, evE_ixo5, evS_aug5, evS_app6, evS_frz6, evS_frs6, evE_ixo6, evS_aug6, evS_app7, evS_frz7, evS_frs7, evE_ixo7, evS_aug7, evS_app8, evS_frz8, evS_frs8, evE_ixo8, evS_aug8, evS_app9, evS_frz9, evS_frs9, evE_ixo9, evS_aug9, evS_app10, evS_frz10, evS_frs10, evE_ixo10, evS_aug10, evS_app11, evS_frz11, evS_frs11, evE_ixo11, evS_aug11, evS_app12, evS_frz12, evS_frs12, evE_ixo12, evS_aug12, evS_app13, evS_frz13, evS_frs13, evE_ixo13, evS_aug13, evS_app14, evS_frz14, evS_frs14, evE_ixo14, evS_aug14, evS_app15, evS_frz15, evS_frs15, evE_ixo15, evS_aug15, evS_app16, evS_frz16, evS_frs16, evE_ixo16, evS_aug16, evS_pass, evE_ife, ifE_t, ifE_f, it_rng1, it_rng2, c_isnN, c_isnI, c_isN, c_isI, c_isnL, c_isnT, c_isL, c_isT, o_band, o_shr, len_t0, tup_t, call_8, call_9, call_10, call_11, call_12, rb_ok, rb_bad, rb_exc, ra_ok, ra_bad, ra_exc, ft_nx, ft_rt, ft_bad, ft_xc, List.set_cons_zero, List.set_cons_succ, List.nil_append, List.cons_append, Bool.not_true, Bool.not_false, decide_true, decide_false, eq_self, Int.reduceEq, Bool.false_or, Bool.or_false, Bool.true_or, Bool.or_true, Bool.true_and, Bool.and_true, Bool.false_and, Bool.and_false, Bool.or_self, Bool.and_self, v_asked_turning a b c d (by omega) h0, v_asked_turning p q r s (by omega) h]
theorem v_way_back (p q r s : Int) {n1 n2 n3 n4 : Nat} [Bd n1 p] [Bd n2 q] [Bd n3 r] [Bd n4 s] (hn : n1 + n2 + n3 + n4 ≤ 10000000) (h : p * s - q * r = 1) : sem_way_back [(PyData.tuple [PyData.int p, PyData.int q, PyData.int r, PyData.int s])] = .ok (PyData.tuple [PyData.int s, PyData.int (-q), PyData.int (-r), PyData.int p]) := by
  show (evSs G_way_back b_way_back [some (.sh _)]).ans = _
  unfold b_way_back G_way_back
  simp (disch := first | exact mulOk_bd | assumption | omega) only [evE_v0, evE_v1, evE_v2, evE_v3, evE_v4, evE_v5, evE_v6, evE_v7, evE_v8, evE_v9, evE_v10, evE_int, evE_bl, evE_non, evE_str, evE_bin, evE_neg, evE_not, evE_cmp, evE_tup, evE_lst, evE_ix, evE_call, evE_bi, evE_sl, evE_isi, andB_t, andB_f, orB_t, orB_f, andB_b, orB_b, evE_and, evE_or, evAnd_one, evOr_one, evAnd_two, evOr_two, evEs_nil, evEs_cons, evSs_nil, evSs_cons, evS_ex, evS_ret, ifB_t, ifB_f, evS_ife, evS_raise, evS_for, seq_t, seq_l, it_seq, ans_nx, ans_rt, ans_xc, forL_nil, forL_cons, ix_t0, ix_t1, ix_t2, ix_t3, o_add, o_sub, o_mul, o_fdiv, o_mod, o_neg, o_not, c_lt, c_le, c_gt, c_ge, c_eq, c_ne, c_eq2, c_ne2, c_eq3, c_ne3, c_is, c_isnot, isi_tt, isi_lt, isi_it, isi_ii, isi_ib, isi_ll, len_t1, len_t2, len_t3, len_t4, len_l, abs_i, tup_l, part_0, part_1, sl_l, call_0, call_1, call_2, call_3, call_4, call_5, call_6, call_7, glob_0, glob_1, glob_2, evE_v11, evE_v12, evE_v13, evE_v14, evE_v15, evE_v16, evE_v17, evE_v18, evE_v19, evE_v20, evS_set0, evS_setL0, evS_set1, evS_setL1, evS_set2, evS_setL2, evS_set3, evS_setL3, evS_set4, evS_setL4, evS_set5, evS_setL5, evS_set6, evS_setL6, evS_set7, evS_setL7, evS_set8, evS_setL8, evS_set9, evS_setL9, evS_set10, evS_setL10, evS_set11, evS_setL11, evS_set12, evS_setL12, evS_set13, evS_setL13, evS_set14, evS_setL14, evS_set15, evS_setL15, evS_set16, evS_setL16, evS_set17, evS_setL17, evS_set18, evS_setL18, evS_set19, evS_setL19, evS_set20, evS_setL20, evS_app0, evS_frz0, evS_frs0, evE_ixo0, evS_aug0, evS_app1, evS_frz1, evS_frs1, evE_ixo1, evS_aug1, evS_app2, evS_frz2, evS_frs2, evE_ixo2, evS_aug2, evS_app3, evS_frz3, evS_frs3, evE_ixo3, evS_aug3, evS_app4, evS_frz4, evS_frs4, evE_ixo4, evS_aug4, evS_app5, evS_frz5, evS_frs5, evE_ixo5, evS_aug5, evS_app6, evS_frz6, evS_frs6, evE_ixo6, evS_aug6, evS_app7, evS_frz7, evS_frs7, evE_ixo7, evS_aug7, evS_app8, evS_frz8, evS_frs8, evE_ixo8, evS_aug8, evS_app9, evS_frz9, evS_frs9, evE_ixo9, evS_aug9, evS_app10, evS_frz10, evS_frs10, evE_ixo10, evS_aug10, evS_app11, evS_frz11, evS_frs11, evE_ixo11, evS_aug11, evS_app12, evS_frz12, evS_frs12, evE_ixo12, evS_aug12, evS_app13, evS_frz13, evS_frs13, evE_ixo13, evS_aug13, evS_app14, evS_frz14, evS_frs14, evE_ixo14, evS_aug14, evS_app15, evS_frz15, evS_frs15, evE_ixo15, evS_aug15, evS_app16, evS_frz16, evS_frs16, evE_ixo16, evS_aug16, evS_pass, evE_ife, ifE_t, ifE_f, it_rng1, it_rng2, c_isnN, c_isnI, c_isN, c_isI, c_isnL, c_isnT, c_isL, c_isT, o_band, o_shr, len_t0, tup_t, call_8, call_9, call_10, call_11, call_12, rb_ok, rb_bad, rb_exc, ra_ok, ra_bad, ra_exc, ft_nx, ft_rt, ft_bad, ft_xc, List.set_cons_zero, List.set_cons_succ, List.nil_append, List.cons_append, Bool.not_true, Bool.not_false, decide_true, decide_false, eq_self, Int.reduceEq, Bool.false_or, Bool.or_false, Bool.true_or, Bool.or_true, Bool.true_and, Bool.and_true, Bool.false_and, Bool.and_false, Bool.or_self, Bool.and_self, v_asked_turning p q r s (by omega) h]
theorem v_bar_of (a b c : Int) {n m l : Nat} [Bd n a] [Bd m b] [Bd l c] (hn : n + m + l ≤ 10000000) (h1 : 0 < a) (h2 : b * b < 4 * a * c) : sem_bar_of [(PyData.tuple [PyData.int a, PyData.int b, PyData.int c])] = .ok (.int (b * b - 4 * a * c)) := by
  show (evSs G_bar_of b_bar_of [some (.sh _)]).ans = _
  unfold b_bar_of G_bar_of
  simp (disch := first | exact mulOk_bd | assumption | omega) only [evE_v0, evE_v1, evE_v2, evE_v3, evE_v4, evE_v5, evE_v6, evE_v7, evE_v8, evE_v9, evE_v10, evE_int, evE_bl, evE_non, evE_str, evE_bin, evE_neg, evE_not, evE_cmp, evE_tup, evE_lst, evE_ix, evE_call, evE_bi, evE_sl, evE_isi, andB_t, andB_f, orB_t, orB_f, andB_b, orB_b, evE_and, evE_or, evAnd_one, evOr_one, evAnd_two, evOr_two, evEs_nil, evEs_cons, evSs_nil, evSs_cons, evS_ex, evS_ret, ifB_t, ifB_f, evS_ife, evS_raise, evS_for, seq_t, seq_l, it_seq, ans_nx, ans_rt, ans_xc, forL_nil, forL_cons, ix_t0, ix_t1, ix_t2, ix_t3, o_add, o_sub, o_mul, o_fdiv, o_mod, o_neg, o_not, c_lt, c_le, c_gt, c_ge, c_eq, c_ne, c_eq2, c_ne2, c_eq3, c_ne3, c_is, c_isnot, isi_tt, isi_lt, isi_it, isi_ii, isi_ib, isi_ll, len_t1, len_t2, len_t3, len_t4, len_l, abs_i, tup_l, part_0, part_1, sl_l, call_0, call_1, call_2, call_3, call_4, call_5, call_6, call_7, glob_0, glob_1, glob_2, evE_v11, evE_v12, evE_v13, evE_v14, evE_v15, evE_v16, evE_v17, evE_v18, evE_v19, evE_v20, evS_set0, evS_setL0, evS_set1, evS_setL1, evS_set2, evS_setL2, evS_set3, evS_setL3, evS_set4, evS_setL4, evS_set5, evS_setL5, evS_set6, evS_setL6, evS_set7, evS_setL7, evS_set8, evS_setL8, evS_set9, evS_setL9, evS_set10, evS_setL10, evS_set11, evS_setL11, evS_set12, evS_setL12, evS_set13, evS_setL13, evS_set14, evS_setL14, evS_set15, evS_setL15, evS_set16, evS_setL16, evS_set17, evS_setL17, evS_set18, evS_setL18, evS_set19, evS_setL19, evS_set20, evS_setL20, evS_app0, evS_frz0, evS_frs0, evE_ixo0, evS_aug0, evS_app1, evS_frz1, evS_frs1, evE_ixo1, evS_aug1, evS_app2, evS_frz2, evS_frs2, evE_ixo2, evS_aug2, evS_app3, evS_frz3, evS_frs3, evE_ixo3, evS_aug3, evS_app4, evS_frz4, evS_frs4, evE_ixo4, evS_aug4, evS_app5, evS_frz5, evS_frs5, evE_ixo5, evS_aug5, evS_app6, evS_frz6, evS_frs6, evE_ixo6, evS_aug6, evS_app7, evS_frz7, evS_frs7, evE_ixo7, evS_aug7, evS_app8, evS_frz8, evS_frs8, evE_ixo8, evS_aug8, evS_app9, evS_frz9, evS_frs9, evE_ixo9, evS_aug9, evS_app10, evS_frz10, evS_frs10, evE_ixo10, evS_aug10, evS_app11, evS_frz11, evS_frs11, evE_ixo11, evS_aug11, evS_app12, evS_frz12, evS_frs12, evE_ixo12, evS_aug12, evS_app13, evS_frz13, evS_frs13, evE_ixo13, evS_aug13, evS_app14, evS_frz14, evS_frs14, evE_ixo14, evS_aug14, evS_app15, evS_frz15, evS_frs15, evE_ixo15, evS_aug15, evS_app16, evS_frz16, evS_frs16, evE_ixo16, evS_aug16, evS_pass, evE_ife, ifE_t, ifE_f, it_rng1, it_rng2, c_isnN, c_isnI, c_isN, c_isI, c_isnL, c_isnT, c_isL, c_isT, o_band, o_shr, len_t0, tup_t, call_8, call_9, call_10, call_11, call_12, rb_ok, rb_bad, rb_exc, ra_ok, ra_bad, ra_exc, ft_nx, ft_rt, ft_bad, ft_xc, List.set_cons_zero, List.set_cons_succ, List.nil_append, List.cons_append, Bool.not_true, Bool.not_false, decide_true, decide_false, eq_self, Int.reduceEq, Bool.false_or, Bool.or_false, Bool.true_or, Bool.or_true, Bool.true_and, Bool.and_true, Bool.false_and, Bool.and_false, Bool.or_self, Bool.and_self, v_asked_form a b c hn h1 h2]
theorem v_worth (a b c x y : Int) {n m l n1 n2 : Nat} [Bd n a] [Bd m b] [Bd l c] [Bd n1 x] [Bd n2 y] (hn : n + m + l + n1 + n2 ≤ 10000000) (h1 : 0 < a) (h2 : b * b < 4 * a * c) : sem_worth [(PyData.tuple [PyData.int a, PyData.int b, PyData.int c]), (PyData.tuple [PyData.int x, PyData.int y])] = .ok (.int (a * x * x + b * x * y + c * y * y)) := by
  show (evSs G_worth b_worth [some (.sh _), some (.sh _), none, none]).ans = _
  unfold b_worth G_worth
  simp (disch := first | exact mulOk_bd | assumption | omega) only [evE_v0, evE_v1, evE_v2, evE_v3, evE_v4, evE_v5, evE_v6, evE_v7, evE_v8, evE_v9, evE_v10, evE_int, evE_bl, evE_non, evE_str, evE_bin, evE_neg, evE_not, evE_cmp, evE_tup, evE_lst, evE_ix, evE_call, evE_bi, evE_sl, evE_isi, andB_t, andB_f, orB_t, orB_f, andB_b, orB_b, evE_and, evE_or, evAnd_one, evOr_one, evAnd_two, evOr_two, evEs_nil, evEs_cons, evSs_nil, evSs_cons, evS_ex, evS_ret, ifB_t, ifB_f, evS_ife, evS_raise, evS_for, seq_t, seq_l, it_seq, ans_nx, ans_rt, ans_xc, forL_nil, forL_cons, ix_t0, ix_t1, ix_t2, ix_t3, o_add, o_sub, o_mul, o_fdiv, o_mod, o_neg, o_not, c_lt, c_le, c_gt, c_ge, c_eq, c_ne, c_eq2, c_ne2, c_eq3, c_ne3, c_is, c_isnot, isi_tt, isi_lt, isi_it, isi_ii, isi_ib, isi_ll, len_t1, len_t2, len_t3, len_t4, len_l, abs_i, tup_l, part_0, part_1, sl_l, call_0, call_1, call_2, call_3, call_4, call_5, call_6, call_7, glob_0, glob_1, glob_2, evE_v11, evE_v12, evE_v13, evE_v14, evE_v15, evE_v16, evE_v17, evE_v18, evE_v19, evE_v20, evS_set0, evS_setL0, evS_set1, evS_setL1, evS_set2, evS_setL2, evS_set3, evS_setL3, evS_set4, evS_setL4, evS_set5, evS_setL5, evS_set6, evS_setL6, evS_set7, evS_setL7, evS_set8, evS_setL8, evS_set9, evS_setL9, evS_set10, evS_setL10, evS_set11, evS_setL11, evS_set12, evS_setL12, evS_set13, evS_setL13, evS_set14, evS_setL14, evS_set15, evS_setL15, evS_set16, evS_setL16, evS_set17, evS_setL17, evS_set18, evS_setL18, evS_set19, evS_setL19, evS_set20, evS_setL20, evS_app0, evS_frz0, evS_frs0, evE_ixo0, evS_aug0, evS_app1, evS_frz1, evS_frs1, evE_ixo1, evS_aug1, evS_app2, evS_frz2, evS_frs2, evE_ixo2, evS_aug2, evS_app3, evS_frz3, evS_frs3, evE_ixo3, evS_aug3, evS_app4, evS_frz4, evS_frs4, evE_ixo4, evS_aug4, evS_app5, evS_frz5, evS_frs5, evE_ixo5, evS_aug5, evS_app6, evS_frz6, evS_frs6, evE_ixo6, evS_aug6, evS_app7, evS_frz7, evS_frs7, evE_ixo7, evS_aug7, evS_app8, evS_frz8, evS_frs8, evE_ixo8, evS_aug8, evS_app9, evS_frz9, evS_frs9, evE_ixo9, evS_aug9, evS_app10, evS_frz10, evS_frs10, evE_ixo10, evS_aug10, evS_app11, evS_frz11, evS_frs11, evE_ixo11, evS_aug11, evS_app12, evS_frz12, evS_frs12, evE_ixo12, evS_aug12, evS_app13, evS_frz13, evS_frs13, evE_ixo13, evS_aug13, evS_app14, evS_frz14, evS_frs14, evE_ixo14, evS_aug14, evS_app15, evS_frz15, evS_frs15, evE_ixo15, evS_aug15, evS_app16, evS_frz16, evS_frs16, evE_ixo16, evS_aug16, evS_pass, evE_ife, ifE_t, ifE_f, it_rng1, it_rng2, c_isnN, c_isnI, c_isN, c_isI, c_isnL, c_isnT, c_isL, c_isT, o_band, o_shr, len_t0, tup_t, call_8, call_9, call_10, call_11, call_12, rb_ok, rb_bad, rb_exc, ra_ok, ra_bad, ra_exc, ft_nx, ft_rt, ft_bad, ft_xc, List.set_cons_zero, List.set_cons_succ, List.nil_append, List.cons_append, Bool.not_true, Bool.not_false, decide_true, decide_false, eq_self, Int.reduceEq, Bool.false_or, Bool.or_false, Bool.true_or, Bool.or_true, Bool.true_and, Bool.and_true, Bool.false_and, Bool.and_false, Bool.or_self, Bool.and_self, v_asked_form a b c (by omega) h1 h2]
theorem v_is_least (a b c : Int) {n m l : Nat} [Bd n a] [Bd m b] [Bd l c] (hn : n + m + l ≤ 10000000) (h1 : 0 < a) (h2 : b * b < 4 * a * c) : sem_is_least [(PyData.tuple [PyData.int a, PyData.int b, PyData.int c])] = .ok (.bool (decide (b ≤ a ∧ -a < b ∧ a ≤ c ∧ (a < c ∨ 0 ≤ b)))) := by
  show (evSs G_is_least b_is_least [some (.sh _), none, none, none]).ans = _
  unfold b_is_least G_is_least
  simp (disch := first | exact mulOk_bd | assumption | omega) only [evE_v0, evE_v1, evE_v2, evE_v3, evE_v4, evE_v5, evE_v6, evE_v7, evE_v8, evE_v9, evE_v10, evE_int, evE_bl, evE_non, evE_str, evE_bin, evE_neg, evE_not, evE_cmp, evE_tup, evE_lst, evE_ix, evE_call, evE_bi, evE_sl, evE_isi, andB_t, andB_f, orB_t, orB_f, andB_b, orB_b, evE_and, evE_or, evAnd_one, evOr_one, evAnd_two, evOr_two, evEs_nil, evEs_cons, evSs_nil, evSs_cons, evS_ex, evS_ret, ifB_t, ifB_f, evS_ife, evS_raise, evS_for, seq_t, seq_l, it_seq, ans_nx, ans_rt, ans_xc, forL_nil, forL_cons, ix_t0, ix_t1, ix_t2, ix_t3, o_add, o_sub, o_mul, o_fdiv, o_mod, o_neg, o_not, c_lt, c_le, c_gt, c_ge, c_eq, c_ne, c_eq2, c_ne2, c_eq3, c_ne3, c_is, c_isnot, isi_tt, isi_lt, isi_it, isi_ii, isi_ib, isi_ll, len_t1, len_t2, len_t3, len_t4, len_l, abs_i, tup_l, part_0, part_1, sl_l, call_0, call_1, call_2, call_3, call_4, call_5, call_6, call_7, glob_0, glob_1, glob_2, evE_v11, evE_v12, evE_v13, evE_v14, evE_v15, evE_v16, evE_v17, evE_v18, evE_v19, evE_v20, evS_set0, evS_setL0, evS_set1, evS_setL1, evS_set2, evS_setL2, evS_set3, evS_setL3, evS_set4, evS_setL4, evS_set5, evS_setL5, evS_set6, evS_setL6, evS_set7, evS_setL7, evS_set8, evS_setL8, evS_set9, evS_setL9, evS_set10, evS_setL10, evS_set11, evS_setL11, evS_set12, evS_setL12, evS_set13, evS_setL13, evS_set14, evS_setL14, evS_set15, evS_setL15, evS_set16, evS_setL16, evS_set17, evS_setL17, evS_set18, evS_setL18, evS_set19, evS_setL19, evS_set20, evS_setL20, evS_app0, evS_frz0, evS_frs0, evE_ixo0, evS_aug0, evS_app1, evS_frz1, evS_frs1, evE_ixo1, evS_aug1, evS_app2, evS_frz2, evS_frs2, evE_ixo2, evS_aug2, evS_app3, evS_frz3, evS_frs3, evE_ixo3, evS_aug3, evS_app4, evS_frz4, evS_frs4, evE_ixo4, evS_aug4, evS_app5, evS_frz5, evS_frs5, evE_ixo5, evS_aug5, evS_app6, evS_frz6, evS_frs6, evE_ixo6, evS_aug6, evS_app7, evS_frz7, evS_frs7, evE_ixo7, evS_aug7, evS_app8, evS_frz8, evS_frs8, evE_ixo8, evS_aug8, evS_app9, evS_frz9, evS_frs9, evE_ixo9, evS_aug9, evS_app10, evS_frz10, evS_frs10, evE_ixo10, evS_aug10, evS_app11, evS_frz11, evS_frs11, evE_ixo11, evS_aug11, evS_app12, evS_frz12, evS_frs12, evE_ixo12, evS_aug12, evS_app13, evS_frz13, evS_frs13, evE_ixo13, evS_aug13, evS_app14, evS_frz14, evS_frs14, evE_ixo14, evS_aug14, evS_app15, evS_frz15, evS_frs15, evE_ixo15, evS_aug15, evS_app16, evS_frz16, evS_frs16, evE_ixo16, evS_aug16, evS_pass, evE_ife, ifE_t, ifE_f, it_rng1, it_rng2, c_isnN, c_isnI, c_isN, c_isI, c_isnL, c_isnT, c_isL, c_isT, o_band, o_shr, len_t0, tup_t, call_8, call_9, call_10, call_11, call_12, rb_ok, rb_bad, rb_exc, ra_ok, ra_bad, ra_exc, ft_nx, ft_rt, ft_bad, ft_xc, List.set_cons_zero, List.set_cons_succ, List.nil_append, List.cons_append, Bool.not_true, Bool.not_false, decide_true, decide_false, eq_self, Int.reduceEq, Bool.false_or, Bool.or_false, Bool.true_or, Bool.or_true, Bool.true_and, Bool.and_true, Bool.false_and, Bool.and_false, Bool.or_self, Bool.and_self, v_asked_form a b c hn h1 h2]
  by_cases q1 : a < b
  · simp (disch := first | exact mulOk_bd | assumption | omega) only [evE_v0, evE_v1, evE_v2, evE_v3, evE_v4, evE_v5, evE_v6, evE_v7, evE_v8, evE_v9, evE_v10, evE_int, evE_bl, evE_non, evE_str, evE_bin, evE_neg, evE_not, evE_cmp, evE_tup, evE_lst, evE_ix, evE_call, evE_bi, evE_sl, evE_isi, andB_t, andB_f, orB_t, orB_f, andB_b, orB_b, evE_and, evE_or, evAnd_one, evOr_one, evAnd_two, evOr_two, evEs_nil, evEs_cons, evSs_nil, evSs_cons, evS_ex, evS_ret, ifB_t, ifB_f, evS_ife, evS_raise, evS_for, seq_t, seq_l, it_seq, ans_nx, ans_rt, ans_xc, forL_nil, forL_cons, ix_t0, ix_t1, ix_t2, ix_t3, o_add, o_sub, o_mul, o_fdiv, o_mod, o_neg, o_not, c_lt, c_le, c_gt, c_ge, c_eq, c_ne, c_eq2, c_ne2, c_eq3, c_ne3, c_is, c_isnot, isi_tt, isi_lt, isi_it, isi_ii, isi_ib, isi_ll, len_t1, len_t2, len_t3, len_t4, len_l, abs_i, tup_l, part_0, part_1, sl_l, call_0, call_1, call_2, call_3, call_4, call_5, call_6, call_7, glob_0, glob_1, glob_2, evE_v11, evE_v12, evE_v13, evE_v14, evE_v15, evE_v16, evE_v17, evE_v18, evE_v19, evE_v20, evS_set0, evS_setL0, evS_set1, evS_setL1, evS_set2, evS_setL2, evS_set3, evS_setL3, evS_set4, evS_setL4, evS_set5, evS_setL5, evS_set6, evS_setL6, evS_set7, evS_setL7, evS_set8, evS_setL8, evS_set9, evS_setL9, evS_set10, evS_setL10, evS_set11, evS_setL11, evS_set12, evS_setL12, evS_set13, evS_setL13, evS_set14, evS_setL14, evS_set15, evS_setL15, evS_set16, evS_setL16, evS_set17, evS_setL17, evS_set18, evS_setL18, evS_set19, evS_setL19, evS_set20, evS_setL20, evS_app0, evS_frz0, evS_frs0, evE_ixo0, evS_aug0, evS_app1, evS_frz1, evS_frs1, evE_ixo1, evS_aug1, evS_app2, evS_frz2, evS_frs2, evE_ixo2, evS_aug2, evS_app3, evS_frz3, evS_frs3, evE_ixo3, evS_aug3, evS_app4, evS_frz4, evS_frs4, evE_ixo4, evS_aug4, evS_app5, evS_frz5, evS_frs5, evE_ixo5, evS_aug5, evS_app6, evS_frz6, evS_frs6, evE_ixo6, evS_aug6, evS_app7, evS_frz7, evS_frs7, evE_ixo7, evS_aug7, evS_app8, evS_frz8, evS_frs8, evE_ixo8, evS_aug8, evS_app9, evS_frz9, evS_frs9, evE_ixo9, evS_aug9, evS_app10, evS_frz10, evS_frs10, evE_ixo10, evS_aug10, evS_app11, evS_frz11, evS_frs11, evE_ixo11, evS_aug11, evS_app12, evS_frz12, evS_frs12, evE_ixo12, evS_aug12, evS_app13, evS_frz13, evS_frs13, evE_ixo13, evS_aug13, evS_app14, evS_frz14, evS_frs14, evE_ixo14, evS_aug14, evS_app15, evS_frz15, evS_frs15, evE_ixo15, evS_aug15, evS_app16, evS_frz16, evS_frs16, evE_ixo16, evS_aug16, evS_pass, evE_ife, ifE_t, ifE_f, it_rng1, it_rng2, c_isnN, c_isnI, c_isN, c_isI, c_isnL, c_isnT, c_isL, c_isT, o_band, o_shr, len_t0, tup_t, call_8, call_9, call_10, call_11, call_12, rb_ok, rb_bad, rb_exc, ra_ok, ra_bad, ra_exc, ft_nx, ft_rt, ft_bad, ft_xc, List.set_cons_zero, List.set_cons_succ, List.nil_append, List.cons_append, Bool.not_true, Bool.not_false, decide_true, decide_false, eq_self, Int.reduceEq, Bool.false_or, Bool.or_false, Bool.true_or, Bool.or_true, Bool.true_and, Bool.and_true, Bool.false_and, Bool.and_false, Bool.or_self, Bool.and_self, decide_eq_true q1]
    rw [decide_eq_false (by omega)]
  · by_cases q2 : b ≤ -a
    · simp (disch := first | exact mulOk_bd | assumption | omega) only [evE_v0, evE_v1, evE_v2, evE_v3, evE_v4, evE_v5, evE_v6, evE_v7, evE_v8, evE_v9, evE_v10, evE_int, evE_bl, evE_non, evE_str, evE_bin, evE_neg, evE_not, evE_cmp, evE_tup, evE_lst, evE_ix, evE_call, evE_bi, evE_sl, evE_isi, andB_t, andB_f, orB_t, orB_f, andB_b, orB_b, evE_and, evE_or, evAnd_one, evOr_one, evAnd_two, evOr_two, evEs_nil, evEs_cons, evSs_nil, evSs_cons, evS_ex, evS_ret, ifB_t, ifB_f, evS_ife, evS_raise, evS_for, seq_t, seq_l, it_seq, ans_nx, ans_rt, ans_xc, forL_nil, forL_cons, ix_t0, ix_t1, ix_t2, ix_t3, o_add, o_sub, o_mul, o_fdiv, o_mod, o_neg, o_not, c_lt, c_le, c_gt, c_ge, c_eq, c_ne, c_eq2, c_ne2, c_eq3, c_ne3, c_is, c_isnot, isi_tt, isi_lt, isi_it, isi_ii, isi_ib, isi_ll, len_t1, len_t2, len_t3, len_t4, len_l, abs_i, tup_l, part_0, part_1, sl_l, call_0, call_1, call_2, call_3, call_4, call_5, call_6, call_7, glob_0, glob_1, glob_2, evE_v11, evE_v12, evE_v13, evE_v14, evE_v15, evE_v16, evE_v17, evE_v18, evE_v19, evE_v20, evS_set0, evS_setL0, evS_set1, evS_setL1, evS_set2, evS_setL2, evS_set3, evS_setL3, evS_set4, evS_setL4, evS_set5, evS_setL5, evS_set6, evS_setL6, evS_set7, evS_setL7, evS_set8, evS_setL8, evS_set9, evS_setL9, evS_set10, evS_setL10, evS_set11, evS_setL11, evS_set12, evS_setL12, evS_set13, evS_setL13, evS_set14, evS_setL14, evS_set15, evS_setL15, evS_set16, evS_setL16, evS_set17, evS_setL17, evS_set18, evS_setL18, evS_set19, evS_setL19, evS_set20, evS_setL20, evS_app0, evS_frz0, evS_frs0, evE_ixo0, evS_aug0, evS_app1, evS_frz1, evS_frs1, evE_ixo1, evS_aug1, evS_app2, evS_frz2, evS_frs2, evE_ixo2, evS_aug2, evS_app3, evS_frz3, evS_frs3, evE_ixo3, evS_aug3, evS_app4, evS_frz4, evS_frs4, evE_ixo4, evS_aug4, evS_app5, evS_frz5, evS_frs5, evE_ixo5, evS_aug5, evS_app6, evS_frz6, evS_frs6, evE_ixo6, evS_aug6, evS_app7, evS_frz7, evS_frs7, evE_ixo7, evS_aug7, evS_app8, evS_frz8, evS_frs8, evE_ixo8, evS_aug8, evS_app9, evS_frz9, evS_frs9, evE_ixo9, evS_aug9, evS_app10, evS_frz10, evS_frs10, evE_ixo10, evS_aug10, evS_app11, evS_frz11, evS_frs11, evE_ixo11, evS_aug11, evS_app12, evS_frz12, evS_frs12, evE_ixo12, evS_aug12, evS_app13, evS_frz13, evS_frs13, evE_ixo13, evS_aug13, evS_app14, evS_frz14, evS_frs14, evE_ixo14, evS_aug14, evS_app15, evS_frz15, evS_frs15, evE_ixo15, evS_aug15, evS_app16, evS_frz16, evS_frs16, evE_ixo16, evS_aug16, evS_pass, evE_ife, ifE_t, ifE_f, it_rng1, it_rng2, c_isnN, c_isnI, c_isN, c_isI, c_isnL, c_isnT, c_isL, c_isT, o_band, o_shr, len_t0, tup_t, call_8, call_9, call_10, call_11, call_12, rb_ok, rb_bad, rb_exc, ra_ok, ra_bad, ra_exc, ft_nx, ft_rt, ft_bad, ft_xc, List.set_cons_zero, List.set_cons_succ, List.nil_append, List.cons_append, Bool.not_true, Bool.not_false, decide_true, decide_false, eq_self, Int.reduceEq, Bool.false_or, Bool.or_false, Bool.true_or, Bool.or_true, Bool.true_and, Bool.and_true, Bool.false_and, Bool.and_false, Bool.or_self, Bool.and_self, decide_eq_false q1, decide_eq_true q2]
      rw [decide_eq_false (by omega)]
    · by_cases q3 : c < a
      · simp (disch := first | exact mulOk_bd | assumption | omega) only [evE_v0, evE_v1, evE_v2, evE_v3, evE_v4, evE_v5, evE_v6, evE_v7, evE_v8, evE_v9, evE_v10, evE_int, evE_bl, evE_non, evE_str, evE_bin, evE_neg, evE_not, evE_cmp, evE_tup, evE_lst, evE_ix, evE_call, evE_bi, evE_sl, evE_isi, andB_t, andB_f, orB_t, orB_f, andB_b, orB_b, evE_and, evE_or, evAnd_one, evOr_one, evAnd_two, evOr_two, evEs_nil, evEs_cons, evSs_nil, evSs_cons, evS_ex, evS_ret, ifB_t, ifB_f, evS_ife, evS_raise, evS_for, seq_t, seq_l, it_seq, ans_nx, ans_rt, ans_xc, forL_nil, forL_cons, ix_t0, ix_t1, ix_t2, ix_t3, o_add, o_sub, o_mul, o_fdiv, o_mod, o_neg, o_not, c_lt, c_le, c_gt, c_ge, c_eq, c_ne, c_eq2, c_ne2, c_eq3, c_ne3, c_is, c_isnot, isi_tt, isi_lt, isi_it, isi_ii, isi_ib, isi_ll, len_t1, len_t2, len_t3, len_t4, len_l, abs_i, tup_l, part_0, part_1, sl_l, call_0, call_1, call_2, call_3, call_4, call_5, call_6, call_7, glob_0, glob_1, glob_2, evE_v11, evE_v12, evE_v13, evE_v14, evE_v15, evE_v16, evE_v17, evE_v18, evE_v19, evE_v20, evS_set0, evS_setL0, evS_set1, evS_setL1, evS_set2, evS_setL2, evS_set3, evS_setL3, evS_set4, evS_setL4, evS_set5, evS_setL5, evS_set6, evS_setL6, evS_set7, evS_setL7, evS_set8, evS_setL8, evS_set9, evS_setL9, evS_set10, evS_setL10, evS_set11, evS_setL11, evS_set12, evS_setL12, evS_set13, evS_setL13, evS_set14, evS_setL14, evS_set15, evS_setL15, evS_set16, evS_setL16, evS_set17, evS_setL17, evS_set18, evS_setL18, evS_set19, evS_setL19, evS_set20, evS_setL20, evS_app0, evS_frz0, evS_frs0, evE_ixo0, evS_aug0, evS_app1, evS_frz1, evS_frs1, evE_ixo1, evS_aug1, evS_app2, evS_frz2, evS_frs2, evE_ixo2, evS_aug2, evS_app3, evS_frz3, evS_frs3, evE_ixo3, evS_aug3, evS_app4, evS_frz4, evS_frs4, evE_ixo4, evS_aug4, evS_app5, evS_frz5, evS_frs5, evE_ixo5, evS_aug5, evS_app6, evS_frz6, evS_frs6, evE_ixo6, evS_aug6, evS_app7, evS_frz7, evS_frs7, evE_ixo7, evS_aug7, evS_app8, evS_frz8, evS_frs8, evE_ixo8, evS_aug8, evS_app9, evS_frz9, evS_frs9, evE_ixo9, evS_aug9, evS_app10, evS_frz10, evS_frs10, evE_ixo10, evS_aug10, evS_app11, evS_frz11, evS_frs11, evE_ixo11, evS_aug11, evS_app12, evS_frz12, evS_frs12, evE_ixo12, evS_aug12, evS_app13, evS_frz13, evS_frs13, evE_ixo13, evS_aug13, evS_app14, evS_frz14, evS_frs14, evE_ixo14, evS_aug14, evS_app15, evS_frz15, evS_frs15, evE_ixo15, evS_aug15, evS_app16, evS_frz16, evS_frs16, evE_ixo16, evS_aug16, evS_pass, evE_ife, ifE_t, ifE_f, it_rng1, it_rng2, c_isnN, c_isnI, c_isN, c_isI, c_isnL, c_isnT, c_isL, c_isT, o_band, o_shr, len_t0, tup_t, call_8, call_9, call_10, call_11, call_12, rb_ok, rb_bad, rb_exc, ra_ok, ra_bad, ra_exc, ft_nx, ft_rt, ft_bad, ft_xc, List.set_cons_zero, List.set_cons_succ, List.nil_append, List.cons_append, Bool.not_true, Bool.not_false, decide_true, decide_false, eq_self, Int.reduceEq, Bool.false_or, Bool.or_false, Bool.true_or, Bool.or_true, Bool.true_and, Bool.and_true, Bool.false_and, Bool.and_false, Bool.or_self, Bool.and_self, decide_eq_false q1, decide_eq_false q2, decide_eq_true q3]
        rw [decide_eq_false (by omega)]
      · simp (disch := first | exact mulOk_bd | assumption | omega) only [evE_v0, evE_v1, evE_v2, evE_v3, evE_v4, evE_v5, evE_v6, evE_v7, evE_v8, evE_v9, evE_v10, evE_int, evE_bl, evE_non, evE_str, evE_bin, evE_neg, evE_not, evE_cmp, evE_tup, evE_lst, evE_ix, evE_call, evE_bi, evE_sl, evE_isi, andB_t, andB_f, orB_t, orB_f, andB_b, orB_b, evE_and, evE_or, evAnd_one, evOr_one, evAnd_two, evOr_two, evEs_nil, evEs_cons, evSs_nil, evSs_cons, evS_ex, evS_ret, ifB_t, ifB_f, evS_ife, evS_raise, evS_for, seq_t, seq_l, it_seq, ans_nx, ans_rt, ans_xc, forL_nil, forL_cons, ix_t0, ix_t1, ix_t2, ix_t3, o_add, o_sub, o_mul, o_fdiv, o_mod, o_neg, o_not, c_lt, c_le, c_gt, c_ge, c_eq, c_ne, c_eq2, c_ne2, c_eq3, c_ne3, c_is, c_isnot, isi_tt, isi_lt, isi_it, isi_ii, isi_ib, isi_ll, len_t1, len_t2, len_t3, len_t4, len_l, abs_i, tup_l, part_0, part_1, sl_l, call_0, call_1, call_2, call_3, call_4, call_5, call_6, call_7, glob_0, glob_1, glob_2, evE_v11, evE_v12, evE_v13, evE_v14, evE_v15, evE_v16, evE_v17, evE_v18, evE_v19, evE_v20, evS_set0, evS_setL0, evS_set1, evS_setL1, evS_set2, evS_setL2, evS_set3, evS_setL3, evS_set4, evS_setL4, evS_set5, evS_setL5, evS_set6, evS_setL6, evS_set7, evS_setL7, evS_set8, evS_setL8, evS_set9, evS_setL9, evS_set10, evS_setL10, evS_set11, evS_setL11, evS_set12, evS_setL12, evS_set13, evS_setL13, evS_set14, evS_setL14, evS_set15, evS_setL15, evS_set16, evS_setL16, evS_set17, evS_setL17, evS_set18, evS_setL18, evS_set19, evS_setL19, evS_set20, evS_setL20, evS_app0, evS_frz0, evS_frs0, evE_ixo0, evS_aug0, evS_app1, evS_frz1, evS_frs1, evE_ixo1, evS_aug1, evS_app2, evS_frz2, evS_frs2, evE_ixo2, evS_aug2, evS_app3, evS_frz3, evS_frs3, evE_ixo3, evS_aug3, evS_app4, evS_frz4, evS_frs4, evE_ixo4, evS_aug4, evS_app5, evS_frz5, evS_frs5, evE_ixo5, evS_aug5, evS_app6, evS_frz6, evS_frs6, evE_ixo6, evS_aug6, evS_app7, evS_frz7, evS_frs7, evE_ixo7, evS_aug7, evS_app8, evS_frz8, evS_frs8, evE_ixo8, evS_aug8, evS_app9, evS_frz9, evS_frs9, evE_ixo9, evS_aug9, evS_app10, evS_frz10, evS_frs10, evE_ixo10, evS_aug10, evS_app11, evS_frz11, evS_frs11, evE_ixo11, evS_aug11, evS_app12, evS_frz12, evS_frs12, evE_ixo12, evS_aug12, evS_app13, evS_frz13, evS_frs13, evE_ixo13, evS_aug13, evS_app14, evS_frz14, evS_frs14, evE_ixo14, evS_aug14, evS_app15, evS_frz15, evS_frs15, evE_ixo15, evS_aug15, evS_app16, evS_frz16, evS_frs16, evE_ixo16, evS_aug16, evS_pass, evE_ife, ifE_t, ifE_f, it_rng1, it_rng2, c_isnN, c_isnI, c_isN, c_isI, c_isnL, c_isnT, c_isL, c_isT, o_band, o_shr, len_t0, tup_t, call_8, call_9, call_10, call_11, call_12, rb_ok, rb_bad, rb_exc, ra_ok, ra_bad, ra_exc, ft_nx, ft_rt, ft_bad, ft_xc, List.set_cons_zero, List.set_cons_succ, List.nil_append, List.cons_append, Bool.not_true, Bool.not_false, decide_true, decide_false, eq_self, Int.reduceEq, Bool.false_or, Bool.or_false, Bool.true_or, Bool.or_true, Bool.true_and, Bool.and_true, Bool.false_and, Bool.and_false, Bool.or_self, Bool.and_self, decide_eq_false q1, decide_eq_false q2, decide_eq_false q3]
        by_cases q4 : a < c
        · have e : decide (b ≤ a ∧ -a < b ∧ a ≤ c ∧ (a < c ∨ 0 ≤ b)) = true := decide_eq_true (by omega)
          rw [decide_eq_true q4, e, Bool.true_or]
        · by_cases q5 : 0 ≤ b
          · have e : decide (b ≤ a ∧ -a < b ∧ a ≤ c ∧ (a < c ∨ 0 ≤ b)) = true := decide_eq_true (by omega)
            rw [decide_eq_true q5, e, Bool.or_true]
          · have e : decide (b ≤ a ∧ -a < b ∧ a ≤ c ∧ (a < c ∨ 0 ≤ b)) = false := decide_eq_false (by omega)
            rw [decide_eq_false q4, decide_eq_false q5, e]
            rfl
/-! ### the law's own helpers -/
theorem w_ints3 (a b c : Int) : sem__law_ints [(PyData.tuple [PyData.int a, PyData.int b, PyData.int c]), .int 3] = .ok (.bool true) := rfl
theorem w_ints4 (a b c d : Int) : sem__law_ints [(PyData.tuple [PyData.int a, PyData.int b, PyData.int c, PyData.int d]), .int 4] = .ok (.bool true) := rfl
theorem w_ints2 (a b : Int) : sem__law_ints [(PyData.tuple [PyData.int a, PyData.int b]), .int 2] = .ok (.bool true) := rfl
theorem w_worth (a b c x y : Int) {n m l n1 n2 : Nat} [Bd n a] [Bd m b] [Bd l c] [Bd n1 x] [Bd n2 y] (hn : n + m + l + n1 + n2 ≤ 10000000) : sem__law_worth [(PyData.tuple [PyData.int a, PyData.int b, PyData.int c]), (PyData.tuple [PyData.int x, PyData.int y])] = .ok (.int (a * x * x + b * x * y + c * y * y)) := by
  show (evSs G__law_worth b__law_worth [some (.sh _), some (.sh _), none, none]).ans = _
  unfold b__law_worth G__law_worth
  simp (disch := first | exact mulOk_bd | assumption | omega) only [evE_v0, evE_v1, evE_v2, evE_v3, evE_v4, evE_v5, evE_v6, evE_v7, evE_v8, evE_v9, evE_v10, evE_int, evE_bl, evE_non, evE_str, evE_bin, evE_neg, evE_not, evE_cmp, evE_tup, evE_lst, evE_ix, evE_call, evE_bi, evE_sl, evE_isi, andB_t, andB_f, orB_t, orB_f, andB_b, orB_b, evE_and, evE_or, evAnd_one, evOr_one, evAnd_two, evOr_two, evEs_nil, evEs_cons, evSs_nil, evSs_cons, evS_ex, evS_ret, ifB_t, ifB_f, evS_ife, evS_raise, evS_for, seq_t, seq_l, it_seq, ans_nx, ans_rt, ans_xc, forL_nil, forL_cons, ix_t0, ix_t1, ix_t2, ix_t3, o_add, o_sub, o_mul, o_fdiv, o_mod, o_neg, o_not, c_lt, c_le, c_gt, c_ge, c_eq, c_ne, c_eq2, c_ne2, c_eq3, c_ne3, c_is, c_isnot, isi_tt, isi_lt, isi_it, isi_ii, isi_ib, isi_ll, len_t1, len_t2, len_t3, len_t4, len_l, abs_i, tup_l, part_0, part_1, sl_l, call_0, call_1, call_2, call_3, call_4, call_5, call_6, call_7, glob_0, glob_1, glob_2, evE_v11, evE_v12, evE_v13, evE_v14, evE_v15, evE_v16, evE_v17, evE_v18, evE_v19, evE_v20, evS_set0, evS_setL0, evS_set1, evS_setL1, evS_set2, evS_setL2, evS_set3, evS_setL3, evS_set4, evS_setL4, evS_set5, evS_setL5, evS_set6, evS_setL6, evS_set7, evS_setL7, evS_set8, evS_setL8, evS_set9, evS_setL9, evS_set10, evS_setL10, evS_set11, evS_setL11, evS_set12, evS_setL12, evS_set13, evS_setL13, evS_set14, evS_setL14, evS_set15, evS_setL15, evS_set16, evS_setL16, evS_set17, evS_setL17, evS_set18, evS_setL18, evS_set19, evS_setL19, evS_set20, evS_setL20, evS_app0, evS_frz0, evS_frs0, evE_ixo0, evS_aug0, evS_app1, evS_frz1, evS_frs1, evE_ixo1, evS_aug1, evS_app2, evS_frz2, evS_frs2, evE_ixo2, evS_aug2, evS_app3, evS_frz3, evS_frs3, evE_ixo3, evS_aug3, evS_app4, evS_frz4, evS_frs4, evE_ixo4, evS_aug4, evS_app5, evS_frz5, evS_frs5, evE_ixo5, evS_aug5, evS_app6, evS_frz6, evS_frs6, evE_ixo6, evS_aug6, evS_app7, evS_frz7, evS_frs7, evE_ixo7, evS_aug7, evS_app8, evS_frz8, evS_frs8, evE_ixo8, evS_aug8, evS_app9, evS_frz9, evS_frs9, evE_ixo9, evS_aug9, evS_app10, evS_frz10, evS_frs10, evE_ixo10, evS_aug10, evS_app11, evS_frz11, evS_frs11, evE_ixo11, evS_aug11, evS_app12, evS_frz12, evS_frs12, evE_ixo12, evS_aug12, evS_app13, evS_frz13, evS_frs13, evE_ixo13, evS_aug13, evS_app14, evS_frz14, evS_frs14, evE_ixo14, evS_aug14, evS_app15, evS_frz15, evS_frs15, evE_ixo15, evS_aug15, evS_app16, evS_frz16, evS_frs16, evE_ixo16, evS_aug16, evS_pass, evE_ife, ifE_t, ifE_f, it_rng1, it_rng2, c_isnN, c_isnI, c_isN, c_isI, c_isnL, c_isnT, c_isL, c_isT, o_band, o_shr, len_t0, tup_t, call_8, call_9, call_10, call_11, call_12, rb_ok, rb_bad, rb_exc, ra_ok, ra_bad, ra_exc, ft_nx, ft_rt, ft_bad, ft_xc, List.set_cons_zero, List.set_cons_succ, List.nil_append, List.cons_append, Bool.not_true, Bool.not_false, decide_true, decide_false, eq_self, Int.reduceEq, Bool.false_or, Bool.or_false, Bool.true_or, Bool.or_true, Bool.true_and, Bool.and_true, Bool.false_and, Bool.and_false, Bool.or_self, Bool.and_self]
theorem w_sent (p q r s x y : Int) {n1 n2 n3 n4 m1 m2 : Nat} [Bd n1 p] [Bd n2 q] [Bd n3 r] [Bd n4 s] [Bd m1 x] [Bd m2 y] (hn : n1 + n2 + n3 + n4 + m1 + m2 ≤ 10000000) : sem__law_sent [(PyData.tuple [PyData.int p, PyData.int q, PyData.int r, PyData.int s]), (PyData.tuple [PyData.int x, PyData.int y])] = .ok (PyData.tuple [PyData.int (p * x + q * y), PyData.int (r * x + s * y)]) := by
  show (evSs G__law_sent b__law_sent [some (.sh _), some (.sh _), none, none]).ans = _
  unfold b__law_sent G__law_sent
  simp (disch := first | exact mulOk_bd | assumption | omega) only [evE_v0, evE_v1, evE_v2, evE_v3, evE_v4, evE_v5, evE_v6, evE_v7, evE_v8, evE_v9, evE_v10, evE_int, evE_bl, evE_non, evE_str, evE_bin, evE_neg, evE_not, evE_cmp, evE_tup, evE_lst, evE_ix, evE_call, evE_bi, evE_sl, evE_isi, andB_t, andB_f, orB_t, orB_f, andB_b, orB_b, evE_and, evE_or, evAnd_one, evOr_one, evAnd_two, evOr_two, evEs_nil, evEs_cons, evSs_nil, evSs_cons, evS_ex, evS_ret, ifB_t, ifB_f, evS_ife, evS_raise, evS_for, seq_t, seq_l, it_seq, ans_nx, ans_rt, ans_xc, forL_nil, forL_cons, ix_t0, ix_t1, ix_t2, ix_t3, o_add, o_sub, o_mul, o_fdiv, o_mod, o_neg, o_not, c_lt, c_le, c_gt, c_ge, c_eq, c_ne, c_eq2, c_ne2, c_eq3, c_ne3, c_is, c_isnot, isi_tt, isi_lt, isi_it, isi_ii, isi_ib, isi_ll, len_t1, len_t2, len_t3, len_t4, len_l, abs_i, tup_l, part_0, part_1, sl_l, call_0, call_1, call_2, call_3, call_4, call_5, call_6, call_7, glob_0, glob_1, glob_2, evE_v11, evE_v12, evE_v13, evE_v14, evE_v15, evE_v16, evE_v17, evE_v18, evE_v19, evE_v20, evS_set0, evS_setL0, evS_set1, evS_setL1, evS_set2, evS_setL2, evS_set3, evS_setL3, evS_set4, evS_setL4, evS_set5, evS_setL5, evS_set6, evS_setL6, evS_set7, evS_setL7, evS_set8, evS_setL8, evS_set9, evS_setL9, evS_set10, evS_setL10, evS_set11, evS_setL11, evS_set12, evS_setL12, evS_set13, evS_setL13, evS_set14, evS_setL14, evS_set15, evS_setL15, evS_set16, evS_setL16, evS_set17, evS_setL17, evS_set18, evS_setL18, evS_set19, evS_setL19, evS_set20, evS_setL20, evS_app0, evS_frz0, evS_frs0, evE_ixo0, evS_aug0, evS_app1, evS_frz1, evS_frs1, evE_ixo1, evS_aug1, evS_app2, evS_frz2, evS_frs2, evE_ixo2, evS_aug2, evS_app3, evS_frz3, evS_frs3, evE_ixo3, evS_aug3, evS_app4, evS_frz4, evS_frs4, evE_ixo4, evS_aug4, evS_app5, evS_frz5, evS_frs5, evE_ixo5, evS_aug5, evS_app6, evS_frz6, evS_frs6, evE_ixo6, evS_aug6, evS_app7, evS_frz7, evS_frs7, evE_ixo7, evS_aug7, evS_app8, evS_frz8, evS_frs8, evE_ixo8, evS_aug8, evS_app9, evS_frz9, evS_frs9, evE_ixo9, evS_aug9, evS_app10, evS_frz10, evS_frs10, evE_ixo10, evS_aug10, evS_app11, evS_frz11, evS_frs11, evE_ixo11, evS_aug11, evS_app12, evS_frz12, evS_frs12, evE_ixo12, evS_aug12, evS_app13, evS_frz13, evS_frs13, evE_ixo13, evS_aug13, evS_app14, evS_frz14, evS_frs14, evE_ixo14, evS_aug14, evS_app15, evS_frz15, evS_frs15, evE_ixo15, evS_aug15, evS_app16, evS_frz16, evS_frs16, evE_ixo16, evS_aug16, evS_pass, evE_ife, ifE_t, ifE_f, it_rng1, it_rng2, c_isnN, c_isnI, c_isN, c_isI, c_isnL, c_isnT, c_isL, c_isT, o_band, o_shr, len_t0, tup_t, call_8, call_9, call_10, call_11, call_12, rb_ok, rb_bad, rb_exc, ra_ok, ra_bad, ra_exc, ft_nx, ft_rt, ft_bad, ft_xc, List.set_cons_zero, List.set_cons_succ, List.nil_append, List.cons_append, Bool.not_true, Bool.not_false, decide_true, decide_false, eq_self, Int.reduceEq, Bool.false_or, Bool.or_false, Bool.true_or, Bool.or_true, Bool.true_and, Bool.and_true, Bool.false_and, Bool.and_false, Bool.or_self, Bool.and_self]
theorem w_sent10 (p q r s : Int) {n1 n2 n3 n4 : Nat} [Bd n1 p] [Bd n2 q] [Bd n3 r] [Bd n4 s] (hn : n1 + n2 + n3 + n4 ≤ 1000000) : sem__law_sent [(PyData.tuple [PyData.int p, PyData.int q, PyData.int r, PyData.int s]), (PyData.tuple [PyData.int 1, PyData.int 0])] = .ok (PyData.tuple [PyData.int p, PyData.int r]) := by
  have h := w_sent p q r s 1 0 (by omega)
  simpa only [Int.mul_one, Int.mul_zero, Int.add_zero] using h
theorem w_sent01 (p q r s : Int) {n1 n2 n3 n4 : Nat} [Bd n1 p] [Bd n2 q] [Bd n3 r] [Bd n4 s] (hn : n1 + n2 + n3 + n4 ≤ 1000000) : sem__law_sent [(PyData.tuple [PyData.int p, PyData.int q, PyData.int r, PyData.int s]), (PyData.tuple [PyData.int 0, PyData.int 1])] = .ok (PyData.tuple [PyData.int q, PyData.int s]) := by
  have h := w_sent p q r s 0 1 (by omega)
  simpa only [Int.mul_one, Int.mul_zero, Int.zero_add] using h
theorem w_turned (a b c p q r s : Int) {n m l n1 n2 n3 n4 : Nat} [Bd n a] [Bd m b] [Bd l c] [Bd n1 p] [Bd n2 q] [Bd n3 r] [Bd n4 s] (hn : n + m + l + n1 + n2 + n3 + n4 ≤ 1000000) :
    sem__law_turned [(PyData.tuple [PyData.int a, PyData.int b, PyData.int c]), (PyData.tuple [PyData.int p, PyData.int q, PyData.int r, PyData.int s])] = .ok (PyData.tuple [PyData.int (a * p * p + b * p * r + c * r * r), PyData.int (a * (p + q) * (p + q) + b * (p + q) * (r + s) + c * (r + s) * (r + s) - (a * p * p + b * p * r + c * r * r) - (a * q * q + b * q * s + c * s * s)), PyData.int (a * q * q + b * q * s + c * s * s)]) := by
  show (evSs G__law_turned b__law_turned [some (.sh _), some (.sh _), none, none, none]).ans = _
  unfold b__law_turned G__law_turned
  simp (disch := first | exact mulOk_bd | assumption | omega) only [evE_v0, evE_v1, evE_v2, evE_v3, evE_v4, evE_v5, evE_v6, evE_v7, evE_v8, evE_v9, evE_v10, evE_int, evE_bl, evE_non, evE_str, evE_bin, evE_neg, evE_not, evE_cmp, evE_tup, evE_lst, evE_ix, evE_call, evE_bi, evE_sl, evE_isi, andB_t, andB_f, orB_t, orB_f, andB_b, orB_b, evE_and, evE_or, evAnd_one, evOr_one, evAnd_two, evOr_two, evEs_nil, evEs_cons, evSs_nil, evSs_cons, evS_ex, evS_ret, ifB_t, ifB_f, evS_ife, evS_raise, evS_for, seq_t, seq_l, it_seq, ans_nx, ans_rt, ans_xc, forL_nil, forL_cons, ix_t0, ix_t1, ix_t2, ix_t3, o_add, o_sub, o_mul, o_fdiv, o_mod, o_neg, o_not, c_lt, c_le, c_gt, c_ge, c_eq, c_ne, c_eq2, c_ne2, c_eq3, c_ne3, c_is, c_isnot, isi_tt, isi_lt, isi_it, isi_ii, isi_ib, isi_ll, len_t1, len_t2, len_t3, len_t4, len_l, abs_i, tup_l, part_0, part_1, sl_l, call_0, call_1, call_2, call_3, call_4, call_5, call_6, call_7, glob_0, glob_1, glob_2, evE_v11, evE_v12, evE_v13, evE_v14, evE_v15, evE_v16, evE_v17, evE_v18, evE_v19, evE_v20, evS_set0, evS_setL0, evS_set1, evS_setL1, evS_set2, evS_setL2, evS_set3, evS_setL3, evS_set4, evS_setL4, evS_set5, evS_setL5, evS_set6, evS_setL6, evS_set7, evS_setL7, evS_set8, evS_setL8, evS_set9, evS_setL9, evS_set10, evS_setL10, evS_set11, evS_setL11, evS_set12, evS_setL12, evS_set13, evS_setL13, evS_set14, evS_setL14, evS_set15, evS_setL15, evS_set16, evS_setL16, evS_set17, evS_setL17, evS_set18, evS_setL18, evS_set19, evS_setL19, evS_set20, evS_setL20, evS_app0, evS_frz0, evS_frs0, evE_ixo0, evS_aug0, evS_app1, evS_frz1, evS_frs1, evE_ixo1, evS_aug1, evS_app2, evS_frz2, evS_frs2, evE_ixo2, evS_aug2, evS_app3, evS_frz3, evS_frs3, evE_ixo3, evS_aug3, evS_app4, evS_frz4, evS_frs4, evE_ixo4, evS_aug4, evS_app5, evS_frz5, evS_frs5, evE_ixo5, evS_aug5, evS_app6, evS_frz6, evS_frs6, evE_ixo6, evS_aug6, evS_app7, evS_frz7, evS_frs7, evE_ixo7, evS_aug7, evS_app8, evS_frz8, evS_frs8, evE_ixo8, evS_aug8, evS_app9, evS_frz9, evS_frs9, evE_ixo9, evS_aug9, evS_app10, evS_frz10, evS_frs10, evE_ixo10, evS_aug10, evS_app11, evS_frz11, evS_frs11, evE_ixo11, evS_aug11, evS_app12, evS_frz12, evS_frs12, evE_ixo12, evS_aug12, evS_app13, evS_frz13, evS_frs13, evE_ixo13, evS_aug13, evS_app14, evS_frz14, evS_frs14, evE_ixo14, evS_aug14, evS_app15, evS_frz15, evS_frs15, evE_ixo15, evS_aug15, evS_app16, evS_frz16, evS_frs16, evE_ixo16, evS_aug16, evS_pass, evE_ife, ifE_t, ifE_f, it_rng1, it_rng2, c_isnN, c_isnI, c_isN, c_isI, c_isnL, c_isnT, c_isL, c_isT, o_band, o_shr, len_t0, tup_t, call_8, call_9, call_10, call_11, call_12, rb_ok, rb_bad, rb_exc, ra_ok, ra_bad, ra_exc, ft_nx, ft_rt, ft_bad, ft_xc, List.set_cons_zero, List.set_cons_succ, List.nil_append, List.cons_append, Bool.not_true, Bool.not_false, decide_true, decide_false, eq_self, Int.reduceEq, Bool.false_or, Bool.or_false, Bool.true_or, Bool.or_true, Bool.true_and, Bool.and_true, Bool.false_and, Bool.and_false, Bool.or_self, Bool.and_self, w_worth a b c p r (by omega), w_worth a b c q s (by omega), w_worth a b c (p + q) (r + s) (by omega)]
/-- a cell -/
def cell (ns : List Int) (k : Nat) : Int := ns.getD k 0
theorem w_cell (ns : List Int) (k : Nat) : sem__law_cell_at [.list (ns.map .int), .int k] = .ok (.int (cell ns k)) := by
  show (evSs G__law_cell_at b__law_cell_at [some (.sh _), some (.sh _)]).ans = _
  unfold b__law_cell_at G__law_cell_at
  simp (disch := first | exact mulOk_bd | assumption | omega) only [evE_v0, evE_v1, evE_v2, evE_v3, evE_v4, evE_v5, evE_v6, evE_v7, evE_v8, evE_v9, evE_v10, evE_int, evE_bl, evE_non, evE_str, evE_bin, evE_neg, evE_not, evE_cmp, evE_tup, evE_lst, evE_ix, evE_call, evE_bi, evE_sl, evE_isi, andB_t, andB_f, orB_t, orB_f, andB_b, orB_b, evE_and, evE_or, evAnd_one, evOr_one, evAnd_two, evOr_two, evEs_nil, evEs_cons, evSs_nil, evSs_cons, evS_ex, evS_ret, ifB_t, ifB_f, evS_ife, evS_raise, evS_for, seq_t, seq_l, it_seq, ans_nx, ans_rt, ans_xc, forL_nil, forL_cons, ix_t0, ix_t1, ix_t2, ix_t3, o_add, o_sub, o_mul, o_fdiv, o_mod, o_neg, o_not, c_lt, c_le, c_gt, c_ge, c_eq, c_ne, c_eq2, c_ne2, c_eq3, c_ne3, c_is, c_isnot, isi_tt, isi_lt, isi_it, isi_ii, isi_ib, isi_ll, len_t1, len_t2, len_t3, len_t4, len_l, abs_i, tup_l, part_0, part_1, sl_l, call_0, call_1, call_2, call_3, call_4, call_5, call_6, call_7, glob_0, glob_1, glob_2, evE_v11, evE_v12, evE_v13, evE_v14, evE_v15, evE_v16, evE_v17, evE_v18, evE_v19, evE_v20, evS_set0, evS_setL0, evS_set1, evS_setL1, evS_set2, evS_setL2, evS_set3, evS_setL3, evS_set4, evS_setL4, evS_set5, evS_setL5, evS_set6, evS_setL6, evS_set7, evS_setL7, evS_set8, evS_setL8, evS_set9, evS_setL9, evS_set10, evS_setL10, evS_set11, evS_setL11, evS_set12, evS_setL12, evS_set13, evS_setL13, evS_set14, evS_setL14, evS_set15, evS_setL15, evS_set16, evS_setL16, evS_set17, evS_setL17, evS_set18, evS_setL18, evS_set19, evS_setL19, evS_set20, evS_setL20, evS_app0, evS_frz0, evS_frs0, evE_ixo0, evS_aug0, evS_app1, evS_frz1, evS_frs1, evE_ixo1, evS_aug1, evS_app2, evS_frz2, evS_frs2, evE_ixo2, evS_aug2, evS_app3, evS_frz3, evS_frs3, evE_ixo3, evS_aug3, evS_app4, evS_frz4, evS_frs4, evE_ixo4, evS_aug4, evS_app5, evS_frz5, evS_frs5, evE_ixo5, evS_aug5, evS_app6, evS_frz6, evS_frs6, evE_ixo6, evS_aug6, evS_app7, evS_frz7, evS_frs7, evE_ixo7, evS_aug7, evS_app8, evS_frz8, evS_frs8, evE_ixo8, evS_aug8, evS_app9, evS_frz9, evS_frs9, evE_ixo9, evS_aug9, evS_app10, evS_frz10, evS_frs10, evE_ixo10, evS_aug10, evS_app11, evS_frz11, evS_frs11, evE_ixo11, evS_aug11, evS_app12, evS_frz12, evS_frs12, evE_ixo12, evS_aug12, evS_app13, evS_frz13, evS_frs13, evE_ixo13, evS_aug13, evS_app14, evS_frz14, evS_frs14, evE_ixo14, evS_aug14, evS_app15, evS_frz15, evS_frs15, evE_ixo15, evS_aug15, evS_app16, evS_frz16, evS_frs16, evE_ixo16, evS_aug16, evS_pass, evE_ife, ifE_t, ifE_f, it_rng1, it_rng2, c_isnN, c_isnI, c_isN, c_isI, c_isnL, c_isnT, c_isL, c_isT, o_band, o_shr, len_t0, tup_t, call_8, call_9, call_10, call_11, call_12, rb_ok, rb_bad, rb_exc, ra_ok, ra_bad, ra_exc, ft_nx, ft_rt, ft_bad, ft_xc, List.set_cons_zero, List.set_cons_succ, List.nil_append, List.cons_append, Bool.not_true, Bool.not_false, decide_true, decide_false, eq_self, Int.reduceEq, Bool.false_or, Bool.or_false, Bool.true_or, Bool.or_true, Bool.true_and, Bool.and_true, Bool.false_and, Bool.and_false, Bool.or_self, Bool.and_self, List.length_map]
  by_cases h : (k : Int) < (ns.length : Int)
  · have hk : k < ns.length := by omega
    have e : ixD (.list (ns.map PyData.int)) (.int k) = .ok (.int (cell ns k)) := by
      have e1 : atI (ns.map PyData.int) (k : Int) = some (.int (cell ns k)) := atI_nat (by
        rw [List.getElem?_map, List.getElem?_eq_getElem hk]
        show some (PyData.int ns[k]) = _
        unfold cell
        rw [List.getD_eq_getElem?_getD, List.getElem?_eq_getElem hk]
        rfl)
      unfold ixD
      dsimp only
      rw [e1]
    simp (disch := first | exact mulOk_bd | assumption | omega) only [evE_v0, evE_v1, evE_v2, evE_v3, evE_v4, evE_v5, evE_v6, evE_v7, evE_v8, evE_v9, evE_v10, evE_int, evE_bl, evE_non, evE_str, evE_bin, evE_neg, evE_not, evE_cmp, evE_tup, evE_lst, evE_ix, evE_call, evE_bi, evE_sl, evE_isi, andB_t, andB_f, orB_t, orB_f, andB_b, orB_b, evE_and, evE_or, evAnd_one, evOr_one, evAnd_two, evOr_two, evEs_nil, evEs_cons, evSs_nil, evSs_cons, evS_ex, evS_ret, ifB_t, ifB_f, evS_ife, evS_raise, evS_for, seq_t, seq_l, it_seq, ans_nx, ans_rt, ans_xc, forL_nil, forL_cons, ix_t0, ix_t1, ix_t2, ix_t3, o_add, o_sub, o_mul, o_fdiv, o_mod, o_neg, o_not, c_lt, c_le, c_gt, c_ge, c_eq, c_ne, c_eq2, c_ne2, c_eq3, c_ne3, c_is, c_isnot, isi_tt, isi_lt, isi_it, isi_ii, isi_ib, isi_ll, len_t1, len_t2, len_t3, len_t4, len_l, abs_i, tup_l, part_0, part_1, sl_l, call_0, call_1, call_2, call_3, call_4, call_5, call_6, call_7, glob_0, glob_1, glob_2, evE_v11, evE_v12, evE_v13, evE_v14, evE_v15, evE_v16, evE_v17, evE_v18, evE_v19, evE_v20, evS_set0, evS_setL0, evS_set1, evS_setL1, evS_set2, evS_setL2, evS_set3, evS_setL3, evS_set4, evS_setL4, evS_set5, evS_setL5, evS_set6, evS_setL6, evS_set7, evS_setL7, evS_set8, evS_setL8, evS_set9, evS_setL9, evS_set10, evS_setL10, evS_set11, evS_setL11, evS_set12, evS_setL12, evS_set13, evS_setL13, evS_set14, evS_setL14, evS_set15, evS_setL15, evS_set16, evS_setL16, evS_set17, evS_setL17, evS_set18, evS_setL18, evS_set19, evS_setL19, evS_set20, evS_setL20, evS_app0, evS_frz0, evS_frs0, evE_ixo0, evS_aug0, evS_app1, evS_frz1, evS_frs1, evE_ixo1, evS_aug1, evS_app2, evS_frz2, evS_frs2, evE_ixo2, evS_aug2, evS_app3, evS_frz3, evS_frs3, evE_ixo3, evS_aug3, evS_app4, evS_frz4, evS_frs4, evE_ixo4, evS_aug4, evS_app5, evS_frz5, evS_frs5, evE_ixo5, evS_aug5, evS_app6, evS_frz6, evS_frs6, evE_ixo6, evS_aug6, evS_app7, evS_frz7, evS_frs7, evE_ixo7, evS_aug7, evS_app8, evS_frz8, evS_frs8, evE_ixo8, evS_aug8, evS_app9, evS_frz9, evS_frs9, evE_ixo9, evS_aug9, evS_app10, evS_frz10, evS_frs10, evE_ixo10, evS_aug10, evS_app11, evS_frz11, evS_frs11, evE_ixo11, evS_aug11, evS_app12, evS_frz12, evS_frs12, evE_ixo12, evS_aug12, evS_app13, evS_frz13, evS_frs13, evE_ixo13, evS_aug13, evS_app14, evS_frz14, evS_frs14, evE_ixo14, evS_aug14, evS_app15, evS_frz15, evS_frs15, evE_ixo15, evS_aug15, evS_app16, evS_frz16, evS_frs16, evE_ixo16, evS_aug16, evS_pass, evE_ife, ifE_t, ifE_f, it_rng1, it_rng2, c_isnN, c_isnI, c_isN, c_isI, c_isnL, c_isnT, c_isL, c_isT, o_band, o_shr, len_t0, tup_t, call_8, call_9, call_10, call_11, call_12, rb_ok, rb_bad, rb_exc, ra_ok, ra_bad, ra_exc, ft_nx, ft_rt, ft_bad, ft_xc, List.set_cons_zero, List.set_cons_succ, List.nil_append, List.cons_append, Bool.not_true, Bool.not_false, decide_true, decide_false, eq_self, Int.reduceEq, Bool.false_or, Bool.or_false, Bool.true_or, Bool.or_true, Bool.true_and, Bool.and_true, Bool.false_and, Bool.and_false, Bool.or_self, Bool.and_self, decide_eq_true h, e]
  · simp (disch := first | exact mulOk_bd | assumption | omega) only [evE_v0, evE_v1, evE_v2, evE_v3, evE_v4, evE_v5, evE_v6, evE_v7, evE_v8, evE_v9, evE_v10, evE_int, evE_bl, evE_non, evE_str, evE_bin, evE_neg, evE_not, evE_cmp, evE_tup, evE_lst, evE_ix, evE_call, evE_bi, evE_sl, evE_isi, andB_t, andB_f, orB_t, orB_f, andB_b, orB_b, evE_and, evE_or, evAnd_one, evOr_one, evAnd_two, evOr_two, evEs_nil, evEs_cons, evSs_nil, evSs_cons, evS_ex, evS_ret, ifB_t, ifB_f, evS_ife, evS_raise, evS_for, seq_t, seq_l, it_seq, ans_nx, ans_rt, ans_xc, forL_nil, forL_cons, ix_t0, ix_t1, ix_t2, ix_t3, o_add, o_sub, o_mul, o_fdiv, o_mod, o_neg, o_not, c_lt, c_le, c_gt, c_ge, c_eq, c_ne, c_eq2, c_ne2, c_eq3, c_ne3, c_is, c_isnot, isi_tt, isi_lt, isi_it, isi_ii, isi_ib, isi_ll, len_t1, len_t2, len_t3, len_t4, len_l, abs_i, tup_l, part_0, part_1, sl_l, call_0, call_1, call_2, call_3, call_4, call_5, call_6, call_7, glob_0, glob_1, glob_2, evE_v11, evE_v12, evE_v13, evE_v14, evE_v15, evE_v16, evE_v17, evE_v18, evE_v19, evE_v20, evS_set0, evS_setL0, evS_set1, evS_setL1, evS_set2, evS_setL2, evS_set3, evS_setL3, evS_set4, evS_setL4, evS_set5, evS_setL5, evS_set6, evS_setL6, evS_set7, evS_setL7, evS_set8, evS_setL8, evS_set9, evS_setL9, evS_set10, evS_setL10, evS_set11, evS_setL11, evS_set12, evS_setL12, evS_set13, evS_setL13, evS_set14, evS_setL14, evS_set15, evS_setL15, evS_set16, evS_setL16, evS_set17, evS_setL17, evS_set18, evS_setL18, evS_set19, evS_setL19, evS_set20, evS_setL20, evS_app0, evS_frz0, evS_frs0, evE_ixo0, evS_aug0, evS_app1, evS_frz1, evS_frs1, evE_ixo1, evS_aug1, evS_app2, evS_frz2, evS_frs2, evE_ixo2, evS_aug2, evS_app3, evS_frz3, evS_frs3, evE_ixo3, evS_aug3, evS_app4, evS_frz4, evS_frs4, evE_ixo4, evS_aug4, evS_app5, evS_frz5, evS_frs5, evE_ixo5, evS_aug5, evS_app6, evS_frz6, evS_frs6, evE_ixo6, evS_aug6, evS_app7, evS_frz7, evS_frs7, evE_ixo7, evS_aug7, evS_app8, evS_frz8, evS_frs8, evE_ixo8, evS_aug8, evS_app9, evS_frz9, evS_frs9, evE_ixo9, evS_aug9, evS_app10, evS_frz10, evS_frs10, evE_ixo10, evS_aug10, evS_app11, evS_frz11, evS_frs11, evE_ixo11, evS_aug11, evS_app12, evS_frz12, evS_frs12, evE_ixo12, evS_aug12, evS_app13, evS_frz13, evS_frs13, evE_ixo13, evS_aug13, evS_app14, evS_frz14, evS_frs14, evE_ixo14, evS_aug14, evS_app15, evS_frz15, evS_frs15, evE_ixo15, evS_aug15, evS_app16, evS_frz16, evS_frs16, evE_ixo16, evS_aug16, evS_pass, evE_ife, ifE_t, ifE_f, it_rng1, it_rng2, c_isnN, c_isnI, c_isN, c_isI, c_isnL, c_isnT, c_isL, c_isT, o_band, o_shr, len_t0, tup_t, call_8, call_9, call_10, call_11, call_12, rb_ok, rb_bad, rb_exc, ra_ok, ra_bad, ra_exc, ft_nx, ft_rt, ft_bad, ft_xc, List.set_cons_zero, List.set_cons_succ, List.nil_append, List.cons_append, Bool.not_true, Bool.not_false, decide_true, decide_false, eq_self, Int.reduceEq, Bool.false_or, Bool.or_false, Bool.true_or, Bool.or_true, Bool.true_and, Bool.and_true, Bool.false_and, Bool.and_false, Bool.or_self, Bool.and_self, decide_eq_false h]
    have : cell ns k = 0 := by
      unfold cell
      rw [List.getD_eq_getElem?_getD, List.getElem?_eq_none (by omega)]
      rfl
    rw [this]
end FT

namespace FT
open PySem PySem.Spec PyProof.Rows L2
instance Bd.l7919 : Bd 13 7919 := ⟨by decide⟩
instance Bd.l50 : Bd 6 50 := ⟨by decide⟩
instance Bd.l48271 : Bd 16 48271 := ⟨by decide⟩
/-- the script's numbers -/
abbrev Small (i : Int) : Prop := Bd 1048577 i
theorem small_of {ns : List Int} (h : ∀ z ∈ ns, Builtin.Int.intBits z ≤ 1048576) : ∀ z ∈ ns, Small z := fun z hz => (Bd.of_bits (h z hz)).up (by decide)
theorem small_cell {ns : List Int} (h : ∀ z ∈ ns, Small z) (k : Nat) : Small (cell ns k) := by
  unfold cell
  rw [List.getD_eq_getElem?_getD]
  cases e : ns[k]? with
  | none => exact Bd.zero.up (Nat.zero_le _)
  | some z => exact h z (List.mem_of_getElem? e)
def great (c o : Int) : Int := if o % 5 = 0 then (c * 7919 + o) ^ (2 : Int).toNat % 10 ^ (40 : Int).toNat else c % 50
theorem o_pow1040 : op2 .pow (.int 10) (.int 40) = .ok (.int (10 ^ (40 : Int).toNat)) := by
  show (bif powOk 10 40 then R.ok (PyData.int (10 ^ (40 : Int).toNat)) else R.bad) = _
  rw [show powOk 10 40 = true by decide +kernel]
  rfl
theorem o_sq {n : Nat} {i : Int} [h : Bd n i] (l : n ≤ 60000000) : op2 .pow (.int i) (.int 2) = .ok (.int (i ^ (2 : Int).toNat)) := by
  show (bif powOk i 2 then R.ok (PyData.int (i ^ (2 : Int).toNat)) else R.bad) = _
  have : powOk i 2 = true := by
    unfold powOk
    have x := PyProof.Rows.intBits_le h.lt
    rw [decide_eq_true (show (0 : Int) ≤ 2 by decide), Bool.true_and]
    refine decide_eq_true ?_
    have e : (2 : Int) ^ 27 = 134217728 := by decide
    rw [e]
    omega
  rw [this]
  rfl
theorem ten40 : (10 : Int) ^ (40 : Int).toNat = 10000000000000000000000000000000000000000 := by decide +kernel
theorem great_bd (c o : Int) : 0 ≤ great c o ∧ great c o < 10000000000000000000000000000000000000000 := by
  unfold great
  rw [ten40]
  split
  · exact ⟨Int.emod_nonneg _ (by decide), Int.emod_lt_of_pos _ (by decide)⟩
  · have h1 := Int.emod_nonneg c (show (50 : Int) ≠ 0 by decide)
    have h2 := Int.emod_lt_of_pos c (show (0 : Int) < 50 by decide)
    exact ⟨h1, by omega⟩
instance great_Bd (c o : Int) : Bd 133 (great c o) := by
  obtain ⟨h1, h2⟩ := great_bd c o
  refine Bd.of_lt (Int.lt_of_lt_of_le (by decide +kernel) h1) (Int.lt_trans h2 (by decide +kernel))
theorem w_great (c o : Int) [Bd 1048580 c] [Bd 1048580 o] : sem__law_great [.int c, .int o] = .ok (.int (great c o)) := by
  show (evSs G__law_great b__law_great [some (.sh _), some (.sh _)]).ans = _
  unfold b__law_great G__law_great great
  by_cases h : o % 5 = 0
  · have e : (0 : Int) < 10 ^ (40 : Int).toNat := by rw [ten40]; decide
    simp (disch := first | exact mulOk_bd | assumption | omega) only [evE_v0, evE_v1, evE_v2, evE_v3, evE_v4, evE_v5, evE_v6, evE_v7, evE_v8, evE_v9, evE_v10, evE_int, evE_bl, evE_non, evE_str, evE_bin, evE_neg, evE_not, evE_cmp, evE_tup, evE_lst, evE_ix, evE_call, evE_bi, evE_sl, evE_isi, andB_t, andB_f, orB_t, orB_f, andB_b, orB_b, evE_and, evE_or, evAnd_one, evOr_one, evAnd_two, evOr_two, evEs_nil, evEs_cons, evSs_nil, evSs_cons, evS_ex, evS_ret, ifB_t, ifB_f, evS_ife, evS_raise, evS_for, seq_t, seq_l, it_seq, ans_nx, ans_rt, ans_xc, forL_nil, forL_cons, ix_t0, ix_t1, ix_t2, ix_t3, o_add, o_sub, o_mul, o_fdiv, o_mod, o_neg, o_not, c_lt, c_le, c_gt, c_ge, c_eq, c_ne, c_eq2, c_ne2, c_eq3, c_ne3, c_is, c_isnot, isi_tt, isi_lt, isi_it, isi_ii, isi_ib, isi_ll, len_t1, len_t2, len_t3, len_t4, len_l, abs_i, tup_l, part_0, part_1, sl_l, call_0, call_1, call_2, call_3, call_4, call_5, call_6, call_7, glob_0, glob_1, glob_2, evE_v11, evE_v12, evE_v13, evE_v14, evE_v15, evE_v16, evE_v17, evE_v18, evE_v19, evE_v20, evS_set0, evS_setL0, evS_set1, evS_setL1, evS_set2, evS_setL2, evS_set3, evS_setL3, evS_set4, evS_setL4, evS_set5, evS_setL5, evS_set6, evS_setL6, evS_set7, evS_setL7, evS_set8, evS_setL8, evS_set9, evS_setL9, evS_set10, evS_setL10, evS_set11, evS_setL11, evS_set12, evS_setL12, evS_set13, evS_setL13, evS_set14, evS_setL14, evS_set15, evS_setL15, evS_set16, evS_setL16, evS_set17, evS_setL17, evS_set18, evS_setL18, evS_set19, evS_setL19, evS_set20, evS_setL20, evS_app0, evS_frz0, evS_frs0, evE_ixo0, evS_aug0, evS_app1, evS_frz1, evS_frs1, evE_ixo1, evS_aug1, evS_app2, evS_frz2, evS_frs2, evE_ixo2, evS_aug2, evS_app3, evS_frz3, evS_frs3, evE_ixo3, evS_aug3, evS_app4, evS_frz4, evS_frs4, evE_ixo4, evS_aug4, evS_app5, evS_frz5, evS_frs5, evE_ixo5, evS_aug5, evS_app6, evS_frz6, evS_frs6, evE_ixo6, evS_aug6, evS_app7, evS_frz7, evS_frs7, evE_ixo7, evS_aug7, evS_app8, evS_frz8, evS_frs8, evE_ixo8, evS_aug8, evS_app9, evS_frz9, evS_frs9, evE_ixo9, evS_aug9, evS_app10, evS_frz10, evS_frs10, evE_ixo10, evS_aug10, evS_app11, evS_frz11, evS_frs11, evE_ixo11, evS_aug11, evS_app12, evS_frz12, evS_frs12, evE_ixo12, evS_aug12, evS_app13, evS_frz13, evS_frs13, evE_ixo13, evS_aug13, evS_app14, evS_frz14, evS_frs14, evE_ixo14, evS_aug14, evS_app15, evS_frz15, evS_frs15, evE_ixo15, evS_aug15, evS_app16, evS_frz16, evS_frs16, evE_ixo16, evS_aug16, evS_pass, evE_ife, ifE_t, ifE_f, it_rng1, it_rng2, c_isnN, c_isnI, c_isN, c_isI, c_isnL, c_isnT, c_isL, c_isT, o_band, o_shr, len_t0, tup_t, call_8, call_9, call_10, call_11, call_12, rb_ok, rb_bad, rb_exc, ra_ok, ra_bad, ra_exc, ft_nx, ft_rt, ft_bad, ft_xc, List.set_cons_zero, List.set_cons_succ, List.nil_append, List.cons_append, Bool.not_true, Bool.not_false, decide_true, decide_false, eq_self, Int.reduceEq, Bool.false_or, Bool.or_false, Bool.true_or, Bool.or_true, Bool.true_and, Bool.and_true, Bool.false_and, Bool.and_false, Bool.or_self, Bool.and_self, h, o_pow1040, o_sq (i := c * 7919 + o) (by omega), o_mod e, if_true]
  · simp (disch := first | exact mulOk_bd | assumption | omega) only [evE_v0, evE_v1, evE_v2, evE_v3, evE_v4, evE_v5, evE_v6, evE_v7, evE_v8, evE_v9, evE_v10, evE_int, evE_bl, evE_non, evE_str, evE_bin, evE_neg, evE_not, evE_cmp, evE_tup, evE_lst, evE_ix, evE_call, evE_bi, evE_sl, evE_isi, andB_t, andB_f, orB_t, orB_f, andB_b, orB_b, evE_and, evE_or, evAnd_one, evOr_one, evAnd_two, evOr_two, evEs_nil, evEs_cons, evSs_nil, evSs_cons, evS_ex, evS_ret, ifB_t, ifB_f, evS_ife, evS_raise, evS_for, seq_t, seq_l, it_seq, ans_nx, ans_rt, ans_xc, forL_nil, forL_cons, ix_t0, ix_t1, ix_t2, ix_t3, o_add, o_sub, o_mul, o_fdiv, o_mod, o_neg, o_not, c_lt, c_le, c_gt, c_ge, c_eq, c_ne, c_eq2, c_ne2, c_eq3, c_ne3, c_is, c_isnot, isi_tt, isi_lt, isi_it, isi_ii, isi_ib, isi_ll, len_t1, len_t2, len_t3, len_t4, len_l, abs_i, tup_l, part_0, part_1, sl_l, call_0, call_1, call_2, call_3, call_4, call_5, call_6, call_7, glob_0, glob_1, glob_2, evE_v11, evE_v12, evE_v13, evE_v14, evE_v15, evE_v16, evE_v17, evE_v18, evE_v19, evE_v20, evS_set0, evS_setL0, evS_set1, evS_setL1, evS_set2, evS_setL2, evS_set3, evS_setL3, evS_set4, evS_setL4, evS_set5, evS_setL5, evS_set6, evS_setL6, evS_set7, evS_setL7, evS_set8, evS_setL8, evS_set9, evS_setL9, evS_set10, evS_setL10, evS_set11, evS_setL11, evS_set12, evS_setL12, evS_set13, evS_setL13, evS_set14, evS_setL14, evS_set15, evS_setL15, evS_set16, evS_setL16, evS_set17, evS_setL17, evS_set18, evS_setL18, evS_set19, evS_setL19, evS_set20, evS_setL20, evS_app0, evS_frz0, evS_frs0, evE_ixo0, evS_aug0, evS_app1, evS_frz1, evS_frs1, evE_ixo1, evS_aug1, evS_app2, evS_frz2, evS_frs2, evE_ixo2, evS_aug2, evS_app3, evS_frz3, evS_frs3, evE_ixo3, evS_aug3, evS_app4, evS_frz4, evS_frs4, evE_ixo4, evS_aug4, evS_app5, evS_frz5, evS_frs5, evE_ixo5, evS_aug5, evS_app6, evS_frz6, evS_frs6, evE_ixo6, evS_aug6, evS_app7, evS_frz7, evS_frs7, evE_ixo7, evS_aug7, evS_app8, evS_frz8, evS_frs8, evE_ixo8, evS_aug8, evS_app9, evS_frz9, evS_frs9, evE_ixo9, evS_aug9, evS_app10, evS_frz10, evS_frs10, evE_ixo10, evS_aug10, evS_app11, evS_frz11, evS_frs11, evE_ixo11, evS_aug11, evS_app12, evS_frz12, evS_frs12, evE_ixo12, evS_aug12, evS_app13, evS_frz13, evS_frs13, evE_ixo13, evS_aug13, evS_app14, evS_frz14, evS_frs14, evE_ixo14, evS_aug14, evS_app15, evS_frz15, evS_frs15, evE_ixo15, evS_aug15, evS_app16, evS_frz16, evS_frs16, evE_ixo16, evS_aug16, evS_pass, evE_ife, ifE_t, ifE_f, it_rng1, it_rng2, c_isnN, c_isnI, c_isN, c_isI, c_isnL, c_isnT, c_isL, c_isT, o_band, o_shr, len_t0, tup_t, call_8, call_9, call_10, call_11, call_12, rb_ok, rb_bad, rb_exc, ra_ok, ra_bad, ra_exc, ft_nx, ft_rt, ft_bad, ft_xc, List.set_cons_zero, List.set_cons_succ, List.nil_append, List.cons_append, Bool.not_true, Bool.not_false, decide_true, decide_false, eq_self, Int.reduceEq, Bool.false_or, Bool.or_false, Bool.true_or, Bool.or_true, Bool.true_and, Bool.and_true, Bool.false_and, Bool.and_false, Bool.or_self, Bool.and_self, decide_eq_false h]
    rw [if_neg h]
theorem w_form_by (ns : List Int) (hs : ∀ z ∈ ns, Small z) (k : Nat) : ∃ a b c, sem__law_form_by [.list (ns.map .int), .int k] = .ok (PyData.tuple [PyData.int a, PyData.int b, PyData.int c]) ∧ 0 < a ∧ b * b < 4 * a * c ∧ Bd 140 a ∧ Bd 140 b ∧ Bd 300 c := by
  have c0 := w_cell ns k
  have c1 : sem__law_cell_at [.list (ns.map .int), .int (k + 1)] = _ := w_cell ns (k + 1)
  have c2 : sem__law_cell_at [.list (ns.map .int), .int (k + 2)] = _ := w_cell ns (k + 2)
  have c3 : sem__law_cell_at [.list (ns.map .int), .int (k + 3)] = _ := w_cell ns (k + 3)
  have s0 := (small_cell hs k).up (show 1048577 ≤ 1048580 by decide)
  have s1 := (small_cell hs (k + 1)).up (show 1048577 ≤ 1048580 by decide)
  have s2 := (small_cell hs (k + 2)).up (show 1048577 ≤ 1048580 by decide)
  have s3 := (small_cell hs (k + 3)).up (show 1048577 ≤ 1048580 by decide)
  have s4 : Bd 1048580 (cell ns (k + 3) / 5) := Bd.up (n := 1048578) (Bd.div (h := small_cell hs (k + 3))) (by decide)
  have s5 : Bd 1048580 (1 + cell ns (k + 3) / 25) := Bd.up (n := max 1 1048578 + 1) (Bd.add (k := Bd.div (h := small_cell hs (k + 3)))) (by decide)
  generalize cell ns k = x0 at *
  generalize cell ns (k + 1) = x1 at *
  generalize cell ns (k + 2) = x2 at *
  generalize cell ns (k + 3) = x3 at *
  have g0 := w_great x0 x3
  have g1 := w_great x1 (x3 / 5)
  have g2 := w_great x2 (1 + x3 / 25)
  have h0 := great_bd x0 x3
  have h2 := great_bd x2 (1 + x3 / 25)
  have B0 := great_Bd x0 x3
  have B1 := great_Bd x1 (x3 / 5)
  have B2 := great_Bd x2 (1 + x3 / 25)
  generalize great x0 x3 = a0 at *
  generalize great x1 (x3 / 5) = b0 at *
  generalize great x2 (1 + x3 / 25) = q0 at *
  show ∃ a b c, (evSs G__law_form_by b__law_form_by [some (.sh _), some (.sh _), none, none, none]).ans = _ ∧ _
  unfold b__law_form_by G__law_form_by
  have main : ∀ b : Int, Bd 133 b → 0 < 1 + a0 ∧ b * b < 4 * (1 + a0) * (b * b / (4 * (1 + a0)) + 1 + q0) ∧ Bd 140 (1 + a0) ∧ Bd 140 b ∧ Bd 300 (b * b / (4 * (1 + a0)) + 1 + q0) := fun b hb => by
    have p1 : 0 < 4 * (1 + a0) := by omega
    have e1 := Int.emod_add_mul_ediv (b * b) (4 * (1 + a0))
    have e2 := Int.emod_lt_of_pos (b * b) p1
    have e3 : 0 ≤ 4 * (1 + a0) * q0 := Int.mul_nonneg (by omega) h2.1
    refine ⟨by omega, ?_, Bd.get, hb.up (by omega), Bd.get⟩
    rw [Int.mul_add, Int.mul_add, Int.mul_one]
    omega
  have p0 : 0 < 4 * (1 + a0) := by omega
  have dv : divOk (4 * (1 + a0)) = true := divOk_bd p0
  by_cases h : x1 / 50 % 2 = 1
  · refine ⟨1 + a0, -b0, (-b0) * (-b0) / (4 * (1 + a0)) + 1 + q0, ?_, main (-b0) inferInstance⟩
    simp (disch := first | exact mulOk_bd | assumption | omega) only [evE_v0, evE_v1, evE_v2, evE_v3, evE_v4, evE_v5, evE_v6, evE_v7, evE_v8, evE_v9, evE_v10, evE_int, evE_bl, evE_non, evE_str, evE_bin, evE_neg, evE_not, evE_cmp, evE_tup, evE_lst, evE_ix, evE_call, evE_bi, evE_sl, evE_isi, andB_t, andB_f, orB_t, orB_f, andB_b, orB_b, evE_and, evE_or, evAnd_one, evOr_one, evAnd_two, evOr_two, evEs_nil, evEs_cons, evSs_nil, evSs_cons, evS_ex, evS_ret, ifB_t, ifB_f, evS_ife, evS_raise, evS_for, seq_t, seq_l, it_seq, ans_nx, ans_rt, ans_xc, forL_nil, forL_cons, ix_t0, ix_t1, ix_t2, ix_t3, o_add, o_sub, o_mul, o_fdiv, o_mod, o_neg, o_not, c_lt, c_le, c_gt, c_ge, c_eq, c_ne, c_eq2, c_ne2, c_eq3, c_ne3, c_is, c_isnot, isi_tt, isi_lt, isi_it, isi_ii, isi_ib, isi_ll, len_t1, len_t2, len_t3, len_t4, len_l, abs_i, tup_l, part_0, part_1, sl_l, call_0, call_1, call_2, call_3, call_4, call_5, call_6, call_7, glob_0, glob_1, glob_2, evE_v11, evE_v12, evE_v13, evE_v14, evE_v15, evE_v16, evE_v17, evE_v18, evE_v19, evE_v20, evS_set0, evS_setL0, evS_set1, evS_setL1, evS_set2, evS_setL2, evS_set3, evS_setL3, evS_set4, evS_setL4, evS_set5, evS_setL5, evS_set6, evS_setL6, evS_set7, evS_setL7, evS_set8, evS_setL8, evS_set9, evS_setL9, evS_set10, evS_setL10, evS_set11, evS_setL11, evS_set12, evS_setL12, evS_set13, evS_setL13, evS_set14, evS_setL14, evS_set15, evS_setL15, evS_set16, evS_setL16, evS_set17, evS_setL17, evS_set18, evS_setL18, evS_set19, evS_setL19, evS_set20, evS_setL20, evS_app0, evS_frz0, evS_frs0, evE_ixo0, evS_aug0, evS_app1, evS_frz1, evS_frs1, evE_ixo1, evS_aug1, evS_app2, evS_frz2, evS_frs2, evE_ixo2, evS_aug2, evS_app3, evS_frz3, evS_frs3, evE_ixo3, evS_aug3, evS_app4, evS_frz4, evS_frs4, evE_ixo4, evS_aug4, evS_app5, evS_frz5, evS_frs5, evE_ixo5, evS_aug5, evS_app6, evS_frz6, evS_frs6, evE_ixo6, evS_aug6, evS_app7, evS_frz7, evS_frs7, evE_ixo7, evS_aug7, evS_app8, evS_frz8, evS_frs8, evE_ixo8, evS_aug8, evS_app9, evS_frz9, evS_frs9, evE_ixo9, evS_aug9, evS_app10, evS_frz10, evS_frs10, evE_ixo10, evS_aug10, evS_app11, evS_frz11, evS_frs11, evE_ixo11, evS_aug11, evS_app12, evS_frz12, evS_frs12, evE_ixo12, evS_aug12, evS_app13, evS_frz13, evS_frs13, evE_ixo13, evS_aug13, evS_app14, evS_frz14, evS_frs14, evE_ixo14, evS_aug14, evS_app15, evS_frz15, evS_frs15, evE_ixo15, evS_aug15, evS_app16, evS_frz16, evS_frs16, evE_ixo16, evS_aug16, evS_pass, evE_ife, ifE_t, ifE_f, it_rng1, it_rng2, c_isnN, c_isnI, c_isN, c_isI, c_isnL, c_isnT, c_isL, c_isT, o_band, o_shr, len_t0, tup_t, call_8, call_9, call_10, call_11, call_12, rb_ok, rb_bad, rb_exc, ra_ok, ra_bad, ra_exc, ft_nx, ft_rt, ft_bad, ft_xc, List.set_cons_zero, List.set_cons_succ, List.nil_append, List.cons_append, Bool.not_true, Bool.not_false, decide_true, decide_false, eq_self, Int.reduceEq, Bool.false_or, Bool.or_false, Bool.true_or, Bool.or_true, Bool.true_and, Bool.and_true, Bool.false_and, Bool.and_false, Bool.or_self, Bool.and_self, c0, c1, c2, c3, g0, g1, g2, h, o_fdiv dv, o_fdiv (show divOk 5 = true by decide +kernel), o_fdiv (show divOk 50 = true by decide +kernel), o_fdiv (show divOk 25 = true by decide +kernel)]
  · refine ⟨1 + a0, b0, b0 * b0 / (4 * (1 + a0)) + 1 + q0, ?_, main b0 B1⟩
    simp (disch := first | exact mulOk_bd | assumption | omega) only [evE_v0, evE_v1, evE_v2, evE_v3, evE_v4, evE_v5, evE_v6, evE_v7, evE_v8, evE_v9, evE_v10, evE_int, evE_bl, evE_non, evE_str, evE_bin, evE_neg, evE_not, evE_cmp, evE_tup, evE_lst, evE_ix, evE_call, evE_bi, evE_sl, evE_isi, andB_t, andB_f, orB_t, orB_f, andB_b, orB_b, evE_and, evE_or, evAnd_one, evOr_one, evAnd_two, evOr_two, evEs_nil, evEs_cons, evSs_nil, evSs_cons, evS_ex, evS_ret, ifB_t, ifB_f, evS_ife, evS_raise, evS_for, seq_t, seq_l, it_seq, ans_nx, ans_rt, ans_xc, forL_nil, forL_cons, ix_t0, ix_t1, ix_t2, ix_t3, o_add, o_sub, o_mul, o_fdiv, o_mod, o_neg, o_not, c_lt, c_le, c_gt, c_ge, c_eq, c_ne, c_eq2, c_ne2, c_eq3, c_ne3, c_is, c_isnot, isi_tt, isi_lt, isi_it, isi_ii, isi_ib, isi_ll, len_t1, len_t2, len_t3, len_t4, len_l, abs_i, tup_l, part_0, part_1, sl_l, call_0, call_1, call_2, call_3, call_4, call_5, call_6, call_7, glob_0, glob_1, glob_2, evE_v11, evE_v12, evE_v13, evE_v14, evE_v15, evE_v16, evE_v17, evE_v18, evE_v19, evE_v20, evS_set0, evS_setL0, evS_set1, evS_setL1, evS_set2, evS_setL2, evS_set3, evS_setL3, evS_set4, evS_setL4, evS_set5, evS_setL5, evS_set6, evS_setL6, evS_set7, evS_setL7, evS_set8, evS_setL8, evS_set9, evS_setL9, evS_set10, evS_setL10, evS_set11, evS_setL11, evS_set12, evS_setL12, evS_set13, evS_setL13, evS_set14, evS_setL14, evS_set15, evS_setL15, evS_set16, evS_setL16, evS_set17, evS_setL17, evS_set18, evS_setL18, evS_set19, evS_setL19, evS_set20, evS_setL20, evS_app0, evS_frz0, evS_frs0, evE_ixo0, evS_aug0, evS_app1, evS_frz1, evS_frs1, evE_ixo1, evS_aug1, evS_app2, evS_frz2, evS_frs2, evE_ixo2, evS_aug2, evS_app3, evS_frz3, evS_frs3, evE_ixo3, evS_aug3, evS_app4, evS_frz4, evS_frs4, evE_ixo4, evS_aug4, evS_app5, evS_frz5, evS_frs5, evE_ixo5, evS_aug5, evS_app6, evS_frz6, evS_frs6, evE_ixo6, evS_aug6, evS_app7, evS_frz7, evS_frs7, evE_ixo7, evS_aug7, evS_app8, evS_frz8, evS_frs8, evE_ixo8, evS_aug8, evS_app9, evS_frz9, evS_frs9, evE_ixo9, evS_aug9, evS_app10, evS_frz10, evS_frs10, evE_ixo10, evS_aug10, evS_app11, evS_frz11, evS_frs11, evE_ixo11, evS_aug11, evS_app12, evS_frz12, evS_frs12, evE_ixo12, evS_aug12, evS_app13, evS_frz13, evS_frs13, evE_ixo13, evS_aug13, evS_app14, evS_frz14, evS_frs14, evE_ixo14, evS_aug14, evS_app15, evS_frz15, evS_frs15, evE_ixo15, evS_aug15, evS_app16, evS_frz16, evS_frs16, evE_ixo16, evS_aug16, evS_pass, evE_ife, ifE_t, ifE_f, it_rng1, it_rng2, c_isnN, c_isnI, c_isN, c_isI, c_isnL, c_isnT, c_isL, c_isT, o_band, o_shr, len_t0, tup_t, call_8, call_9, call_10, call_11, call_12, rb_ok, rb_bad, rb_exc, ra_ok, ra_bad, ra_exc, ft_nx, ft_rt, ft_bad, ft_xc, List.set_cons_zero, List.set_cons_succ, List.nil_append, List.cons_append, Bool.not_true, Bool.not_false, decide_true, decide_false, eq_self, Int.reduceEq, Bool.false_or, Bool.or_false, Bool.true_or, Bool.or_true, Bool.true_and, Bool.and_true, Bool.false_and, Bool.and_false, Bool.or_self, Bool.and_self, c0, c1, c2, c3, g0, g1, g2, decide_eq_false h, o_fdiv dv, o_fdiv (show divOk 5 = true by decide +kernel), o_fdiv (show divOk 50 = true by decide +kernel), o_fdiv (show divOk 25 = true by decide +kernel)]
/-! ### a turning made of steps -/
def stepK (x : Int) : Int := if x % 11 = 5 then x * 48271 % 2000003 - 1000001 else x % 7 - 3
theorem stepK_bd (x : Int) : Bd 21 (stepK x) := by
  unfold stepK
  split
  · have h1 := Int.emod_nonneg (x * 48271) (show (2000003 : Int) ≠ 0 by decide)
    have h2 := Int.emod_lt_of_pos (x * 48271) (show (0 : Int) < 2000003 by decide)
    exact Bd.of_lt (by omega) (by omega)
  · have h1 := Int.emod_nonneg x (show (7 : Int) ≠ 0 by decide)
    have h2 := Int.emod_lt_of_pos x (show (0 : Int) < 7 by decide)
    exact Bd.of_lt (by omega) (by omega)
def stepT (x : Int) (t : Int × Int × Int × Int) : Int × Int × Int × Int := (t.1 * stepK x + t.2.1, -t.1, t.2.2.1 * stepK x + t.2.2.2, -t.2.2.1)
theorem steps_loop :
    ∀ (ns : List Int) (n : Nat) (p q r s : Int) (d : D) (s2 s3 : Option Sl), (∀ z ∈ ns, Small z) → n + 22 * ns.length ≤ 100000 → Bd n p → Bd n q → Bd n r → Bd n s → p * s - q * r = 1 →
      ∃ p' q' r' s' t2 t3, forL (fun d ρ => evSs G__law_steps w1__law_steps (ρ.set 2 (some (.sh d)))) (ns.map PyData.int) [some (.sh d), some (.sh (PyData.tuple [PyData.int p, PyData.int q, PyData.int r, PyData.int s])), s2, s3] = .nx [some (.sh d), some (.sh (PyData.tuple [PyData.int p', PyData.int q', PyData.int r', PyData.int s'])), t2, t3] ∧
        Bd (n + 22 * ns.length) p' ∧ Bd (n + 22 * ns.length) q' ∧ Bd (n + 22 * ns.length) r' ∧ Bd (n + 22 * ns.length) s' ∧ p' * s' - q' * r' = 1
  | [], n, p, q, r, s, d, s2, s3, _, _, h1, h2, h3, h4, hd => ⟨p, q, r, s, s2, s3, rfl, h1, h2, h3, h4, hd⟩
  | x :: ns, n, p, q, r, s, d, s2, s3, hz, hn, h1, h2, h3, h4, hd => by
    have hx := hz x List.mem_cons_self
    have hk := stepK_bd x
    rw [List.length_cons] at hn
    have e : evSs G__law_steps w1__law_steps [some (.sh d), some (.sh (PyData.tuple [PyData.int p, PyData.int q, PyData.int r, PyData.int s])), some (.sh (.int x)), s3] = .nx [some (.sh d), some (.sh (PyData.tuple [PyData.int (p * stepK x + q), PyData.int (-p), PyData.int (r * stepK x + s), PyData.int (-r)])), some (.sh (.int x)), some (.sh (.int (stepK x)))] := by
      unfold w1__law_steps
      by_cases h : x % 11 = 5
      · have ek : stepK x = x * 48271 % 2000003 - 1000001 := by unfold stepK; rw [if_pos h]
        rw [ek] at hk ⊢
        simp (disch := first | exact mulOk_bd | assumption | omega) only [evE_v0, evE_v1, evE_v2, evE_v3, evE_v4, evE_v5, evE_v6, evE_v7, evE_v8, evE_v9, evE_v10, evE_int, evE_bl, evE_non, evE_str, evE_bin, evE_neg, evE_not, evE_cmp, evE_tup, evE_lst, evE_ix, evE_call, evE_bi, evE_sl, evE_isi, andB_t, andB_f, orB_t, orB_f, andB_b, orB_b, evE_and, evE_or, evAnd_one, evOr_one, evAnd_two, evOr_two, evEs_nil, evEs_cons, evSs_nil, evSs_cons, evS_ex, evS_ret, ifB_t, ifB_f, evS_ife, evS_raise, evS_for, seq_t, seq_l, it_seq, ans_nx, ans_rt, ans_xc, forL_nil, forL_cons, ix_t0, ix_t1, ix_t2, ix_t3, o_add, o_sub, o_mul, o_fdiv, o_mod, o_neg, o_not, c_lt, c_le, c_gt, c_ge, c_eq, c_ne, c_eq2, c_ne2, c_eq3, c_ne3, c_is, c_isnot, isi_tt, isi_lt, isi_it, isi_ii, isi_ib, isi_ll, len_t1, len_t2, len_t3, len_t4, len_l, abs_i, tup_l, part_0, part_1, sl_l, call_0, call_1, call_2, call_3, call_4, call_5, call_6, call_7, glob_0, glob_1, glob_2, evE_v11, evE_v12, evE_v13, evE_v14, evE_v15, evE_v16, evE_v17, evE_v18, evE_v19, evE_v20, evS_set0, evS_setL0, evS_set1, evS_setL1, evS_set2, evS_setL2, evS_set3, evS_setL3, evS_set4, evS_setL4, evS_set5, evS_setL5, evS_set6, evS_setL6, evS_set7, evS_setL7, evS_set8, evS_setL8, evS_set9, evS_setL9, evS_set10, evS_setL10, evS_set11, evS_setL11, evS_set12, evS_setL12, evS_set13, evS_setL13, evS_set14, evS_setL14, evS_set15, evS_setL15, evS_set16, evS_setL16, evS_set17, evS_setL17, evS_set18, evS_setL18, evS_set19, evS_setL19, evS_set20, evS_setL20, evS_app0, evS_frz0, evS_frs0, evE_ixo0, evS_aug0, evS_app1, evS_frz1, evS_frs1, evE_ixo1, evS_aug1, evS_app2, evS_frz2, evS_frs2, evE_ixo2, evS_aug2, evS_app3, evS_frz3, evS_frs3, evE_ixo3, evS_aug3, evS_app4, evS_frz4, evS_frs4, evE_ixo4, evS_aug4, evS_app5, evS_frz5, evS_frs5, evE_ixo5, evS_aug5, evS_app6, evS_frz6, evS_frs6, evE_ixo6, evS_aug6, evS_app7, evS_frz7, evS_frs7, evE_ixo7, evS_aug7, evS_app8, evS_frz8, evS_frs8, evE_ixo8, evS_aug8, evS_app9, evS_frz9, evS_frs9, evE_ixo9, evS_aug9, evS_app10, evS_frz10, evS_frs10, evE_ixo10, evS_aug10, evS_app11, evS_frz11, evS_frs11, evE_ixo11, evS_aug11, evS_app12, evS_frz12, evS_frs12, evE_ixo12, evS_aug12, evS_app13, evS_frz13, evS_frs13, evE_ixo13, evS_aug13, evS_app14, evS_frz14, evS_frs14, evE_ixo14, evS_aug14, evS_app15, evS_frz15, evS_frs15, evE_ixo15, evS_aug15, evS_app16, evS_frz16, evS_frs16, evE_ixo16, evS_aug16, evS_pass, evE_ife, ifE_t, ifE_f, it_rng1, it_rng2, c_isnN, c_isnI, c_isN, c_isI, c_isnL, c_isnT, c_isL, c_isT, o_band, o_shr, len_t0, tup_t, call_8, call_9, call_10, call_11, call_12, rb_ok, rb_bad, rb_exc, ra_ok, ra_bad, ra_exc, ft_nx, ft_rt, ft_bad, ft_xc, List.set_cons_zero, List.set_cons_succ, List.nil_append, List.cons_append, Bool.not_true, Bool.not_false, decide_true, decide_false, eq_self, Int.reduceEq, Bool.false_or, Bool.or_false, Bool.true_or, Bool.or_true, Bool.true_and, Bool.and_true, Bool.false_and, Bool.and_false, Bool.or_self, Bool.and_self, h, o_mod (show (0 : Int) < 7 by decide), o_mod (show (0 : Int) < 11 by decide), o_mod (show (0 : Int) < 2000003 by decide)]
      · have ek : stepK x = x % 7 - 3 := by unfold stepK; rw [if_neg h]
        rw [ek] at hk ⊢
        simp (disch := first | exact mulOk_bd | assumption | omega) only [evE_v0, evE_v1, evE_v2, evE_v3, evE_v4, evE_v5, evE_v6, evE_v7, evE_v8, evE_v9, evE_v10, evE_int, evE_bl, evE_non, evE_str, evE_bin, evE_neg, evE_not, evE_cmp, evE_tup, evE_lst, evE_ix, evE_call, evE_bi, evE_sl, evE_isi, andB_t, andB_f, orB_t, orB_f, andB_b, orB_b, evE_and, evE_or, evAnd_one, evOr_one, evAnd_two, evOr_two, evEs_nil, evEs_cons, evSs_nil, evSs_cons, evS_ex, evS_ret, ifB_t, ifB_f, evS_ife, evS_raise, evS_for, seq_t, seq_l, it_seq, ans_nx, ans_rt, ans_xc, forL_nil, forL_cons, ix_t0, ix_t1, ix_t2, ix_t3, o_add, o_sub, o_mul, o_fdiv, o_mod, o_neg, o_not, c_lt, c_le, c_gt, c_ge, c_eq, c_ne, c_eq2, c_ne2, c_eq3, c_ne3, c_is, c_isnot, isi_tt, isi_lt, isi_it, isi_ii, isi_ib, isi_ll, len_t1, len_t2, len_t3, len_t4, len_l, abs_i, tup_l, part_0, part_1, sl_l, call_0, call_1, call_2, call_3, call_4, call_5, call_6, call_7, glob_0, glob_1, glob_2, evE_v11, evE_v12, evE_v13, evE_v14, evE_v15, evE_v16, evE_v17, evE_v18, evE_v19, evE_v20, evS_set0, evS_setL0, evS_set1, evS_setL1, evS_set2, evS_setL2, evS_set3, evS_setL3, evS_set4, evS_setL4, evS_set5, evS_setL5, evS_set6, evS_setL6, evS_set7, evS_setL7, evS_set8, evS_setL8, evS_set9, evS_setL9, evS_set10, evS_setL10, evS_set11, evS_setL11, evS_set12, evS_setL12, evS_set13, evS_setL13, evS_set14, evS_setL14, evS_set15, evS_setL15, evS_set16, evS_setL16, evS_set17, evS_setL17, evS_set18, evS_setL18, evS_set19, evS_setL19, evS_set20, evS_setL20, evS_app0, evS_frz0, evS_frs0, evE_ixo0, evS_aug0, evS_app1, evS_frz1, evS_frs1, evE_ixo1, evS_aug1, evS_app2, evS_frz2, evS_frs2, evE_ixo2, evS_aug2, evS_app3, evS_frz3, evS_frs3, evE_ixo3, evS_aug3, evS_app4, evS_frz4, evS_frs4, evE_ixo4, evS_aug4, evS_app5, evS_frz5, evS_frs5, evE_ixo5, evS_aug5, evS_app6, evS_frz6, evS_frs6, evE_ixo6, evS_aug6, evS_app7, evS_frz7, evS_frs7, evE_ixo7, evS_aug7, evS_app8, evS_frz8, evS_frs8, evE_ixo8, evS_aug8, evS_app9, evS_frz9, evS_frs9, evE_ixo9, evS_aug9, evS_app10, evS_frz10, evS_frs10, evE_ixo10, evS_aug10, evS_app11, evS_frz11, evS_frs11, evE_ixo11, evS_aug11, evS_app12, evS_frz12, evS_frs12, evE_ixo12, evS_aug12, evS_app13, evS_frz13, evS_frs13, evE_ixo13, evS_aug13, evS_app14, evS_frz14, evS_frs14, evE_ixo14, evS_aug14, evS_app15, evS_frz15, evS_frs15, evE_ixo15, evS_aug15, evS_app16, evS_frz16, evS_frs16, evE_ixo16, evS_aug16, evS_pass, evE_ife, ifE_t, ifE_f, it_rng1, it_rng2, c_isnN, c_isnI, c_isN, c_isI, c_isnL, c_isnT, c_isL, c_isT, o_band, o_shr, len_t0, tup_t, call_8, call_9, call_10, call_11, call_12, rb_ok, rb_bad, rb_exc, ra_ok, ra_bad, ra_exc, ft_nx, ft_rt, ft_bad, ft_xc, List.set_cons_zero, List.set_cons_succ, List.nil_append, List.cons_append, Bool.not_true, Bool.not_false, decide_true, decide_false, eq_self, Int.reduceEq, Bool.false_or, Bool.or_false, Bool.true_or, Bool.or_true, Bool.true_and, Bool.and_true, Bool.false_and, Bool.and_false, Bool.or_self, Bool.and_self, decide_eq_false h, o_mod (show (0 : Int) < 7 by decide), o_mod (show (0 : Int) < 11 by decide)]
    obtain ⟨p', q', r', s', t2, t3, h, b1, b2, b3, b4, hdet⟩ := steps_loop ns (n + 22) (p * stepK x + q) (-p) (r * stepK x + s) (-r) d (some (.sh (.int x))) (some (.sh (.int (stepK x)))) (fun z hz' => hz z (List.mem_cons_of_mem _ hz')) (by omega)
      (Bd.get) (Bd.get) (Bd.get) (Bd.get) (by grind)
    have en : n + 22 + 22 * ns.length = n + 22 * (x :: ns).length := by rw [List.length_cons]; omega
    rw [en] at b1 b2 b3 b4
    refine ⟨p', q', r', s', t2, t3, ?_, b1, b2, b3, b4, hdet⟩
    rw [List.map_cons, forL_cons]
    show (evSs G__law_steps w1__law_steps [some (.sh d), some (.sh (PyData.tuple [PyData.int p, PyData.int q, PyData.int r, PyData.int s])), some (.sh (.int x)), s3]).then _ = _
    rw [e]
    exact h
theorem w_steps (ns : List Int) (hs : ∀ z ∈ ns, Small z) (hl : ns.length ≤ 63) : ∃ p q r s, sem__law_steps [.list (ns.map .int)] = .ok (PyData.tuple [PyData.int p, PyData.int q, PyData.int r, PyData.int s]) ∧ p * s - q * r = 1 ∧ Bd 1400 p ∧ Bd 1400 q ∧ Bd 1400 r ∧ Bd 1400 s := by
  obtain ⟨p, q, r, s, t2, t3, h, b1, b2, b3, b4, hd⟩ := steps_loop ns 1 1 0 0 1 (.list (ns.map .int)) none none hs (by omega) inferInstance (Bd.zero.up (by decide)) (Bd.zero.up (by decide)) inferInstance (by decide)
  refine ⟨p, q, r, s, ?_, hd, b1.up (by omega), b2.up (by omega), b3.up (by omega), b4.up (by omega)⟩
  show (evSs G__law_steps b__law_steps [some (.sh _), none, none, none]).ans = _
  unfold b__law_steps
  simp (disch := first | exact mulOk_bd | assumption | omega) only [evE_v0, evE_v1, evE_v2, evE_v3, evE_v4, evE_v5, evE_v6, evE_v7, evE_v8, evE_v9, evE_v10, evE_int, evE_bl, evE_non, evE_str, evE_bin, evE_neg, evE_not, evE_cmp, evE_tup, evE_lst, evE_ix, evE_call, evE_bi, evE_sl, evE_isi, andB_t, andB_f, orB_t, orB_f, andB_b, orB_b, evE_and, evE_or, evAnd_one, evOr_one, evAnd_two, evOr_two, evEs_nil, evEs_cons, evSs_nil, evSs_cons, evS_ex, evS_ret, ifB_t, ifB_f, evS_ife, evS_raise, evS_for, seq_t, seq_l, it_seq, ans_nx, ans_rt, ans_xc, forL_nil, forL_cons, ix_t0, ix_t1, ix_t2, ix_t3, o_add, o_sub, o_mul, o_fdiv, o_mod, o_neg, o_not, c_lt, c_le, c_gt, c_ge, c_eq, c_ne, c_eq2, c_ne2, c_eq3, c_ne3, c_is, c_isnot, isi_tt, isi_lt, isi_it, isi_ii, isi_ib, isi_ll, len_t1, len_t2, len_t3, len_t4, len_l, abs_i, tup_l, part_0, part_1, sl_l, call_0, call_1, call_2, call_3, call_4, call_5, call_6, call_7, glob_0, glob_1, glob_2, evE_v11, evE_v12, evE_v13, evE_v14, evE_v15, evE_v16, evE_v17, evE_v18, evE_v19, evE_v20, evS_set0, evS_setL0, evS_set1, evS_setL1, evS_set2, evS_setL2, evS_set3, evS_setL3, evS_set4, evS_setL4, evS_set5, evS_setL5, evS_set6, evS_setL6, evS_set7, evS_setL7, evS_set8, evS_setL8, evS_set9, evS_setL9, evS_set10, evS_setL10, evS_set11, evS_setL11, evS_set12, evS_setL12, evS_set13, evS_setL13, evS_set14, evS_setL14, evS_set15, evS_setL15, evS_set16, evS_setL16, evS_set17, evS_setL17, evS_set18, evS_setL18, evS_set19, evS_setL19, evS_set20, evS_setL20, evS_app0, evS_frz0, evS_frs0, evE_ixo0, evS_aug0, evS_app1, evS_frz1, evS_frs1, evE_ixo1, evS_aug1, evS_app2, evS_frz2, evS_frs2, evE_ixo2, evS_aug2, evS_app3, evS_frz3, evS_frs3, evE_ixo3, evS_aug3, evS_app4, evS_frz4, evS_frs4, evE_ixo4, evS_aug4, evS_app5, evS_frz5, evS_frs5, evE_ixo5, evS_aug5, evS_app6, evS_frz6, evS_frs6, evE_ixo6, evS_aug6, evS_app7, evS_frz7, evS_frs7, evE_ixo7, evS_aug7, evS_app8, evS_frz8, evS_frs8, evE_ixo8, evS_aug8, evS_app9, evS_frz9, evS_frs9, evE_ixo9, evS_aug9, evS_app10, evS_frz10, evS_frs10, evE_ixo10, evS_aug10, evS_app11, evS_frz11, evS_frs11, evE_ixo11, evS_aug11, evS_app12, evS_frz12, evS_frs12, evE_ixo12, evS_aug12, evS_app13, evS_frz13, evS_frs13, evE_ixo13, evS_aug13, evS_app14, evS_frz14, evS_frs14, evE_ixo14, evS_aug14, evS_app15, evS_frz15, evS_frs15, evE_ixo15, evS_aug15, evS_app16, evS_frz16, evS_frs16, evE_ixo16, evS_aug16, evS_pass, evE_ife, ifE_t, ifE_f, it_rng1, it_rng2, c_isnN, c_isnI, c_isN, c_isI, c_isnL, c_isnT, c_isL, c_isT, o_band, o_shr, len_t0, tup_t, call_8, call_9, call_10, call_11, call_12, rb_ok, rb_bad, rb_exc, ra_ok, ra_bad, ra_exc, ft_nx, ft_rt, ft_bad, ft_xc, List.set_cons_zero, List.set_cons_succ, List.nil_append, List.cons_append, Bool.not_true, Bool.not_false, decide_true, decide_false, eq_self, Int.reduceEq, Bool.false_or, Bool.or_false, Bool.true_or, Bool.or_true, Bool.true_and, Bool.and_true, Bool.false_and, Bool.and_false, Bool.or_self, Bool.and_self, h]
/-- a slice of the script -/
def cutN (ns : List Int) (lo hi : Option Int) : List Int := (ns.drop (HT.sIx ns.length 0 lo)).take (HT.sIx ns.length ns.length hi - HT.sIx ns.length 0 lo)
theorem cut_map (ns : List Int) (lo hi : Option Int) : cutD (ns.map PyData.int) lo hi = (cutN ns lo hi).map PyData.int := by
  unfold cutD cutN
  rw [List.length_map, List.map_take, List.map_drop]
theorem cutN_mem {ns : List Int} {lo hi : Option Int} {z : Int} (h : z ∈ cutN ns lo hi) : z ∈ ns := List.mem_of_mem_drop (List.mem_of_mem_take h)
theorem cutN_len (ns : List Int) (lo hi : Option Int) : (cutN ns lo hi).length ≤ ns.length := by
  unfold cutN
  rw [List.length_take, List.length_drop]
  omega
end FT

namespace FT
open PySem PySem.Spec PyProof.Rows L2
/-- a least form -/
def Least (a b c : Int) : Prop := b ≤ a ∧ -a < b ∧ a ≤ c ∧ (a < c ∨ 0 ≤ b)
instance (a b c : Int) : Decidable (Least a b c) := by unfold Least; infer_instance
theorem v_least (a b c : Int) {n m l : Nat} [Bd n a] [Bd m b] [Bd l c] (hn : n + m + l ≤ 10000000) (h1 : 0 < a) (h2 : b * b < 4 * a * c) : sem_is_least [(PyData.tuple [PyData.int a, PyData.int b, PyData.int c])] = .ok (.bool (decide (Least a b c))) := v_is_least a b c hn h1 h2
/-! ### sizes of what leads from form to form -/
theorem sq_nonneg (x : Int) : 0 ≤ x * x := by
  rcases Int.le_total 0 x with h | h
  · exact Int.mul_nonneg h h
  · exact Int.mul_nonneg_of_nonpos_of_nonpos h h
theorem le_sq (x : Int) : (x.natAbs : Int) ≤ x * x := by
  have h : ((x.natAbs * x.natAbs : Nat) : Int) = x * x := by rw [Int.natAbs_mul_self]
  have h2 : x.natAbs ≤ x.natAbs * x.natAbs := Nat.le_mul_self _
  omega
theorem form_pos {a b c : Int} (h1 : 0 < a) (h2 : b * b < 4 * a * c) : 0 < c := by
  have h3 := sq_nonneg b
  rcases Int.lt_or_le 0 c with h | h
  · exact h
  · have : 4 * a * c ≤ 0 := Int.mul_nonpos_of_nonneg_of_nonpos (by omega) h
    omega
/-- x is bounded by what the form is worth at (x, y) -/
theorem worth_x {a b c x y v : Int} (h1 : 0 < a) (h2 : b * b < 4 * a * c) (hv : a * x * x + b * x * y + c * y * y = v) : x * x ≤ 4 * c * v := by
  have k : 4 * c * v = (2 * c * y + b * x) * (2 * c * y + b * x) + (4 * a * c - b * b) * (x * x) := by rw [← hv]; grind
  have k1 := sq_nonneg (2 * c * y + b * x)
  have k2 : (1 : Int) * (x * x) ≤ (4 * a * c - b * b) * (x * x) := Int.mul_le_mul_of_nonneg_right (by omega) (sq_nonneg x)
  omega
theorem worth_y {a b c x y v : Int} (h1 : 0 < a) (h2 : b * b < 4 * a * c) (hv : a * x * x + b * x * y + c * y * y = v) : y * y ≤ 4 * a * v := by
  have k : 4 * a * v = (2 * a * x + b * y) * (2 * a * x + b * y) + (4 * a * c - b * b) * (y * y) := by rw [← hv]; grind
  have k1 := sq_nonneg (2 * a * x + b * y)
  have k2 : (1 : Int) * (y * y) ≤ (4 * a * c - b * b) * (y * y) := Int.mul_le_mul_of_nonneg_right (by omega) (sq_nonneg y)
  omega
theorem Bd.of_sq {x z : Int} {n : Nat} (h : x * x ≤ z) (hz : Bd n z) : Bd n x := ⟨by
  have h1 := le_sq x
  have h2 := hz.lt
  have h3 : (0 : Int) ≤ z := Int.le_trans (sq_nonneg x) h
  omega⟩
theorem worth_pos {a b c x y : Int} (h1 : 0 < a) (h2 : b * b < 4 * a * c) (h : x ≠ 0 ∨ y ≠ 0) : 0 < a * x * x + b * x * y + c * y * y := by
  have hx := worth_x h1 h2 (x := x) (y := y) rfl
  have hy := worth_y h1 h2 (x := x) (y := y) rfl
  have hc := form_pos h1 h2
  rcases Int.lt_or_le 0 (a * x * x + b * x * y + c * y * y) with k | k
  · exact k
  · exfalso
    have k1 : 4 * c * (a * x * x + b * x * y + c * y * y) ≤ 0 := Int.mul_nonpos_of_nonneg_of_nonpos (by omega) k
    have k2 : 4 * a * (a * x * x + b * x * y + c * y * y) ≤ 0 := Int.mul_nonpos_of_nonneg_of_nonpos (by omega) k
    have l1 := le_sq x
    have l2 := le_sq y
    omega
/-- the form (a, b, c) led by (p, q, r, s) to (a', b', c') -/
structure Leads (a b c p q r s a' b' c' : Int) : Prop where
  det : p * s - q * r = 1
  e1 : a * p * p + b * p * r + c * r * r = a'
  e2 : 2 * a * p * q + b * (p * s + q * r) + 2 * c * r * s = b'
  e3 : a * q * q + b * q * s + c * s * s = c'
section
variable {a b c p q r s a' b' c' : Int}
theorem Leads.bar (L : Leads a b c p q r s a' b' c') : b' * b' - 4 * a' * c' = b * b - 4 * a * c := by
  obtain ⟨d, e1, e2, e3⟩ := L
  have k : b' * b' - 4 * a' * c' = (b * b - 4 * a * c) * ((p * s - q * r) * (p * s - q * r)) := by rw [← e1, ← e2, ← e3]; grind
  rw [k, d]
  omega
theorem Leads.pos (L : Leads a b c p q r s a' b' c') (h1 : 0 < a) (h2 : b * b < 4 * a * c) : 0 < a' ∧ b' * b' < 4 * a' * c' := by
  have k := L.bar
  refine ⟨?_, by omega⟩
  rw [← L.e1]
  refine worth_pos h1 h2 ?_
  by_cases hp : p = 0
  · refine .inr fun hr => ?_
    have := L.det
    rw [hp, hr] at this
    omega
  · exact .inl hp
theorem Leads.bd (L : Leads a b c p q r s a' b' c') (h1 : 0 < a) (h2 : b * b < 4 * a * c) {n m : Nat} (ha : Bd n a) (hc : Bd n c) (ha' : Bd m a') (hc' : Bd m c') : Bd (3 + n + m) p ∧ Bd (3 + n + m) q ∧ Bd (3 + n + m) r ∧ Bd (3 + n + m) s :=
  ⟨Bd.of_sq (worth_x h1 h2 L.e1) Bd.get, Bd.of_sq (worth_x h1 h2 L.e3) Bd.get, Bd.of_sq (worth_y h1 h2 L.e1) Bd.get, Bd.of_sq (worth_y h1 h2 L.e3) Bd.get⟩
theorem Leads.then {x y z w a2 b2 c2 : Int} (L : Leads a b c p q r s a' b' c') (M : Leads a' b' c' x y z w a2 b2 c2) : Leads a b c (p * x + q * z) (p * y + q * w) (r * x + s * z) (r * y + s * w) a2 b2 c2 := by
  obtain ⟨d, e1, e2, e3⟩ := L
  obtain ⟨d', f1, f2, f3⟩ := M
  refine ⟨?_, ?_, ?_, ?_⟩
  · have : (p * x + q * z) * (r * y + s * w) - (p * y + q * w) * (r * x + s * z) = (p * s - q * r) * (x * w - y * z) := by grind
    rw [this, d, d']
    rfl
  · rw [← f1, ← e1, ← e2, ← e3]; grind
  · rw [← f2, ← e1, ← e2, ← e3]; grind
  · rw [← f3, ← e1, ← e2, ← e3]; grind
theorem Leads.back (L : Leads a b c p q r s a' b' c') : Leads a' b' c' s (-q) (-r) p a b c := by
  obtain ⟨d, e1, e2, e3⟩ := L
  have d2 : (p * s - q * r) * (p * s - q * r) = 1 := by rw [d]; rfl
  refine ⟨by grind, ?_, ?_, ?_⟩
  · have : a' * s * s + b' * s * -r + c' * -r * -r = a * ((p * s - q * r) * (p * s - q * r)) := by rw [← e1, ← e2, ← e3]; grind
    rw [this, d2, Int.mul_one]
  · have : 2 * a' * s * -q + b' * (s * p + -q * -r) + 2 * c' * -r * p = b * ((p * s - q * r) * (p * s - q * r)) := by rw [← e1, ← e2, ← e3]; grind
    rw [this, d2, Int.mul_one]
  · have : a' * -q * -q + b' * -q * p + c' * p * p = c * ((p * s - q * r) * (p * s - q * r)) := by rw [← e1, ← e2, ← e3]; grind
    rw [this, d2, Int.mul_one]
end
theorem Leads.id (a b c : Int) : Leads a b c 1 0 0 1 a b c := ⟨by decide, by grind, by grind, by grind⟩
/-! ### one step -/
theorem shift_bd {a b k : Int} (h1 : 0 < a) (hk : k = (a - b) / (2 * a)) : -a < b + 2 * a * k ∧ b + 2 * a * k ≤ a ∧ (b + 2 * a * k) * (b + 2 * a * k) ≤ b * b := by
  have p : 0 < 2 * a := by omega
  have e1 := Int.emod_add_mul_ediv (a - b) (2 * a)
  have e2 := Int.emod_lt_of_pos (a - b) p
  have e3 := Int.emod_nonneg (a - b) (show 2 * a ≠ 0 by omega)
  rw [← hk] at e1
  have k1 : -a < b + 2 * a * k := by omega
  have k2 : b + 2 * a * k ≤ a := by omega
  refine ⟨k1, k2, ?_⟩
  have hab : (b + 2 * a * k).natAbs ≤ b.natAbs := by
    by_cases h0 : k = 0
    · rw [h0, Int.mul_zero, Int.add_zero]
      exact Nat.le_refl _
    · rcases Int.lt_or_gt_of_ne h0 with hk0 | hk0
      · have : 2 * a * k ≤ 2 * a * (-1) := Int.mul_le_mul_of_nonneg_left (by omega) (by omega)
        omega
      · have : 2 * a * 1 ≤ 2 * a * k := Int.mul_le_mul_of_nonneg_left (by omega) (by omega)
        omega
  have h3 : ((b + 2 * a * k).natAbs : Int) * ((b + 2 * a * k).natAbs : Int) ≤ (b.natAbs : Int) * (b.natAbs : Int) := Int.mul_le_mul (by omega) (by omega) (by omega) (by omega)
  have h4 : ((b + 2 * a * k).natAbs : Int) * ((b + 2 * a * k).natAbs : Int) = (b + 2 * a * k) * (b + 2 * a * k) := Int.natAbs_mul_self' _
  have h5 : (b.natAbs : Int) * (b.natAbs : Int) = b * b := Int.natAbs_mul_self' _
  omega
theorem Bd.abs_le {x y : Int} {n : Nat} (h : x.natAbs ≤ y.natAbs) (hy : Bd n y) : Bd n x := ⟨Nat.lt_of_le_of_lt h hy.lt⟩
theorem sq_le_abs {x y : Int} (h : x * x ≤ y * y) : x.natAbs ≤ y.natAbs := by
  rcases Nat.lt_or_ge y.natAbs x.natAbs with k | k
  · exfalso
    have := Nat.mul_self_lt_mul_self k
    have h1 : ((x.natAbs * x.natAbs : Nat) : Int) = x * x := by rw [Int.natAbs_mul_self]
    have h2 : ((y.natAbs * y.natAbs : Nat) : Int) = y * y := by rw [Int.natAbs_mul_self]
    omega
  · exact k
/-- what the shift makes -/
theorem shift_ok {a b c : Int} (h1 : 0 < a) (h2 : b * b < 4 * a * c) {m : Nat} (ha : Bd m a) (hb : Bd m b) (hc : Bd m c) :
    ∃ k b2 c2, (a - b) / (2 * a) = k ∧ Leads a b c 1 k 0 1 a b2 c2 ∧ -a < b2 ∧ b2 ≤ a ∧ Bd m b2 ∧ Bd m c2 ∧ 0 < c2 ∧ Bd (m + 3) k := by
  obtain ⟨k, hk⟩ : ∃ k, (a - b) / (2 * a) = k := ⟨_, rfl⟩
  obtain ⟨s1, s2, s3⟩ := shift_bd h1 hk.symm
  have L : Leads a b c 1 k 0 1 a (b + 2 * a * k) (a * k * k + b * k + c) := ⟨by grind, by grind, by grind, by grind⟩
  have P := L.pos h1 h2
  have hb2 := L.bar
  have c2p := form_pos P.1 P.2
  have hcle : a * k * k + b * k + c ≤ c := by
    have k1 : 4 * a * (a * k * k + b * k + c) ≤ 4 * a * c := by omega
    exact Int.le_of_mul_le_mul_left k1 (by omega)
  exact ⟨k, _, _, hk, L, s1, s2, Bd.abs_le (sq_le_abs s3) hb, Bd.abs_le (by omega) hc, c2p, hk ▸ Bd.get⟩
theorem v_shift (a b c : Int) {n m l : Nat} [Bd n a] [Bd m b] [Bd l c] (hn : n + m + l ≤ 30000) (hn2 : n ≤ 8000) (h1 : 0 < a) : sem_shift_of [(PyData.tuple [PyData.int a, PyData.int b, PyData.int c])] = .ok (PyData.tuple [PyData.int 1, PyData.int ((a - b) / (2 * a)), PyData.int 0, PyData.int 1]) := by
  show (evSs G_shift_of b_shift_of [some (.sh _)]).ans = _
  unfold b_shift_of G_shift_of
  simp (disch := first | exact mulOk_bd | assumption | omega) only [evE_v0, evE_v1, evE_v2, evE_v3, evE_v4, evE_v5, evE_v6, evE_v7, evE_v8, evE_v9, evE_v10, evE_int, evE_bl, evE_non, evE_str, evE_bin, evE_neg, evE_not, evE_cmp, evE_tup, evE_lst, evE_ix, evE_call, evE_bi, evE_sl, evE_isi, andB_t, andB_f, orB_t, orB_f, andB_b, orB_b, evE_and, evE_or, evAnd_one, evOr_one, evAnd_two, evOr_two, evEs_nil, evEs_cons, evSs_nil, evSs_cons, evS_ex, evS_ret, ifB_t, ifB_f, evS_ife, evS_raise, evS_for, seq_t, seq_l, it_seq, ans_nx, ans_rt, ans_xc, forL_nil, forL_cons, ix_t0, ix_t1, ix_t2, ix_t3, o_add, o_sub, o_mul, o_fdiv, o_mod, o_neg, o_not, c_lt, c_le, c_gt, c_ge, c_eq, c_ne, c_eq2, c_ne2, c_eq3, c_ne3, c_is, c_isnot, isi_tt, isi_lt, isi_it, isi_ii, isi_ib, isi_ll, len_t1, len_t2, len_t3, len_t4, len_l, abs_i, tup_l, part_0, part_1, sl_l, call_0, call_1, call_2, call_3, call_4, call_5, call_6, call_7, glob_0, glob_1, glob_2, evE_v11, evE_v12, evE_v13, evE_v14, evE_v15, evE_v16, evE_v17, evE_v18, evE_v19, evE_v20, evS_set0, evS_setL0, evS_set1, evS_setL1, evS_set2, evS_setL2, evS_set3, evS_setL3, evS_set4, evS_setL4, evS_set5, evS_setL5, evS_set6, evS_setL6, evS_set7, evS_setL7, evS_set8, evS_setL8, evS_set9, evS_setL9, evS_set10, evS_setL10, evS_set11, evS_setL11, evS_set12, evS_setL12, evS_set13, evS_setL13, evS_set14, evS_setL14, evS_set15, evS_setL15, evS_set16, evS_setL16, evS_set17, evS_setL17, evS_set18, evS_setL18, evS_set19, evS_setL19, evS_set20, evS_setL20, evS_app0, evS_frz0, evS_frs0, evE_ixo0, evS_aug0, evS_app1, evS_frz1, evS_frs1, evE_ixo1, evS_aug1, evS_app2, evS_frz2, evS_frs2, evE_ixo2, evS_aug2, evS_app3, evS_frz3, evS_frs3, evE_ixo3, evS_aug3, evS_app4, evS_frz4, evS_frs4, evE_ixo4, evS_aug4, evS_app5, evS_frz5, evS_frs5, evE_ixo5, evS_aug5, evS_app6, evS_frz6, evS_frs6, evE_ixo6, evS_aug6, evS_app7, evS_frz7, evS_frs7, evE_ixo7, evS_aug7, evS_app8, evS_frz8, evS_frs8, evE_ixo8, evS_aug8, evS_app9, evS_frz9, evS_frs9, evE_ixo9, evS_aug9, evS_app10, evS_frz10, evS_frs10, evE_ixo10, evS_aug10, evS_app11, evS_frz11, evS_frs11, evE_ixo11, evS_aug11, evS_app12, evS_frz12, evS_frs12, evE_ixo12, evS_aug12, evS_app13, evS_frz13, evS_frs13, evE_ixo13, evS_aug13, evS_app14, evS_frz14, evS_frs14, evE_ixo14, evS_aug14, evS_app15, evS_frz15, evS_frs15, evE_ixo15, evS_aug15, evS_app16, evS_frz16, evS_frs16, evE_ixo16, evS_aug16, evS_pass, evE_ife, ifE_t, ifE_f, it_rng1, it_rng2, c_isnN, c_isnI, c_isN, c_isI, c_isnL, c_isnT, c_isL, c_isT, o_band, o_shr, len_t0, tup_t, call_8, call_9, call_10, call_11, call_12, rb_ok, rb_bad, rb_exc, ra_ok, ra_bad, ra_exc, ft_nx, ft_rt, ft_bad, ft_xc, List.set_cons_zero, List.set_cons_succ, List.nil_append, List.cons_append, Bool.not_true, Bool.not_false, decide_true, decide_false, eq_self, Int.reduceEq, Bool.false_or, Bool.or_false, Bool.true_or, Bool.or_true, Bool.true_and, Bool.and_true, Bool.false_and, Bool.and_false, Bool.or_self, Bool.and_self, o_fdiv (divOk_bd (j := 2 * a) (by omega))]
noncomputable abbrev wc : En → R D := fun ρ => evE G_least_of (.not (.call 1 (.v 2) [])) ρ
noncomputable abbrev wb : En → Fl := fun ρ => evSs G_least_of w1_least_of ρ
theorem ll_done {a b c : Int} {d t : D} {x3 x4 : Option Sl} {m : Nat} (h1 : 0 < a) (h2 : b * b < 4 * a * c) (ha : Bd m a) (hb : Bd m b) (hc : Bd m c) (hm : m ≤ 8000) (hl : Least a b c) :
    whileL wc wb [some (.sh d), some (.sh t), some (.sh (PyData.tuple [PyData.int a, PyData.int b, PyData.int c])), x3, x4] = .nx [some (.sh d), some (.sh t), some (.sh (PyData.tuple [PyData.int a, PyData.int b, PyData.int c])), x3, x4] := by
  rw [whileL_eq]
  have e : wc [some (.sh d), some (.sh t), some (.sh (PyData.tuple [PyData.int a, PyData.int b, PyData.int c])), x3, x4] = .ok (.bool false) := by
    show evE G_least_of _ _ = _
    unfold G_least_of
    simp (disch := first | exact mulOk_bd | assumption | omega) only [evE_v0, evE_v1, evE_v2, evE_v3, evE_v4, evE_v5, evE_v6, evE_v7, evE_v8, evE_v9, evE_v10, evE_int, evE_bl, evE_non, evE_str, evE_bin, evE_neg, evE_not, evE_cmp, evE_tup, evE_lst, evE_ix, evE_call, evE_bi, evE_sl, evE_isi, andB_t, andB_f, orB_t, orB_f, andB_b, orB_b, evE_and, evE_or, evAnd_one, evOr_one, evAnd_two, evOr_two, evEs_nil, evEs_cons, evSs_nil, evSs_cons, evS_ex, evS_ret, ifB_t, ifB_f, evS_ife, evS_raise, evS_for, seq_t, seq_l, it_seq, ans_nx, ans_rt, ans_xc, forL_nil, forL_cons, ix_t0, ix_t1, ix_t2, ix_t3, o_add, o_sub, o_mul, o_fdiv, o_mod, o_neg, o_not, c_lt, c_le, c_gt, c_ge, c_eq, c_ne, c_eq2, c_ne2, c_eq3, c_ne3, c_is, c_isnot, isi_tt, isi_lt, isi_it, isi_ii, isi_ib, isi_ll, len_t1, len_t2, len_t3, len_t4, len_l, abs_i, tup_l, part_0, part_1, sl_l, call_0, call_1, call_2, call_3, call_4, call_5, call_6, call_7, glob_0, glob_1, glob_2, evE_v11, evE_v12, evE_v13, evE_v14, evE_v15, evE_v16, evE_v17, evE_v18, evE_v19, evE_v20, evS_set0, evS_setL0, evS_set1, evS_setL1, evS_set2, evS_setL2, evS_set3, evS_setL3, evS_set4, evS_setL4, evS_set5, evS_setL5, evS_set6, evS_setL6, evS_set7, evS_setL7, evS_set8, evS_setL8, evS_set9, evS_setL9, evS_set10, evS_setL10, evS_set11, evS_setL11, evS_set12, evS_setL12, evS_set13, evS_setL13, evS_set14, evS_setL14, evS_set15, evS_setL15, evS_set16, evS_setL16, evS_set17, evS_setL17, evS_set18, evS_setL18, evS_set19, evS_setL19, evS_set20, evS_setL20, evS_app0, evS_frz0, evS_frs0, evE_ixo0, evS_aug0, evS_app1, evS_frz1, evS_frs1, evE_ixo1, evS_aug1, evS_app2, evS_frz2, evS_frs2, evE_ixo2, evS_aug2, evS_app3, evS_frz3, evS_frs3, evE_ixo3, evS_aug3, evS_app4, evS_frz4, evS_frs4, evE_ixo4, evS_aug4, evS_app5, evS_frz5, evS_frs5, evE_ixo5, evS_aug5, evS_app6, evS_frz6, evS_frs6, evE_ixo6, evS_aug6, evS_app7, evS_frz7, evS_frs7, evE_ixo7, evS_aug7, evS_app8, evS_frz8, evS_frs8, evE_ixo8, evS_aug8, evS_app9, evS_frz9, evS_frs9, evE_ixo9, evS_aug9, evS_app10, evS_frz10, evS_frs10, evE_ixo10, evS_aug10, evS_app11, evS_frz11, evS_frs11, evE_ixo11, evS_aug11, evS_app12, evS_frz12, evS_frs12, evE_ixo12, evS_aug12, evS_app13, evS_frz13, evS_frs13, evE_ixo13, evS_aug13, evS_app14, evS_frz14, evS_frs14, evE_ixo14, evS_aug14, evS_app15, evS_frz15, evS_frs15, evE_ixo15, evS_aug15, evS_app16, evS_frz16, evS_frs16, evE_ixo16, evS_aug16, evS_pass, evE_ife, ifE_t, ifE_f, it_rng1, it_rng2, c_isnN, c_isnI, c_isN, c_isI, c_isnL, c_isnT, c_isL, c_isT, o_band, o_shr, len_t0, tup_t, call_8, call_9, call_10, call_11, call_12, rb_ok, rb_bad, rb_exc, ra_ok, ra_bad, ra_exc, ft_nx, ft_rt, ft_bad, ft_xc, List.set_cons_zero, List.set_cons_succ, List.nil_append, List.cons_append, Bool.not_true, Bool.not_false, decide_true, decide_false, eq_self, Int.reduceEq, Bool.false_or, Bool.or_false, Bool.true_or, Bool.or_true, Bool.true_and, Bool.and_true, Bool.false_and, Bool.and_false, Bool.or_self, Bool.and_self, v_least a b c (by omega) h1 h2, decide_eq_true hl]
  rw [e]
  rfl
theorem ll {a b c : Int} {n m : Nat} (h1 : 0 < a) (h2 : b * b < 4 * a * c) (Ha : Bd n a) (Hb : Bd n b) (Hc : Bd n c) (hn : n ≤ 8000) (hm : m ≤ 8000) : ∀ (A : Nat) (a' b' c' p q r s : Int) (x3 x4 : Option Sl), a'.toNat ≤ A → Leads a b c p q r s a' b' c' → Bd m a' → Bd m b' → Bd m c' →
    ∃ a2 b2 c2 p2 q2 r2 s2 y3 y4, whileL wc wb [some (.sh (PyData.tuple [PyData.int a, PyData.int b, PyData.int c])), some (.sh (PyData.tuple [PyData.int p, PyData.int q, PyData.int r, PyData.int s])), some (.sh (PyData.tuple [PyData.int a', PyData.int b', PyData.int c'])), x3, x4] = .nx [some (.sh (PyData.tuple [PyData.int a, PyData.int b, PyData.int c])), some (.sh (PyData.tuple [PyData.int p2, PyData.int q2, PyData.int r2, PyData.int s2])), some (.sh (PyData.tuple [PyData.int a2, PyData.int b2, PyData.int c2])), y3, y4] ∧
      Leads a b c p2 q2 r2 s2 a2 b2 c2 ∧ Least a2 b2 c2 ∧ Bd m a2 ∧ Bd m b2 ∧ Bd m c2
  | A, a', b', c', p, q, r, s, x3, x4, hA, L, Ba, Bb, Bc => by
    obtain ⟨P1, P2⟩ := L.pos h1 h2
    by_cases hl : Least a' b' c'
    · exact ⟨a', b', c', p, q, r, s, x3, x4, ll_done P1 P2 Ba Bb Bc hm hl, L, hl, Ba, Bb, Bc⟩
    · have hv := v_least a' b' c' (by omega) P1 P2
      rw [decide_eq_false hl] at hv
      obtain ⟨k, b2, c2, hk, M, m1, m2, Bb2, Bc2, c2p, Bk⟩ := shift_ok P1 P2 Ba Bb Bc
      have hsh := v_shift a' b' c' (by omega) (by omega) P1
      rw [hk] at hsh
      have htu := v_turned a' b' c' 1 k 0 1 (by omega) P1 P2 M.det
      rw [M.e1, M.e2, M.e3] at htu
      obtain ⟨N1, N2⟩ := M.pos P1 P2
      have hv2 := v_least a' b2 c2 (by omega) N1 N2
      obtain ⟨T1, T2, T3, T4⟩ := L.bd h1 h2 Ha Hc Ba Bc
      have hc : wc [some (.sh (PyData.tuple [PyData.int a, PyData.int b, PyData.int c])), some (.sh (PyData.tuple [PyData.int p, PyData.int q, PyData.int r, PyData.int s])), some (.sh (PyData.tuple [PyData.int a', PyData.int b', PyData.int c'])), x3, x4] = .ok (.bool true) := by
        show evE G_least_of _ _ = _
        unfold G_least_of
        simp (disch := first | exact mulOk_bd | assumption | omega) only [evE_v0, evE_v1, evE_v2, evE_v3, evE_v4, evE_v5, evE_v6, evE_v7, evE_v8, evE_v9, evE_v10, evE_int, evE_bl, evE_non, evE_str, evE_bin, evE_neg, evE_not, evE_cmp, evE_tup, evE_lst, evE_ix, evE_call, evE_bi, evE_sl, evE_isi, andB_t, andB_f, orB_t, orB_f, andB_b, orB_b, evE_and, evE_or, evAnd_one, evOr_one, evAnd_two, evOr_two, evEs_nil, evEs_cons, evSs_nil, evSs_cons, evS_ex, evS_ret, ifB_t, ifB_f, evS_ife, evS_raise, evS_for, seq_t, seq_l, it_seq, ans_nx, ans_rt, ans_xc, forL_nil, forL_cons, ix_t0, ix_t1, ix_t2, ix_t3, o_add, o_sub, o_mul, o_fdiv, o_mod, o_neg, o_not, c_lt, c_le, c_gt, c_ge, c_eq, c_ne, c_eq2, c_ne2, c_eq3, c_ne3, c_is, c_isnot, isi_tt, isi_lt, isi_it, isi_ii, isi_ib, isi_ll, len_t1, len_t2, len_t3, len_t4, len_l, abs_i, tup_l, part_0, part_1, sl_l, call_0, call_1, call_2, call_3, call_4, call_5, call_6, call_7, glob_0, glob_1, glob_2, evE_v11, evE_v12, evE_v13, evE_v14, evE_v15, evE_v16, evE_v17, evE_v18, evE_v19, evE_v20, evS_set0, evS_setL0, evS_set1, evS_setL1, evS_set2, evS_setL2, evS_set3, evS_setL3, evS_set4, evS_setL4, evS_set5, evS_setL5, evS_set6, evS_setL6, evS_set7, evS_setL7, evS_set8, evS_setL8, evS_set9, evS_setL9, evS_set10, evS_setL10, evS_set11, evS_setL11, evS_set12, evS_setL12, evS_set13, evS_setL13, evS_set14, evS_setL14, evS_set15, evS_setL15, evS_set16, evS_setL16, evS_set17, evS_setL17, evS_set18, evS_setL18, evS_set19, evS_setL19, evS_set20, evS_setL20, evS_app0, evS_frz0, evS_frs0, evE_ixo0, evS_aug0, evS_app1, evS_frz1, evS_frs1, evE_ixo1, evS_aug1, evS_app2, evS_frz2, evS_frs2, evE_ixo2, evS_aug2, evS_app3, evS_frz3, evS_frs3, evE_ixo3, evS_aug3, evS_app4, evS_frz4, evS_frs4, evE_ixo4, evS_aug4, evS_app5, evS_frz5, evS_frs5, evE_ixo5, evS_aug5, evS_app6, evS_frz6, evS_frs6, evE_ixo6, evS_aug6, evS_app7, evS_frz7, evS_frs7, evE_ixo7, evS_aug7, evS_app8, evS_frz8, evS_frs8, evE_ixo8, evS_aug8, evS_app9, evS_frz9, evS_frs9, evE_ixo9, evS_aug9, evS_app10, evS_frz10, evS_frs10, evE_ixo10, evS_aug10, evS_app11, evS_frz11, evS_frs11, evE_ixo11, evS_aug11, evS_app12, evS_frz12, evS_frs12, evE_ixo12, evS_aug12, evS_app13, evS_frz13, evS_frs13, evE_ixo13, evS_aug13, evS_app14, evS_frz14, evS_frs14, evE_ixo14, evS_aug14, evS_app15, evS_frz15, evS_frs15, evE_ixo15, evS_aug15, evS_app16, evS_frz16, evS_frs16, evE_ixo16, evS_aug16, evS_pass, evE_ife, ifE_t, ifE_f, it_rng1, it_rng2, c_isnN, c_isnI, c_isN, c_isI, c_isnL, c_isnT, c_isL, c_isT, o_band, o_shr, len_t0, tup_t, call_8, call_9, call_10, call_11, call_12, rb_ok, rb_bad, rb_exc, ra_ok, ra_bad, ra_exc, ft_nx, ft_rt, ft_bad, ft_xc, List.set_cons_zero, List.set_cons_succ, List.nil_append, List.cons_append, Bool.not_true, Bool.not_false, decide_true, decide_false, eq_self, Int.reduceEq, Bool.false_or, Bool.or_false, Bool.true_or, Bool.or_true, Bool.true_and, Bool.and_true, Bool.false_and, Bool.and_false, Bool.or_self, Bool.and_self, hv]
      rw [whileL_eq, hc]
      show ∃ a2 b2 c2 p2 q2 r2 s2 y3 y4, (evSs G_least_of w1_least_of [some (.sh (PyData.tuple [PyData.int a, PyData.int b, PyData.int c])), some (.sh (PyData.tuple [PyData.int p, PyData.int q, PyData.int r, PyData.int s])), some (.sh (PyData.tuple [PyData.int a', PyData.int b', PyData.int c'])), x3, x4]).then (whileL wc wb) = _ ∧ _
      by_cases hl2 : Least a' b2 c2
      · rw [decide_eq_true hl2] at hv2
        have LM := L.then M
        have hbe := v_behind p q r s 1 k 0 1 (by omega) L.det M.det
        obtain ⟨U1, U2, U3, U4⟩ := LM.bd h1 h2 Ha Hc Ba Bc2
        have htf := v_turned a b c _ _ _ _ (by omega) h1 h2 LM.det
        rw [LM.e1, LM.e2, LM.e3] at htf
        have hb : evSs G_least_of w1_least_of [some (.sh (PyData.tuple [PyData.int a, PyData.int b, PyData.int c])), some (.sh (PyData.tuple [PyData.int p, PyData.int q, PyData.int r, PyData.int s])), some (.sh (PyData.tuple [PyData.int a', PyData.int b', PyData.int c'])), x3, x4] = .nx [some (.sh (PyData.tuple [PyData.int a, PyData.int b, PyData.int c])), some (.sh (PyData.tuple [PyData.int (p * 1 + q * 0), PyData.int (p * k + q * 1), PyData.int (r * 1 + s * 0), PyData.int (r * k + s * 1)])), some (.sh (PyData.tuple [PyData.int a', PyData.int b2, PyData.int c2])), some (.sh (PyData.tuple [PyData.int 1, PyData.int k, PyData.int 0, PyData.int 1])), some (.sh (PyData.tuple [PyData.int a', PyData.int b2, PyData.int c2]))] := by
          unfold G_least_of w1_least_of
          simp (disch := first | exact mulOk_bd | assumption | omega) only [evE_v0, evE_v1, evE_v2, evE_v3, evE_v4, evE_v5, evE_v6, evE_v7, evE_v8, evE_v9, evE_v10, evE_int, evE_bl, evE_non, evE_str, evE_bin, evE_neg, evE_not, evE_cmp, evE_tup, evE_lst, evE_ix, evE_call, evE_bi, evE_sl, evE_isi, andB_t, andB_f, orB_t, orB_f, andB_b, orB_b, evE_and, evE_or, evAnd_one, evOr_one, evAnd_two, evOr_two, evEs_nil, evEs_cons, evSs_nil, evSs_cons, evS_ex, evS_ret, ifB_t, ifB_f, evS_ife, evS_raise, evS_for, seq_t, seq_l, it_seq, ans_nx, ans_rt, ans_xc, forL_nil, forL_cons, ix_t0, ix_t1, ix_t2, ix_t3, o_add, o_sub, o_mul, o_fdiv, o_mod, o_neg, o_not, c_lt, c_le, c_gt, c_ge, c_eq, c_ne, c_eq2, c_ne2, c_eq3, c_ne3, c_is, c_isnot, isi_tt, isi_lt, isi_it, isi_ii, isi_ib, isi_ll, len_t1, len_t2, len_t3, len_t4, len_l, abs_i, tup_l, part_0, part_1, sl_l, call_0, call_1, call_2, call_3, call_4, call_5, call_6, call_7, glob_0, glob_1, glob_2, evE_v11, evE_v12, evE_v13, evE_v14, evE_v15, evE_v16, evE_v17, evE_v18, evE_v19, evE_v20, evS_set0, evS_setL0, evS_set1, evS_setL1, evS_set2, evS_setL2, evS_set3, evS_setL3, evS_set4, evS_setL4, evS_set5, evS_setL5, evS_set6, evS_setL6, evS_set7, evS_setL7, evS_set8, evS_setL8, evS_set9, evS_setL9, evS_set10, evS_setL10, evS_set11, evS_setL11, evS_set12, evS_setL12, evS_set13, evS_setL13, evS_set14, evS_setL14, evS_set15, evS_setL15, evS_set16, evS_setL16, evS_set17, evS_setL17, evS_set18, evS_setL18, evS_set19, evS_setL19, evS_set20, evS_setL20, evS_app0, evS_frz0, evS_frs0, evE_ixo0, evS_aug0, evS_app1, evS_frz1, evS_frs1, evE_ixo1, evS_aug1, evS_app2, evS_frz2, evS_frs2, evE_ixo2, evS_aug2, evS_app3, evS_frz3, evS_frs3, evE_ixo3, evS_aug3, evS_app4, evS_frz4, evS_frs4, evE_ixo4, evS_aug4, evS_app5, evS_frz5, evS_frs5, evE_ixo5, evS_aug5, evS_app6, evS_frz6, evS_frs6, evE_ixo6, evS_aug6, evS_app7, evS_frz7, evS_frs7, evE_ixo7, evS_aug7, evS_app8, evS_frz8, evS_frs8, evE_ixo8, evS_aug8, evS_app9, evS_frz9, evS_frs9, evE_ixo9, evS_aug9, evS_app10, evS_frz10, evS_frs10, evE_ixo10, evS_aug10, evS_app11, evS_frz11, evS_frs11, evE_ixo11, evS_aug11, evS_app12, evS_frz12, evS_frs12, evE_ixo12, evS_aug12, evS_app13, evS_frz13, evS_frs13, evE_ixo13, evS_aug13, evS_app14, evS_frz14, evS_frs14, evE_ixo14, evS_aug14, evS_app15, evS_frz15, evS_frs15, evE_ixo15, evS_aug15, evS_app16, evS_frz16, evS_frs16, evE_ixo16, evS_aug16, evS_pass, evE_ife, ifE_t, ifE_f, it_rng1, it_rng2, c_isnN, c_isnI, c_isN, c_isI, c_isnL, c_isnT, c_isL, c_isT, o_band, o_shr, len_t0, tup_t, call_8, call_9, call_10, call_11, call_12, rb_ok, rb_bad, rb_exc, ra_ok, ra_bad, ra_exc, ft_nx, ft_rt, ft_bad, ft_xc, List.set_cons_zero, List.set_cons_succ, List.nil_append, List.cons_append, Bool.not_true, Bool.not_false, decide_true, decide_false, eq_self, Int.reduceEq, Bool.false_or, Bool.or_false, Bool.true_or, Bool.or_true, Bool.true_and, Bool.and_true, Bool.false_and, Bool.and_false, Bool.or_self, Bool.and_self, hsh, htu, hv2, hbe, htf]
        rw [hb]
        exact ⟨_, _, _, _, _, _, _, _, _, ll_done N1 N2 Ba Bb2 Bc2 hm hl2, LM, hl2, Ba, Bb2, Bc2⟩
      · rw [decide_eq_false hl2] at hv2
        have S : Leads a' b2 c2 0 (-1) 1 0 c2 (-b2) a' := ⟨by decide, by grind, by grind, by grind⟩
        have MS := M.then S
        have hb1 := v_behind 1 k 0 1 0 (-1) 1 0 (by omega) M.det S.det
        have z1 : (1 : Int) * 0 + k * 1 = k := by omega
        have z2 : (1 : Int) * -1 + k * 0 = -1 := by omega
        have z3 : (0 : Int) * 0 + 1 * 1 = 1 := by decide
        have z4 : (0 : Int) * -1 + 1 * 0 = 0 := by decide
        rw [z1, z2, z3, z4] at hb1 MS
        have LM := L.then MS
        have hbe := v_behind p q r s k (-1) 1 0 (by omega) L.det MS.det
        obtain ⟨U1, U2, U3, U4⟩ := LM.bd h1 h2 Ha Hc Bc2 Ba
        have htf := v_turned a b c _ _ _ _ (by omega) h1 h2 LM.det
        rw [LM.e1, LM.e2, LM.e3] at htf
        have hb : evSs G_least_of w1_least_of [some (.sh (PyData.tuple [PyData.int a, PyData.int b, PyData.int c])), some (.sh (PyData.tuple [PyData.int p, PyData.int q, PyData.int r, PyData.int s])), some (.sh (PyData.tuple [PyData.int a', PyData.int b', PyData.int c'])), x3, x4] = .nx [some (.sh (PyData.tuple [PyData.int a, PyData.int b, PyData.int c])), some (.sh (PyData.tuple [PyData.int (p * k + q * 1), PyData.int (p * -1 + q * 0), PyData.int (r * k + s * 1), PyData.int (r * -1 + s * 0)])), some (.sh (PyData.tuple [PyData.int c2, PyData.int (-b2), PyData.int a'])), some (.sh (PyData.tuple [PyData.int k, PyData.int (-1), PyData.int 1, PyData.int 0])), some (.sh (PyData.tuple [PyData.int a', PyData.int b2, PyData.int c2]))] := by
          unfold G_least_of w1_least_of
          simp (disch := first | exact mulOk_bd | assumption | omega) only [evE_v0, evE_v1, evE_v2, evE_v3, evE_v4, evE_v5, evE_v6, evE_v7, evE_v8, evE_v9, evE_v10, evE_int, evE_bl, evE_non, evE_str, evE_bin, evE_neg, evE_not, evE_cmp, evE_tup, evE_lst, evE_ix, evE_call, evE_bi, evE_sl, evE_isi, andB_t, andB_f, orB_t, orB_f, andB_b, orB_b, evE_and, evE_or, evAnd_one, evOr_one, evAnd_two, evOr_two, evEs_nil, evEs_cons, evSs_nil, evSs_cons, evS_ex, evS_ret, ifB_t, ifB_f, evS_ife, evS_raise, evS_for, seq_t, seq_l, it_seq, ans_nx, ans_rt, ans_xc, forL_nil, forL_cons, ix_t0, ix_t1, ix_t2, ix_t3, o_add, o_sub, o_mul, o_fdiv, o_mod, o_neg, o_not, c_lt, c_le, c_gt, c_ge, c_eq, c_ne, c_eq2, c_ne2, c_eq3, c_ne3, c_is, c_isnot, isi_tt, isi_lt, isi_it, isi_ii, isi_ib, isi_ll, len_t1, len_t2, len_t3, len_t4, len_l, abs_i, tup_l, part_0, part_1, sl_l, call_0, call_1, call_2, call_3, call_4, call_5, call_6, call_7, glob_0, glob_1, glob_2, evE_v11, evE_v12, evE_v13, evE_v14, evE_v15, evE_v16, evE_v17, evE_v18, evE_v19, evE_v20, evS_set0, evS_setL0, evS_set1, evS_setL1, evS_set2, evS_setL2, evS_set3, evS_setL3, evS_set4, evS_setL4, evS_set5, evS_setL5, evS_set6, evS_setL6, evS_set7, evS_setL7, evS_set8, evS_setL8, evS_set9, evS_setL9, evS_set10, evS_setL10, evS_set11, evS_setL11, evS_set12, evS_setL12, evS_set13, evS_setL13, evS_set14, evS_setL14, evS_set15, evS_setL15, evS_set16, evS_setL16, evS_set17, evS_setL17, evS_set18, evS_setL18, evS_set19, evS_setL19, evS_set20, evS_setL20, evS_app0, evS_frz0, evS_frs0, evE_ixo0, evS_aug0, evS_app1, evS_frz1, evS_frs1, evE_ixo1, evS_aug1, evS_app2, evS_frz2, evS_frs2, evE_ixo2, evS_aug2, evS_app3, evS_frz3, evS_frs3, evE_ixo3, evS_aug3, evS_app4, evS_frz4, evS_frs4, evE_ixo4, evS_aug4, evS_app5, evS_frz5, evS_frs5, evE_ixo5, evS_aug5, evS_app6, evS_frz6, evS_frs6, evE_ixo6, evS_aug6, evS_app7, evS_frz7, evS_frs7, evE_ixo7, evS_aug7, evS_app8, evS_frz8, evS_frs8, evE_ixo8, evS_aug8, evS_app9, evS_frz9, evS_frs9, evE_ixo9, evS_aug9, evS_app10, evS_frz10, evS_frs10, evE_ixo10, evS_aug10, evS_app11, evS_frz11, evS_frs11, evE_ixo11, evS_aug11, evS_app12, evS_frz12, evS_frs12, evE_ixo12, evS_aug12, evS_app13, evS_frz13, evS_frs13, evE_ixo13, evS_aug13, evS_app14, evS_frz14, evS_frs14, evE_ixo14, evS_aug14, evS_app15, evS_frz15, evS_frs15, evE_ixo15, evS_aug15, evS_app16, evS_frz16, evS_frs16, evE_ixo16, evS_aug16, evS_pass, evE_ife, ifE_t, ifE_f, it_rng1, it_rng2, c_isnN, c_isnI, c_isN, c_isI, c_isnL, c_isnT, c_isL, c_isT, o_band, o_shr, len_t0, tup_t, call_8, call_9, call_10, call_11, call_12, rb_ok, rb_bad, rb_exc, ra_ok, ra_bad, ra_exc, ft_nx, ft_rt, ft_bad, ft_xc, List.set_cons_zero, List.set_cons_succ, List.nil_append, List.cons_append, Bool.not_true, Bool.not_false, decide_true, decide_false, eq_self, Int.reduceEq, Bool.false_or, Bool.or_false, Bool.true_or, Bool.or_true, Bool.true_and, Bool.and_true, Bool.false_and, Bool.and_false, Bool.or_self, Bool.and_self, hsh, htu, hv2, hb1, hbe, htf]
        rw [hb]
        have Bn : Bd m (-b2) := Bd.neg
        by_cases hca : c2 < a'
        · match A, hA with
          | 0, hA => exact absurd hA (by omega)
          | A + 1, hA => exact ll h1 h2 Ha Hb Hc hn hm A c2 (-b2) a' _ _ _ _ _ _ (by omega) LM Bc2 Bn Ba
        · have hl3 : Least c2 (-b2) a' := by
            unfold Least at hl2 ⊢
            omega
          obtain ⟨Q1, Q2⟩ := S.pos N1 N2
          exact ⟨_, _, _, _, _, _, _, _, _, ll_done Q1 Q2 Bc2 Bn Ba hm hl3, LM, hl3, Bc2, Bn, Ba⟩
/-- least_of: a least form, and a turning that leads there -/
theorem v_least_of (a b c : Int) {n : Nat} (h1 : 0 < a) (h2 : b * b < 4 * a * c) (Ha : Bd n a) (Hb : Bd n b) (Hc : Bd n c) (hn : n ≤ 8000) :
    ∃ a2 b2 c2 p q r s, sem_least_of [(PyData.tuple [PyData.int a, PyData.int b, PyData.int c])] = .ok (.tuple [(PyData.tuple [PyData.int a2, PyData.int b2, PyData.int c2]), (PyData.tuple [PyData.int p, PyData.int q, PyData.int r, PyData.int s])]) ∧ Leads a b c p q r s a2 b2 c2 ∧ Least a2 b2 c2 ∧ Bd n a2 ∧ Bd n b2 ∧ Bd n c2 ∧ Bd (3 + n + n) p ∧ Bd (3 + n + n) q ∧ Bd (3 + n + n) r ∧ Bd (3 + n + n) s := by
  obtain ⟨a2, b2, c2, p, q, r, s, y3, y4, hw, L, hl, B1, B2, B3⟩ := ll h1 h2 Ha Hb Hc hn hn _ a b c 1 0 0 1 none none (Nat.le_refl _) (Leads.id a b c) Ha Hb Hc
  obtain ⟨T1, T2, T3, T4⟩ := L.bd h1 h2 Ha Hc B1 B3
  refine ⟨a2, b2, c2, p, q, r, s, ?_, L, hl, B1, B2, B3, T1, T2, T3, T4⟩
  show (evSs G_least_of b_least_of [some (.sh _), none, none, none, none]).ans = _
  have hw2 : evS G_least_of (.while_ (.not (.call 1 (.v 2) [])) w1_least_of) [some (.sh (PyData.tuple [PyData.int a, PyData.int b, PyData.int c])), some (.sh (PyData.tuple [PyData.int 1, PyData.int 0, PyData.int 0, PyData.int 1])), some (.sh (PyData.tuple [PyData.int a, PyData.int b, PyData.int c])), none, none] = _ := evS_while.trans hw
  unfold b_least_of
  unfold G_least_of at hw2 ⊢
  simp (disch := first | exact mulOk_bd | assumption | omega) only [evE_v0, evE_v1, evE_v2, evE_v3, evE_v4, evE_v5, evE_v6, evE_v7, evE_v8, evE_v9, evE_v10, evE_int, evE_bl, evE_non, evE_str, evE_bin, evE_neg, evE_not, evE_cmp, evE_tup, evE_lst, evE_ix, evE_call, evE_bi, evE_sl, evE_isi, andB_t, andB_f, orB_t, orB_f, andB_b, orB_b, evE_and, evE_or, evAnd_one, evOr_one, evAnd_two, evOr_two, evEs_nil, evEs_cons, evSs_nil, evSs_cons, evS_ex, evS_ret, ifB_t, ifB_f, evS_ife, evS_raise, evS_for, seq_t, seq_l, it_seq, ans_nx, ans_rt, ans_xc, forL_nil, forL_cons, ix_t0, ix_t1, ix_t2, ix_t3, o_add, o_sub, o_mul, o_fdiv, o_mod, o_neg, o_not, c_lt, c_le, c_gt, c_ge, c_eq, c_ne, c_eq2, c_ne2, c_eq3, c_ne3, c_is, c_isnot, isi_tt, isi_lt, isi_it, isi_ii, isi_ib, isi_ll, len_t1, len_t2, len_t3, len_t4, len_l, abs_i, tup_l, part_0, part_1, sl_l, call_0, call_1, call_2, call_3, call_4, call_5, call_6, call_7, glob_0, glob_1, glob_2, evE_v11, evE_v12, evE_v13, evE_v14, evE_v15, evE_v16, evE_v17, evE_v18, evE_v19, evE_v20, evS_set0, evS_setL0, evS_set1, evS_setL1, evS_set2, evS_setL2, evS_set3, evS_setL3, evS_set4, evS_setL4, evS_set5, evS_setL5, evS_set6, evS_setL6, evS_set7, evS_setL7, evS_set8, evS_setL8, evS_set9, evS_setL9, evS_set10, evS_setL10, evS_set11, evS_setL11, evS_set12, evS_setL12, evS_set13, evS_setL13, evS_set14, evS_setL14, evS_set15, evS_setL15, evS_set16, evS_setL16, evS_set17, evS_setL17, evS_set18, evS_setL18, evS_set19, evS_setL19, evS_set20, evS_setL20, evS_app0, evS_frz0, evS_frs0, evE_ixo0, evS_aug0, evS_app1, evS_frz1, evS_frs1, evE_ixo1, evS_aug1, evS_app2, evS_frz2, evS_frs2, evE_ixo2, evS_aug2, evS_app3, evS_frz3, evS_frs3, evE_ixo3, evS_aug3, evS_app4, evS_frz4, evS_frs4, evE_ixo4, evS_aug4, evS_app5, evS_frz5, evS_frs5, evE_ixo5, evS_aug5, evS_app6, evS_frz6, evS_frs6, evE_ixo6, evS_aug6, evS_app7, evS_frz7, evS_frs7, evE_ixo7, evS_aug7, evS_app8, evS_frz8, evS_frs8, evE_ixo8, evS_aug8, evS_app9, evS_frz9, evS_frs9, evE_ixo9, evS_aug9, evS_app10, evS_frz10, evS_frs10, evE_ixo10, evS_aug10, evS_app11, evS_frz11, evS_frs11, evE_ixo11, evS_aug11, evS_app12, evS_frz12, evS_frs12, evE_ixo12, evS_aug12, evS_app13, evS_frz13, evS_frs13, evE_ixo13, evS_aug13, evS_app14, evS_frz14, evS_frs14, evE_ixo14, evS_aug14, evS_app15, evS_frz15, evS_frs15, evE_ixo15, evS_aug15, evS_app16, evS_frz16, evS_frs16, evE_ixo16, evS_aug16, evS_pass, evE_ife, ifE_t, ifE_f, it_rng1, it_rng2, c_isnN, c_isnI, c_isN, c_isI, c_isnL, c_isnT, c_isL, c_isT, o_band, o_shr, len_t0, tup_t, call_8, call_9, call_10, call_11, call_12, rb_ok, rb_bad, rb_exc, ra_ok, ra_bad, ra_exc, ft_nx, ft_rt, ft_bad, ft_xc, List.set_cons_zero, List.set_cons_succ, List.nil_append, List.cons_append, Bool.not_true, Bool.not_false, decide_true, decide_false, eq_self, Int.reduceEq, Bool.false_or, Bool.or_false, Bool.true_or, Bool.or_true, Bool.true_and, Bool.and_true, Bool.false_and, Bool.and_false, Bool.or_self, Bool.and_self, v_asked_form a b c (by omega) h1 h2, hw2]
end FT

namespace FT
open PySem PySem.Spec PyProof.Rows L2
/-! ### one form has one least form -/
theorem mul_ge {x y : Int} (hx : 0 < x) (hy : 0 < y) : x ≤ x * y := by
  have : x * 1 ≤ x * y := Int.mul_le_mul_of_nonneg_left (by omega) (by omega)
  omega
theorem cross_ge {b a x y : Int} (h1 : b ≤ a) (h2 : -a < b) : -(a * (x.natAbs * y.natAbs : Int)) ≤ b * x * y := by
  have e : (b * x * y).natAbs = b.natAbs * (x.natAbs * y.natAbs) := by rw [Int.natAbs_mul, Int.natAbs_mul, Nat.mul_assoc]
  have l : b.natAbs * (x.natAbs * y.natAbs) ≤ a.natAbs * (x.natAbs * y.natAbs) := Nat.mul_le_mul_right _ (by omega)
  have l2 : ((a.natAbs * (x.natAbs * y.natAbs) : Nat) : Int) = a * (x.natAbs * y.natAbs : Int) := by
    rw [Int.natCast_mul, Int.natCast_mul, Int.natAbs_of_nonneg (by omega)]
  omega
theorem worth_ge_c {a b c x y : Int} (h : Least a b c) (ha : 0 < a) (hy : y ≠ 0) : c ≤ a * x * x + b * x * y + c * y * y := by
  obtain ⟨h1, h2, h3, _⟩ := h
  have k := cross_ge (x := x) (y := y) h1 h2
  have ex : a * x * x = a * (x.natAbs * x.natAbs : Int) := by rw [Int.natAbs_mul_self', Int.mul_assoc]
  have ey : c * y * y = c * (y.natAbs * y.natAbs : Int) := by rw [Int.natAbs_mul_self', Int.mul_assoc]
  rw [ex, ey]
  have hY : (0 : Int) < (y.natAbs : Int) := by omega
  have hX : (0 : Int) ≤ (x.natAbs : Int) := by omega
  generalize (x.natAbs : Int) = X at *
  generalize (y.natAbs : Int) = Y at *
  rcases Int.le_total Y X with t | t
  · have k1 : 0 ≤ a * X * (X - Y) := Int.mul_nonneg (Int.mul_nonneg (by omega) hX) (by omega)
    have k2 : a * X * (X - Y) = a * (X * X) - a * (X * Y) := by grind
    have k3 : c ≤ c * (Y * Y) := mul_ge (by omega) (Int.mul_pos hY hY)
    omega
  · rcases Int.lt_or_le X Y with t | t'
    · have k1 : a * (X * Y) ≤ c * (X * Y) := Int.mul_le_mul_of_nonneg_right h3 (Int.mul_nonneg hX (by omega))
      have k2 : 0 ≤ a * (X * X) := Int.mul_nonneg (by omega) (Int.mul_nonneg hX hX)
      have k3 : c ≤ c * (Y * (Y - X)) := mul_ge (by omega) (Int.mul_pos hY (by omega))
      have k4 : c * (Y * (Y - X)) = c * (Y * Y) - c * (X * Y) := by grind
      omega
    · have e : X = Y := by omega
      subst e
      have k3 : c ≤ c * (X * X) := mul_ge (by omega) (Int.mul_pos hY hY)
      omega
theorem worth_ge_a {a b c x y : Int} (h : Least a b c) (ha : 0 < a) (hy : x ≠ 0 ∨ y ≠ 0) : a ≤ a * x * x + b * x * y + c * y * y := by
  by_cases h0 : y = 0
  · have hx : x ≠ 0 := by omega
    rw [h0, Int.mul_zero, Int.mul_zero, Int.add_zero, Int.add_zero, Int.mul_assoc]
    have := le_sq x
    exact mul_ge ha (by omega)
  · have := worth_ge_c (x := x) h ha h0
    have := h.2.2.1
    omega
theorem least_disc {a b c : Int} (h : Least a b c) (ha : 0 < a) : b * b < 4 * a * c := by
  obtain ⟨h1, h2, h3, _⟩ := h
  have k1 : (b.natAbs : Int) * b.natAbs ≤ a * a := Int.mul_le_mul (by omega) (by omega) (by omega) (by omega)
  rw [Int.natAbs_mul_self'] at k1
  have k2 : a * a ≤ a * c := Int.mul_le_mul_of_nonneg_left h3 (by omega)
  have k3 : 4 * a * c = 4 * (a * c) := by grind
  have k4 : 0 < a * a := Int.mul_pos ha ha
  omega
theorem det_ne {p q r s : Int} (d : p * s - q * r = 1) : p ≠ 0 ∨ r ≠ 0 := by
  by_cases hp : p = 0
  · refine .inr fun hr => ?_
    rw [hp, hr] at d
    omega
  · exact .inl hp
theorem least_a {a b c p q r s a' b' c' : Int} (L : Leads a b c p q r s a' b' c') (h : Least a b c) (ha : 0 < a) : a ≤ a' := by
  rw [← L.e1]
  exact worth_ge_a h ha (det_ne L.det)
theorem least_c {a b c p q r s a' b' c' : Int} (L : Leads a b c p q r s a' b' c') (h : Least a b c) (ha : 0 < a) (hr : r ≠ 0) : c ≤ a' := by
  rw [← L.e1]
  exact worth_ge_c h ha hr
theorem sq_eq {x y : Int} (hx : 0 ≤ x) (hy : 0 ≤ y) (h : x * x = y * y) : x = y := by
  have h1 := sq_le_abs (x := x) (y := y) (by omega)
  have h2 := sq_le_abs (x := y) (y := x) (by omega)
  omega
/-- two least forms of one class are one -/
theorem least_uniq {a b c p q r s a' b' c' : Int} (L : Leads a b c p q r s a' b' c') (h : Least a b c) (h' : Least a' b' c') (ha : 0 < a) : a = a' ∧ b = b' ∧ c = c' := by
  have hd := least_disc h ha
  have ha' := (L.pos ha hd).1
  have l1 := least_a L h ha
  have l2 := least_a L.back h' ha'
  have ea : a' = a := by omega
  have hbar := L.bar
  have done : b = b' → a = a' ∧ b = b' ∧ c = c' := fun e => by
    refine ⟨by omega, e, ?_⟩
    rw [ea, ← e] at hbar
    have : 4 * a * c' = 4 * a * c := by omega
    exact (Int.eq_of_mul_eq_mul_left (by omega) this).symm
  by_cases hr : r = 0
  · apply done
    have hps : p * s = 1 := by
      have := L.det
      rw [hr, Int.mul_zero] at this
      omega
    have e2 := L.e2
    rw [hr, hps, Int.mul_zero, Int.add_zero, Int.mul_one, Int.mul_zero, Int.zero_mul, Int.add_zero, Int.mul_assoc (2 * a)] at e2
    rcases Int.lt_trichotomy (p * q) 0 with t | t | t
    · have : 2 * a * (p * q) ≤ 2 * a * (-1) := Int.mul_le_mul_of_nonneg_left (by omega) (by omega)
      have := h.1
      have := h'.2.1
      omega
    · rw [t, Int.mul_zero] at e2
      omega
    · have : 2 * a * 1 ≤ 2 * a * (p * q) := Int.mul_le_mul_of_nonneg_left (by omega) (by omega)
      have := h.2.1
      have := h'.1
      omega
  · have l3 := least_c L h ha hr
    have l4 := least_c L.back h' ha' (by omega)
    have hb : 0 ≤ b := by
      have := h.2.2
      omega
    have hb' : 0 ≤ b' := by
      have := h'.2.2
      omega
    apply done
    have ec : c = a := by have := h.2.2.1; omega
    have ec' : c' = a := by have := h'.2.2.1; omega
    rw [ea, ec, ec'] at hbar
    exact (sq_eq hb' hb (by omega)).symm
/-! ### the law's helpers -/
theorem w_turnedL {a b c p q r s A B C : Int} (L : Leads a b c p q r s A B C) {n m l n1 n2 n3 n4 : Nat} [Bd n a] [Bd m b] [Bd l c] [Bd n1 p] [Bd n2 q] [Bd n3 r] [Bd n4 s] (hn : n + m + l + n1 + n2 + n3 + n4 ≤ 1000000) :
    sem__law_turned [(PyData.tuple [PyData.int a, PyData.int b, PyData.int c]), (PyData.tuple [PyData.int p, PyData.int q, PyData.int r, PyData.int s])] = .ok (PyData.tuple [PyData.int A, PyData.int B, PyData.int C]) := by
  rw [w_turned a b c p q r s hn, ← L.e1, ← L.e2, ← L.e3]
  have : a * (p + q) * (p + q) + b * (p + q) * (r + s) + c * (r + s) * (r + s) - (a * p * p + b * p * r + c * r * r) - (a * q * q + b * q * s + c * s * s) = 2 * a * p * q + b * (p * s + q * r) + 2 * c * r * s := by grind
  rw [this]
theorem lead_ex (a b c p q r s : Int) {n k : Nat} (h1 : Bd n a) (h2 : Bd n b) (h3 : Bd n c) (k1 : Bd k p) (k2 : Bd k q) (k3 : Bd k r) (k4 : Bd k s) (d : p * s - q * r = 1) :
    ∃ A B C, Leads a b c p q r s A B C ∧ Bd (n + k + k + 6) A ∧ Bd (n + k + k + 6) B ∧ Bd (n + k + k + 6) C :=
  ⟨_, _, _, ⟨d, rfl, rfl, rfl⟩, Bd.get, Bd.get, Bd.get⟩
theorem w_good0 (a b c : Int) (ha : 0 < a) : sem__law_good [(PyData.tuple [PyData.int a, PyData.int b, PyData.int c])] = .ok (.bool (decide (b ≤ a ∧ -a < b ∧ a ≤ c ∧ (a < c ∨ 0 ≤ b)))) := by
  show (evSs G__law_good b__law_good [some (.sh _)]).ans = _
  unfold b__law_good G__law_good
  simp (disch := first | exact mulOk_bd | assumption | omega) only [evE_v0, evE_v1, evE_v2, evE_v3, evE_v4, evE_v5, evE_v6, evE_v7, evE_v8, evE_v9, evE_v10, evE_int, evE_bl, evE_non, evE_str, evE_bin, evE_neg, evE_not, evE_cmp, evE_tup, evE_lst, evE_ix, evE_call, evE_bi, evE_sl, evE_isi, andB_t, andB_f, orB_t, orB_f, andB_b, orB_b, evE_and, evE_or, evAnd_one, evOr_one, evAnd_two, evOr_two, evEs_nil, evEs_cons, evSs_nil, evSs_cons, evS_ex, evS_ret, ifB_t, ifB_f, evS_ife, evS_raise, evS_for, seq_t, seq_l, it_seq, ans_nx, ans_rt, ans_xc, forL_nil, forL_cons, ix_t0, ix_t1, ix_t2, ix_t3, o_add, o_sub, o_mul, o_fdiv, o_mod, o_neg, o_not, c_lt, c_le, c_gt, c_ge, c_eq, c_ne, c_eq2, c_ne2, c_eq3, c_ne3, c_is, c_isnot, isi_tt, isi_lt, isi_it, isi_ii, isi_ib, isi_ll, len_t1, len_t2, len_t3, len_t4, len_l, abs_i, tup_l, part_0, part_1, sl_l, call_0, call_1, call_2, call_3, call_4, call_5, call_6, call_7, glob_0, glob_1, glob_2, evE_v11, evE_v12, evE_v13, evE_v14, evE_v15, evE_v16, evE_v17, evE_v18, evE_v19, evE_v20, evS_set0, evS_setL0, evS_set1, evS_setL1, evS_set2, evS_setL2, evS_set3, evS_setL3, evS_set4, evS_setL4, evS_set5, evS_setL5, evS_set6, evS_setL6, evS_set7, evS_setL7, evS_set8, evS_setL8, evS_set9, evS_setL9, evS_set10, evS_setL10, evS_set11, evS_setL11, evS_set12, evS_setL12, evS_set13, evS_setL13, evS_set14, evS_setL14, evS_set15, evS_setL15, evS_set16, evS_setL16, evS_set17, evS_setL17, evS_set18, evS_setL18, evS_set19, evS_setL19, evS_set20, evS_setL20, evS_app0, evS_frz0, evS_frs0, evE_ixo0, evS_aug0, evS_app1, evS_frz1, evS_frs1, evE_ixo1, evS_aug1, evS_app2, evS_frz2, evS_frs2, evE_ixo2, evS_aug2, evS_app3, evS_frz3, evS_frs3, evE_ixo3, evS_aug3, evS_app4, evS_frz4, evS_frs4, evE_ixo4, evS_aug4, evS_app5, evS_frz5, evS_frs5, evE_ixo5, evS_aug5, evS_app6, evS_frz6, evS_frs6, evE_ixo6, evS_aug6, evS_app7, evS_frz7, evS_frs7, evE_ixo7, evS_aug7, evS_app8, evS_frz8, evS_frs8, evE_ixo8, evS_aug8, evS_app9, evS_frz9, evS_frs9, evE_ixo9, evS_aug9, evS_app10, evS_frz10, evS_frs10, evE_ixo10, evS_aug10, evS_app11, evS_frz11, evS_frs11, evE_ixo11, evS_aug11, evS_app12, evS_frz12, evS_frs12, evE_ixo12, evS_aug12, evS_app13, evS_frz13, evS_frs13, evE_ixo13, evS_aug13, evS_app14, evS_frz14, evS_frs14, evE_ixo14, evS_aug14, evS_app15, evS_frz15, evS_frs15, evE_ixo15, evS_aug15, evS_app16, evS_frz16, evS_frs16, evE_ixo16, evS_aug16, evS_pass, evE_ife, ifE_t, ifE_f, it_rng1, it_rng2, c_isnN, c_isnI, c_isN, c_isI, c_isnL, c_isnT, c_isL, c_isT, o_band, o_shr, len_t0, tup_t, call_8, call_9, call_10, call_11, call_12, rb_ok, rb_bad, rb_exc, ra_ok, ra_bad, ra_exc, ft_nx, ft_rt, ft_bad, ft_xc, List.set_cons_zero, List.set_cons_succ, List.nil_append, List.cons_append, Bool.not_true, Bool.not_false, decide_true, decide_false, eq_self, Int.reduceEq, Bool.false_or, Bool.or_false, Bool.true_or, Bool.or_true, Bool.true_and, Bool.and_true, Bool.false_and, Bool.and_false, Bool.or_self, Bool.and_self, w_ints3]
  by_cases q1 : a < b
  · simp (disch := first | exact mulOk_bd | assumption | omega) only [evE_v0, evE_v1, evE_v2, evE_v3, evE_v4, evE_v5, evE_v6, evE_v7, evE_v8, evE_v9, evE_v10, evE_int, evE_bl, evE_non, evE_str, evE_bin, evE_neg, evE_not, evE_cmp, evE_tup, evE_lst, evE_ix, evE_call, evE_bi, evE_sl, evE_isi, andB_t, andB_f, orB_t, orB_f, andB_b, orB_b, evE_and, evE_or, evAnd_one, evOr_one, evAnd_two, evOr_two, evEs_nil, evEs_cons, evSs_nil, evSs_cons, evS_ex, evS_ret, ifB_t, ifB_f, evS_ife, evS_raise, evS_for, seq_t, seq_l, it_seq, ans_nx, ans_rt, ans_xc, forL_nil, forL_cons, ix_t0, ix_t1, ix_t2, ix_t3, o_add, o_sub, o_mul, o_fdiv, o_mod, o_neg, o_not, c_lt, c_le, c_gt, c_ge, c_eq, c_ne, c_eq2, c_ne2, c_eq3, c_ne3, c_is, c_isnot, isi_tt, isi_lt, isi_it, isi_ii, isi_ib, isi_ll, len_t1, len_t2, len_t3, len_t4, len_l, abs_i, tup_l, part_0, part_1, sl_l, call_0, call_1, call_2, call_3, call_4, call_5, call_6, call_7, glob_0, glob_1, glob_2, evE_v11, evE_v12, evE_v13, evE_v14, evE_v15, evE_v16, evE_v17, evE_v18, evE_v19, evE_v20, evS_set0, evS_setL0, evS_set1, evS_setL1, evS_set2, evS_setL2, evS_set3, evS_setL3, evS_set4, evS_setL4, evS_set5, evS_setL5, evS_set6, evS_setL6, evS_set7, evS_setL7, evS_set8, evS_setL8, evS_set9, evS_setL9, evS_set10, evS_setL10, evS_set11, evS_setL11, evS_set12, evS_setL12, evS_set13, evS_setL13, evS_set14, evS_setL14, evS_set15, evS_setL15, evS_set16, evS_setL16, evS_set17, evS_setL17, evS_set18, evS_setL18, evS_set19, evS_setL19, evS_set20, evS_setL20, evS_app0, evS_frz0, evS_frs0, evE_ixo0, evS_aug0, evS_app1, evS_frz1, evS_frs1, evE_ixo1, evS_aug1, evS_app2, evS_frz2, evS_frs2, evE_ixo2, evS_aug2, evS_app3, evS_frz3, evS_frs3, evE_ixo3, evS_aug3, evS_app4, evS_frz4, evS_frs4, evE_ixo4, evS_aug4, evS_app5, evS_frz5, evS_frs5, evE_ixo5, evS_aug5, evS_app6, evS_frz6, evS_frs6, evE_ixo6, evS_aug6, evS_app7, evS_frz7, evS_frs7, evE_ixo7, evS_aug7, evS_app8, evS_frz8, evS_frs8, evE_ixo8, evS_aug8, evS_app9, evS_frz9, evS_frs9, evE_ixo9, evS_aug9, evS_app10, evS_frz10, evS_frs10, evE_ixo10, evS_aug10, evS_app11, evS_frz11, evS_frs11, evE_ixo11, evS_aug11, evS_app12, evS_frz12, evS_frs12, evE_ixo12, evS_aug12, evS_app13, evS_frz13, evS_frs13, evE_ixo13, evS_aug13, evS_app14, evS_frz14, evS_frs14, evE_ixo14, evS_aug14, evS_app15, evS_frz15, evS_frs15, evE_ixo15, evS_aug15, evS_app16, evS_frz16, evS_frs16, evE_ixo16, evS_aug16, evS_pass, evE_ife, ifE_t, ifE_f, it_rng1, it_rng2, c_isnN, c_isnI, c_isN, c_isI, c_isnL, c_isnT, c_isL, c_isT, o_band, o_shr, len_t0, tup_t, call_8, call_9, call_10, call_11, call_12, rb_ok, rb_bad, rb_exc, ra_ok, ra_bad, ra_exc, ft_nx, ft_rt, ft_bad, ft_xc, List.set_cons_zero, List.set_cons_succ, List.nil_append, List.cons_append, Bool.not_true, Bool.not_false, decide_true, decide_false, eq_self, Int.reduceEq, Bool.false_or, Bool.or_false, Bool.true_or, Bool.or_true, Bool.true_and, Bool.and_true, Bool.false_and, Bool.and_false, Bool.or_self, Bool.and_self, decide_eq_true q1]
    rw [decide_eq_false (by omega)]
  · by_cases q2 : b ≤ -a
    · simp (disch := first | exact mulOk_bd | assumption | omega) only [evE_v0, evE_v1, evE_v2, evE_v3, evE_v4, evE_v5, evE_v6, evE_v7, evE_v8, evE_v9, evE_v10, evE_int, evE_bl, evE_non, evE_str, evE_bin, evE_neg, evE_not, evE_cmp, evE_tup, evE_lst, evE_ix, evE_call, evE_bi, evE_sl, evE_isi, andB_t, andB_f, orB_t, orB_f, andB_b, orB_b, evE_and, evE_or, evAnd_one, evOr_one, evAnd_two, evOr_two, evEs_nil, evEs_cons, evSs_nil, evSs_cons, evS_ex, evS_ret, ifB_t, ifB_f, evS_ife, evS_raise, evS_for, seq_t, seq_l, it_seq, ans_nx, ans_rt, ans_xc, forL_nil, forL_cons, ix_t0, ix_t1, ix_t2, ix_t3, o_add, o_sub, o_mul, o_fdiv, o_mod, o_neg, o_not, c_lt, c_le, c_gt, c_ge, c_eq, c_ne, c_eq2, c_ne2, c_eq3, c_ne3, c_is, c_isnot, isi_tt, isi_lt, isi_it, isi_ii, isi_ib, isi_ll, len_t1, len_t2, len_t3, len_t4, len_l, abs_i, tup_l, part_0, part_1, sl_l, call_0, call_1, call_2, call_3, call_4, call_5, call_6, call_7, glob_0, glob_1, glob_2, evE_v11, evE_v12, evE_v13, evE_v14, evE_v15, evE_v16, evE_v17, evE_v18, evE_v19, evE_v20, evS_set0, evS_setL0, evS_set1, evS_setL1, evS_set2, evS_setL2, evS_set3, evS_setL3, evS_set4, evS_setL4, evS_set5, evS_setL5, evS_set6, evS_setL6, evS_set7, evS_setL7, evS_set8, evS_setL8, evS_set9, evS_setL9, evS_set10, evS_setL10, evS_set11, evS_setL11, evS_set12, evS_setL12, evS_set13, evS_setL13, evS_set14, evS_setL14, evS_set15, evS_setL15, evS_set16, evS_setL16, evS_set17, evS_setL17, evS_set18, evS_setL18, evS_set19, evS_setL19, evS_set20, evS_setL20, evS_app0, evS_frz0, evS_frs0, evE_ixo0, evS_aug0, evS_app1, evS_frz1, evS_frs1, evE_ixo1, evS_aug1, evS_app2, evS_frz2, evS_frs2, evE_ixo2, evS_aug2, evS_app3, evS_frz3, evS_frs3, evE_ixo3, evS_aug3, evS_app4, evS_frz4, evS_frs4, evE_ixo4, evS_aug4, evS_app5, evS_frz5, evS_frs5, evE_ixo5, evS_aug5, evS_app6, evS_frz6, evS_frs6, evE_ixo6, evS_aug6, evS_app7, evS_frz7, evS_frs7, evE_ixo7, evS_aug7, evS_app8, evS_frz8, evS_frs8, evE_ixo8, evS_aug8, evS_app9, evS_frz9, evS_frs9, evE_ixo9, evS_aug9, evS_app10, evS_frz10, evS_frs10, evE_ixo10, evS_aug10, evS_app11, evS_frz11, evS_frs11, evE_ixo11, evS_aug11, evS_app12, evS_frz12, evS_frs12, evE_ixo12, evS_aug12, evS_app13, evS_frz13, evS_frs13, evE_ixo13, evS_aug13, evS_app14, evS_frz14, evS_frs14, evE_ixo14, evS_aug14, evS_app15, evS_frz15, evS_frs15, evE_ixo15, evS_aug15, evS_app16, evS_frz16, evS_frs16, evE_ixo16, evS_aug16, evS_pass, evE_ife, ifE_t, ifE_f, it_rng1, it_rng2, c_isnN, c_isnI, c_isN, c_isI, c_isnL, c_isnT, c_isL, c_isT, o_band, o_shr, len_t0, tup_t, call_8, call_9, call_10, call_11, call_12, rb_ok, rb_bad, rb_exc, ra_ok, ra_bad, ra_exc, ft_nx, ft_rt, ft_bad, ft_xc, List.set_cons_zero, List.set_cons_succ, List.nil_append, List.cons_append, Bool.not_true, Bool.not_false, decide_true, decide_false, eq_self, Int.reduceEq, Bool.false_or, Bool.or_false, Bool.true_or, Bool.or_true, Bool.true_and, Bool.and_true, Bool.false_and, Bool.and_false, Bool.or_self, Bool.and_self, decide_eq_false q1, decide_eq_true q2]
      rw [decide_eq_false (by omega)]
    · by_cases q3 : c < a
      · simp (disch := first | exact mulOk_bd | assumption | omega) only [evE_v0, evE_v1, evE_v2, evE_v3, evE_v4, evE_v5, evE_v6, evE_v7, evE_v8, evE_v9, evE_v10, evE_int, evE_bl, evE_non, evE_str, evE_bin, evE_neg, evE_not, evE_cmp, evE_tup, evE_lst, evE_ix, evE_call, evE_bi, evE_sl, evE_isi, andB_t, andB_f, orB_t, orB_f, andB_b, orB_b, evE_and, evE_or, evAnd_one, evOr_one, evAnd_two, evOr_two, evEs_nil, evEs_cons, evSs_nil, evSs_cons, evS_ex, evS_ret, ifB_t, ifB_f, evS_ife, evS_raise, evS_for, seq_t, seq_l, it_seq, ans_nx, ans_rt, ans_xc, forL_nil, forL_cons, ix_t0, ix_t1, ix_t2, ix_t3, o_add, o_sub, o_mul, o_fdiv, o_mod, o_neg, o_not, c_lt, c_le, c_gt, c_ge, c_eq, c_ne, c_eq2, c_ne2, c_eq3, c_ne3, c_is, c_isnot, isi_tt, isi_lt, isi_it, isi_ii, isi_ib, isi_ll, len_t1, len_t2, len_t3, len_t4, len_l, abs_i, tup_l, part_0, part_1, sl_l, call_0, call_1, call_2, call_3, call_4, call_5, call_6, call_7, glob_0, glob_1, glob_2, evE_v11, evE_v12, evE_v13, evE_v14, evE_v15, evE_v16, evE_v17, evE_v18, evE_v19, evE_v20, evS_set0, evS_setL0, evS_set1, evS_setL1, evS_set2, evS_setL2, evS_set3, evS_setL3, evS_set4, evS_setL4, evS_set5, evS_setL5, evS_set6, evS_setL6, evS_set7, evS_setL7, evS_set8, evS_setL8, evS_set9, evS_setL9, evS_set10, evS_setL10, evS_set11, evS_setL11, evS_set12, evS_setL12, evS_set13, evS_setL13, evS_set14, evS_setL14, evS_set15, evS_setL15, evS_set16, evS_setL16, evS_set17, evS_setL17, evS_set18, evS_setL18, evS_set19, evS_setL19, evS_set20, evS_setL20, evS_app0, evS_frz0, evS_frs0, evE_ixo0, evS_aug0, evS_app1, evS_frz1, evS_frs1, evE_ixo1, evS_aug1, evS_app2, evS_frz2, evS_frs2, evE_ixo2, evS_aug2, evS_app3, evS_frz3, evS_frs3, evE_ixo3, evS_aug3, evS_app4, evS_frz4, evS_frs4, evE_ixo4, evS_aug4, evS_app5, evS_frz5, evS_frs5, evE_ixo5, evS_aug5, evS_app6, evS_frz6, evS_frs6, evE_ixo6, evS_aug6, evS_app7, evS_frz7, evS_frs7, evE_ixo7, evS_aug7, evS_app8, evS_frz8, evS_frs8, evE_ixo8, evS_aug8, evS_app9, evS_frz9, evS_frs9, evE_ixo9, evS_aug9, evS_app10, evS_frz10, evS_frs10, evE_ixo10, evS_aug10, evS_app11, evS_frz11, evS_frs11, evE_ixo11, evS_aug11, evS_app12, evS_frz12, evS_frs12, evE_ixo12, evS_aug12, evS_app13, evS_frz13, evS_frs13, evE_ixo13, evS_aug13, evS_app14, evS_frz14, evS_frs14, evE_ixo14, evS_aug14, evS_app15, evS_frz15, evS_frs15, evE_ixo15, evS_aug15, evS_app16, evS_frz16, evS_frs16, evE_ixo16, evS_aug16, evS_pass, evE_ife, ifE_t, ifE_f, it_rng1, it_rng2, c_isnN, c_isnI, c_isN, c_isI, c_isnL, c_isnT, c_isL, c_isT, o_band, o_shr, len_t0, tup_t, call_8, call_9, call_10, call_11, call_12, rb_ok, rb_bad, rb_exc, ra_ok, ra_bad, ra_exc, ft_nx, ft_rt, ft_bad, ft_xc, List.set_cons_zero, List.set_cons_succ, List.nil_append, List.cons_append, Bool.not_true, Bool.not_false, decide_true, decide_false, eq_self, Int.reduceEq, Bool.false_or, Bool.or_false, Bool.true_or, Bool.or_true, Bool.true_and, Bool.and_true, Bool.false_and, Bool.and_false, Bool.or_self, Bool.and_self, decide_eq_false q1, decide_eq_false q2, decide_eq_true q3]
        rw [decide_eq_false (by omega)]
      · simp (disch := first | exact mulOk_bd | assumption | omega) only [evE_v0, evE_v1, evE_v2, evE_v3, evE_v4, evE_v5, evE_v6, evE_v7, evE_v8, evE_v9, evE_v10, evE_int, evE_bl, evE_non, evE_str, evE_bin, evE_neg, evE_not, evE_cmp, evE_tup, evE_lst, evE_ix, evE_call, evE_bi, evE_sl, evE_isi, andB_t, andB_f, orB_t, orB_f, andB_b, orB_b, evE_and, evE_or, evAnd_one, evOr_one, evAnd_two, evOr_two, evEs_nil, evEs_cons, evSs_nil, evSs_cons, evS_ex, evS_ret, ifB_t, ifB_f, evS_ife, evS_raise, evS_for, seq_t, seq_l, it_seq, ans_nx, ans_rt, ans_xc, forL_nil, forL_cons, ix_t0, ix_t1, ix_t2, ix_t3, o_add, o_sub, o_mul, o_fdiv, o_mod, o_neg, o_not, c_lt, c_le, c_gt, c_ge, c_eq, c_ne, c_eq2, c_ne2, c_eq3, c_ne3, c_is, c_isnot, isi_tt, isi_lt, isi_it, isi_ii, isi_ib, isi_ll, len_t1, len_t2, len_t3, len_t4, len_l, abs_i, tup_l, part_0, part_1, sl_l, call_0, call_1, call_2, call_3, call_4, call_5, call_6, call_7, glob_0, glob_1, glob_2, evE_v11, evE_v12, evE_v13, evE_v14, evE_v15, evE_v16, evE_v17, evE_v18, evE_v19, evE_v20, evS_set0, evS_setL0, evS_set1, evS_setL1, evS_set2, evS_setL2, evS_set3, evS_setL3, evS_set4, evS_setL4, evS_set5, evS_setL5, evS_set6, evS_setL6, evS_set7, evS_setL7, evS_set8, evS_setL8, evS_set9, evS_setL9, evS_set10, evS_setL10, evS_set11, evS_setL11, evS_set12, evS_setL12, evS_set13, evS_setL13, evS_set14, evS_setL14, evS_set15, evS_setL15, evS_set16, evS_setL16, evS_set17, evS_setL17, evS_set18, evS_setL18, evS_set19, evS_setL19, evS_set20, evS_setL20, evS_app0, evS_frz0, evS_frs0, evE_ixo0, evS_aug0, evS_app1, evS_frz1, evS_frs1, evE_ixo1, evS_aug1, evS_app2, evS_frz2, evS_frs2, evE_ixo2, evS_aug2, evS_app3, evS_frz3, evS_frs3, evE_ixo3, evS_aug3, evS_app4, evS_frz4, evS_frs4, evE_ixo4, evS_aug4, evS_app5, evS_frz5, evS_frs5, evE_ixo5, evS_aug5, evS_app6, evS_frz6, evS_frs6, evE_ixo6, evS_aug6, evS_app7, evS_frz7, evS_frs7, evE_ixo7, evS_aug7, evS_app8, evS_frz8, evS_frs8, evE_ixo8, evS_aug8, evS_app9, evS_frz9, evS_frs9, evE_ixo9, evS_aug9, evS_app10, evS_frz10, evS_frs10, evE_ixo10, evS_aug10, evS_app11, evS_frz11, evS_frs11, evE_ixo11, evS_aug11, evS_app12, evS_frz12, evS_frs12, evE_ixo12, evS_aug12, evS_app13, evS_frz13, evS_frs13, evE_ixo13, evS_aug13, evS_app14, evS_frz14, evS_frs14, evE_ixo14, evS_aug14, evS_app15, evS_frz15, evS_frs15, evE_ixo15, evS_aug15, evS_app16, evS_frz16, evS_frs16, evE_ixo16, evS_aug16, evS_pass, evE_ife, ifE_t, ifE_f, it_rng1, it_rng2, c_isnN, c_isnI, c_isN, c_isI, c_isnL, c_isnT, c_isL, c_isT, o_band, o_shr, len_t0, tup_t, call_8, call_9, call_10, call_11, call_12, rb_ok, rb_bad, rb_exc, ra_ok, ra_bad, ra_exc, ft_nx, ft_rt, ft_bad, ft_xc, List.set_cons_zero, List.set_cons_succ, List.nil_append, List.cons_append, Bool.not_true, Bool.not_false, decide_true, decide_false, eq_self, Int.reduceEq, Bool.false_or, Bool.or_false, Bool.true_or, Bool.or_true, Bool.true_and, Bool.and_true, Bool.false_and, Bool.and_false, Bool.or_self, Bool.and_self, decide_eq_false q1, decide_eq_false q2, decide_eq_false q3, decide_eq_true ha]
        by_cases q4 : a < c
        · have e : decide (b ≤ a ∧ -a < b ∧ a ≤ c ∧ (a < c ∨ 0 ≤ b)) = true := decide_eq_true (by omega)
          rw [decide_eq_true q4, e, Bool.true_or]
        · by_cases q5 : 0 ≤ b
          · have e : decide (b ≤ a ∧ -a < b ∧ a ≤ c ∧ (a < c ∨ 0 ≤ b)) = true := decide_eq_true (by omega)
            rw [decide_eq_true q5, e, Bool.or_true]
          · have e : decide (b ≤ a ∧ -a < b ∧ a ≤ c ∧ (a < c ∨ 0 ≤ b)) = false := decide_eq_false (by omega)
            rw [decide_eq_false q4, decide_eq_false q5, e]
            rfl
theorem w_good (a b c : Int) (ha : 0 < a) : sem__law_good [(PyData.tuple [PyData.int a, PyData.int b, PyData.int c])] = .ok (.bool (decide (Least a b c))) := w_good0 a b c ha
theorem w_least_by (ns : List Int) (hs : ∀ z ∈ ns, Small z) (k : Nat) (hk : k ≤ 100) : ∃ a b c, sem__law_least_by [.list (ns.map .int), .int k] = .ok (PyData.tuple [PyData.int a, PyData.int b, PyData.int c]) ∧ 0 < a ∧ Least a b c ∧ Bd 140 a ∧ Bd 140 b ∧ Bd 140 c := by
  have c0 := w_cell ns k
  have c1 : sem__law_cell_at [.list (ns.map .int), .int (k + 1)] = _ := w_cell ns (k + 1)
  have c2 : sem__law_cell_at [.list (ns.map .int), .int (k + 2)] = _ := w_cell ns (k + 2)
  have c3 : sem__law_cell_at [.list (ns.map .int), .int (k + 3)] = _ := w_cell ns (k + 3)
  have s0 := (small_cell hs k).up (show 1048577 ≤ 1048580 by decide)
  have s1 := (small_cell hs (k + 1)).up (show 1048577 ≤ 1048580 by decide)
  have s2 := (small_cell hs (k + 2)).up (show 1048577 ≤ 1048580 by decide)
  have s3 := (small_cell hs (k + 3)).up (show 1048577 ≤ 1048580 by decide)
  have s4 : Bd 1048580 (cell ns (k + 3) / 6) := Bd.up (n := 1048578) (Bd.div (h := small_cell hs (k + 3))) (by decide)
  generalize cell ns k = x0 at *
  generalize cell ns (k + 1) = x1 at *
  generalize cell ns (k + 2) = x2 at *
  generalize cell ns (k + 3) = x3 at *
  have g0 := w_great x0 x3
  have g2 := w_great x2 (x3 / 6)
  have h0 := great_bd x0 x3
  have h2 := great_bd x2 (x3 / 6)
  have B0 := great_Bd x0 x3
  have B2 := great_Bd x2 (x3 / 6)
  generalize great x0 x3 = a0 at *
  generalize great x2 (x3 / 6) = q0 at *
  obtain ⟨a, ea, Ba⟩ : ∃ a, 1 + a0 = a ∧ Bd 134 a := ⟨_, rfl, Bd.get⟩
  have ha : 0 < a := by omega
  have hp : 0 < 2 * a := by omega
  obtain ⟨b, eb⟩ : ∃ b, a - (x1 * 7919 + (k : Int)) % (2 * a) = b := ⟨_, rfl⟩
  have r1 := Int.emod_nonneg (x1 * 7919 + (k : Int)) (show 2 * a ≠ 0 by omega)
  have r2 := Int.emod_lt_of_pos (x1 * 7919 + (k : Int)) hp
  have Bb : Bd 134 b := Bd.abs_le (by omega) Ba
  obtain ⟨c, ec, Bc⟩ : ∃ c, a + q0 = c ∧ Bd 135 c := ⟨_, rfl, Bd.get⟩
  have nk : Bd 7 (k : Int) := Bd.of_lt (by omega) (by omega)
  show ∃ a b c, (evSs G__law_least_by b__law_least_by [some (.sh _), some (.sh _), none, none, none, none]).ans = _ ∧ _
  unfold b__law_least_by G__law_least_by
  have z6 : divOk 6 = true := by decide +kernel
  by_cases k1 : x3 % 6 = 1
  · refine ⟨a, a, a, ?_, ha, ⟨by omega, by omega, by omega, by omega⟩, Ba.up (by decide), Ba.up (by decide), Ba.up (by decide)⟩
    simp (disch := first | exact mulOk_bd | assumption | omega) only [evE_v0, evE_v1, evE_v2, evE_v3, evE_v4, evE_v5, evE_v6, evE_v7, evE_v8, evE_v9, evE_v10, evE_int, evE_bl, evE_non, evE_str, evE_bin, evE_neg, evE_not, evE_cmp, evE_tup, evE_lst, evE_ix, evE_call, evE_bi, evE_sl, evE_isi, andB_t, andB_f, orB_t, orB_f, andB_b, orB_b, evE_and, evE_or, evAnd_one, evOr_one, evAnd_two, evOr_two, evEs_nil, evEs_cons, evSs_nil, evSs_cons, evS_ex, evS_ret, ifB_t, ifB_f, evS_ife, evS_raise, evS_for, seq_t, seq_l, it_seq, ans_nx, ans_rt, ans_xc, forL_nil, forL_cons, ix_t0, ix_t1, ix_t2, ix_t3, o_add, o_sub, o_mul, o_fdiv, o_mod, o_neg, o_not, c_lt, c_le, c_gt, c_ge, c_eq, c_ne, c_eq2, c_ne2, c_eq3, c_ne3, c_is, c_isnot, isi_tt, isi_lt, isi_it, isi_ii, isi_ib, isi_ll, len_t1, len_t2, len_t3, len_t4, len_l, abs_i, tup_l, part_0, part_1, sl_l, call_0, call_1, call_2, call_3, call_4, call_5, call_6, call_7, glob_0, glob_1, glob_2, evE_v11, evE_v12, evE_v13, evE_v14, evE_v15, evE_v16, evE_v17, evE_v18, evE_v19, evE_v20, evS_set0, evS_setL0, evS_set1, evS_setL1, evS_set2, evS_setL2, evS_set3, evS_setL3, evS_set4, evS_setL4, evS_set5, evS_setL5, evS_set6, evS_setL6, evS_set7, evS_setL7, evS_set8, evS_setL8, evS_set9, evS_setL9, evS_set10, evS_setL10, evS_set11, evS_setL11, evS_set12, evS_setL12, evS_set13, evS_setL13, evS_set14, evS_setL14, evS_set15, evS_setL15, evS_set16, evS_setL16, evS_set17, evS_setL17, evS_set18, evS_setL18, evS_set19, evS_setL19, evS_set20, evS_setL20, evS_app0, evS_frz0, evS_frs0, evE_ixo0, evS_aug0, evS_app1, evS_frz1, evS_frs1, evE_ixo1, evS_aug1, evS_app2, evS_frz2, evS_frs2, evE_ixo2, evS_aug2, evS_app3, evS_frz3, evS_frs3, evE_ixo3, evS_aug3, evS_app4, evS_frz4, evS_frs4, evE_ixo4, evS_aug4, evS_app5, evS_frz5, evS_frs5, evE_ixo5, evS_aug5, evS_app6, evS_frz6, evS_frs6, evE_ixo6, evS_aug6, evS_app7, evS_frz7, evS_frs7, evE_ixo7, evS_aug7, evS_app8, evS_frz8, evS_frs8, evE_ixo8, evS_aug8, evS_app9, evS_frz9, evS_frs9, evE_ixo9, evS_aug9, evS_app10, evS_frz10, evS_frs10, evE_ixo10, evS_aug10, evS_app11, evS_frz11, evS_frs11, evE_ixo11, evS_aug11, evS_app12, evS_frz12, evS_frs12, evE_ixo12, evS_aug12, evS_app13, evS_frz13, evS_frs13, evE_ixo13, evS_aug13, evS_app14, evS_frz14, evS_frs14, evE_ixo14, evS_aug14, evS_app15, evS_frz15, evS_frs15, evE_ixo15, evS_aug15, evS_app16, evS_frz16, evS_frs16, evE_ixo16, evS_aug16, evS_pass, evE_ife, ifE_t, ifE_f, it_rng1, it_rng2, c_isnN, c_isnI, c_isN, c_isI, c_isnL, c_isnT, c_isL, c_isT, o_band, o_shr, len_t0, tup_t, call_8, call_9, call_10, call_11, call_12, rb_ok, rb_bad, rb_exc, ra_ok, ra_bad, ra_exc, ft_nx, ft_rt, ft_bad, ft_xc, List.set_cons_zero, List.set_cons_succ, List.nil_append, List.cons_append, Bool.not_true, Bool.not_false, decide_true, decide_false, eq_self, Int.reduceEq, Bool.false_or, Bool.or_false, Bool.true_or, Bool.or_true, Bool.true_and, Bool.and_true, Bool.false_and, Bool.and_false, Bool.or_self, Bool.and_self, c0, c1, c2, c3, g0, g2, ea, o_mod hp, eb, ec, o_fdiv z6, o_mod (show (0 : Int) < 6 by decide), k1]
  · by_cases k2 : x3 % 6 = 2
    · refine ⟨a, 0, a, ?_, ha, ⟨by omega, by omega, by omega, by omega⟩, Ba.up (by decide), Bd.zero.up (by decide), Ba.up (by decide)⟩
      simp (disch := first | exact mulOk_bd | assumption | omega) only [evE_v0, evE_v1, evE_v2, evE_v3, evE_v4, evE_v5, evE_v6, evE_v7, evE_v8, evE_v9, evE_v10, evE_int, evE_bl, evE_non, evE_str, evE_bin, evE_neg, evE_not, evE_cmp, evE_tup, evE_lst, evE_ix, evE_call, evE_bi, evE_sl, evE_isi, andB_t, andB_f, orB_t, orB_f, andB_b, orB_b, evE_and, evE_or, evAnd_one, evOr_one, evAnd_two, evOr_two, evEs_nil, evEs_cons, evSs_nil, evSs_cons, evS_ex, evS_ret, ifB_t, ifB_f, evS_ife, evS_raise, evS_for, seq_t, seq_l, it_seq, ans_nx, ans_rt, ans_xc, forL_nil, forL_cons, ix_t0, ix_t1, ix_t2, ix_t3, o_add, o_sub, o_mul, o_fdiv, o_mod, o_neg, o_not, c_lt, c_le, c_gt, c_ge, c_eq, c_ne, c_eq2, c_ne2, c_eq3, c_ne3, c_is, c_isnot, isi_tt, isi_lt, isi_it, isi_ii, isi_ib, isi_ll, len_t1, len_t2, len_t3, len_t4, len_l, abs_i, tup_l, part_0, part_1, sl_l, call_0, call_1, call_2, call_3, call_4, call_5, call_6, call_7, glob_0, glob_1, glob_2, evE_v11, evE_v12, evE_v13, evE_v14, evE_v15, evE_v16, evE_v17, evE_v18, evE_v19, evE_v20, evS_set0, evS_setL0, evS_set1, evS_setL1, evS_set2, evS_setL2, evS_set3, evS_setL3, evS_set4, evS_setL4, evS_set5, evS_setL5, evS_set6, evS_setL6, evS_set7, evS_setL7, evS_set8, evS_setL8, evS_set9, evS_setL9, evS_set10, evS_setL10, evS_set11, evS_setL11, evS_set12, evS_setL12, evS_set13, evS_setL13, evS_set14, evS_setL14, evS_set15, evS_setL15, evS_set16, evS_setL16, evS_set17, evS_setL17, evS_set18, evS_setL18, evS_set19, evS_setL19, evS_set20, evS_setL20, evS_app0, evS_frz0, evS_frs0, evE_ixo0, evS_aug0, evS_app1, evS_frz1, evS_frs1, evE_ixo1, evS_aug1, evS_app2, evS_frz2, evS_frs2, evE_ixo2, evS_aug2, evS_app3, evS_frz3, evS_frs3, evE_ixo3, evS_aug3, evS_app4, evS_frz4, evS_frs4, evE_ixo4, evS_aug4, evS_app5, evS_frz5, evS_frs5, evE_ixo5, evS_aug5, evS_app6, evS_frz6, evS_frs6, evE_ixo6, evS_aug6, evS_app7, evS_frz7, evS_frs7, evE_ixo7, evS_aug7, evS_app8, evS_frz8, evS_frs8, evE_ixo8, evS_aug8, evS_app9, evS_frz9, evS_frs9, evE_ixo9, evS_aug9, evS_app10, evS_frz10, evS_frs10, evE_ixo10, evS_aug10, evS_app11, evS_frz11, evS_frs11, evE_ixo11, evS_aug11, evS_app12, evS_frz12, evS_frs12, evE_ixo12, evS_aug12, evS_app13, evS_frz13, evS_frs13, evE_ixo13, evS_aug13, evS_app14, evS_frz14, evS_frs14, evE_ixo14, evS_aug14, evS_app15, evS_frz15, evS_frs15, evE_ixo15, evS_aug15, evS_app16, evS_frz16, evS_frs16, evE_ixo16, evS_aug16, evS_pass, evE_ife, ifE_t, ifE_f, it_rng1, it_rng2, c_isnN, c_isnI, c_isN, c_isI, c_isnL, c_isnT, c_isL, c_isT, o_band, o_shr, len_t0, tup_t, call_8, call_9, call_10, call_11, call_12, rb_ok, rb_bad, rb_exc, ra_ok, ra_bad, ra_exc, ft_nx, ft_rt, ft_bad, ft_xc, List.set_cons_zero, List.set_cons_succ, List.nil_append, List.cons_append, Bool.not_true, Bool.not_false, decide_true, decide_false, eq_self, Int.reduceEq, Bool.false_or, Bool.or_false, Bool.true_or, Bool.or_true, Bool.true_and, Bool.and_true, Bool.false_and, Bool.and_false, Bool.or_self, Bool.and_self, c0, c1, c2, c3, g0, g2, ea, o_mod hp, eb, ec, o_fdiv z6, o_mod (show (0 : Int) < 6 by decide), k2, decide_eq_false (show ¬ ((2 : Int) = 1) by decide)]
    · have fin : ∀ c', a ≤ c' → Bd 140 c' → (a = c' ∧ b < 0 → Least a (-b) c') ∧ (¬ (a = c' ∧ b < 0) → Least a b c') := fun c' h _ => ⟨fun h => ⟨by omega, by omega, by omega, by omega⟩, fun h => ⟨by omega, by omega, by omega, by omega⟩⟩
      have run : ∀ c', a ≤ c' → Bd 140 c' → (if a = c' ∧ b < 0 then PyData.tuple [.int a, .int (-b), .int c'] else PyData.tuple [.int a, .int b, .int c']) = PyData.tuple [.int a, .int (if a = c' ∧ b < 0 then -b else b), .int c'] ∧ Least a (if a = c' ∧ b < 0 then -b else b) c' ∧ Bd 140 (if a = c' ∧ b < 0 then -b else b) := fun c' h hc => by
        by_cases t : a = c' ∧ b < 0
        · rw [if_pos t, if_pos t]
          exact ⟨rfl, (fin c' h hc).1 t, Bd.up (n := 134) Bd.neg (by decide)⟩
        · rw [if_neg t, if_neg t]
          exact ⟨rfl, (fin c' h hc).2 t, Bb.up (by decide)⟩
      by_cases k3 : x3 % 6 = 3
      · obtain ⟨R1, R2, R3⟩ := run a (by omega) (Ba.up (by decide))
        refine ⟨a, _, a, ?_, ha, R2, Ba.up (by decide), R3, Ba.up (by decide)⟩
        by_cases t : b < 0
        · simp (disch := first | exact mulOk_bd | assumption | omega) only [evE_v0, evE_v1, evE_v2, evE_v3, evE_v4, evE_v5, evE_v6, evE_v7, evE_v8, evE_v9, evE_v10, evE_int, evE_bl, evE_non, evE_str, evE_bin, evE_neg, evE_not, evE_cmp, evE_tup, evE_lst, evE_ix, evE_call, evE_bi, evE_sl, evE_isi, andB_t, andB_f, orB_t, orB_f, andB_b, orB_b, evE_and, evE_or, evAnd_one, evOr_one, evAnd_two, evOr_two, evEs_nil, evEs_cons, evSs_nil, evSs_cons, evS_ex, evS_ret, ifB_t, ifB_f, evS_ife, evS_raise, evS_for, seq_t, seq_l, it_seq, ans_nx, ans_rt, ans_xc, forL_nil, forL_cons, ix_t0, ix_t1, ix_t2, ix_t3, o_add, o_sub, o_mul, o_fdiv, o_mod, o_neg, o_not, c_lt, c_le, c_gt, c_ge, c_eq, c_ne, c_eq2, c_ne2, c_eq3, c_ne3, c_is, c_isnot, isi_tt, isi_lt, isi_it, isi_ii, isi_ib, isi_ll, len_t1, len_t2, len_t3, len_t4, len_l, abs_i, tup_l, part_0, part_1, sl_l, call_0, call_1, call_2, call_3, call_4, call_5, call_6, call_7, glob_0, glob_1, glob_2, evE_v11, evE_v12, evE_v13, evE_v14, evE_v15, evE_v16, evE_v17, evE_v18, evE_v19, evE_v20, evS_set0, evS_setL0, evS_set1, evS_setL1, evS_set2, evS_setL2, evS_set3, evS_setL3, evS_set4, evS_setL4, evS_set5, evS_setL5, evS_set6, evS_setL6, evS_set7, evS_setL7, evS_set8, evS_setL8, evS_set9, evS_setL9, evS_set10, evS_setL10, evS_set11, evS_setL11, evS_set12, evS_setL12, evS_set13, evS_setL13, evS_set14, evS_setL14, evS_set15, evS_setL15, evS_set16, evS_setL16, evS_set17, evS_setL17, evS_set18, evS_setL18, evS_set19, evS_setL19, evS_set20, evS_setL20, evS_app0, evS_frz0, evS_frs0, evE_ixo0, evS_aug0, evS_app1, evS_frz1, evS_frs1, evE_ixo1, evS_aug1, evS_app2, evS_frz2, evS_frs2, evE_ixo2, evS_aug2, evS_app3, evS_frz3, evS_frs3, evE_ixo3, evS_aug3, evS_app4, evS_frz4, evS_frs4, evE_ixo4, evS_aug4, evS_app5, evS_frz5, evS_frs5, evE_ixo5, evS_aug5, evS_app6, evS_frz6, evS_frs6, evE_ixo6, evS_aug6, evS_app7, evS_frz7, evS_frs7, evE_ixo7, evS_aug7, evS_app8, evS_frz8, evS_frs8, evE_ixo8, evS_aug8, evS_app9, evS_frz9, evS_frs9, evE_ixo9, evS_aug9, evS_app10, evS_frz10, evS_frs10, evE_ixo10, evS_aug10, evS_app11, evS_frz11, evS_frs11, evE_ixo11, evS_aug11, evS_app12, evS_frz12, evS_frs12, evE_ixo12, evS_aug12, evS_app13, evS_frz13, evS_frs13, evE_ixo13, evS_aug13, evS_app14, evS_frz14, evS_frs14, evE_ixo14, evS_aug14, evS_app15, evS_frz15, evS_frs15, evE_ixo15, evS_aug15, evS_app16, evS_frz16, evS_frs16, evE_ixo16, evS_aug16, evS_pass, evE_ife, ifE_t, ifE_f, it_rng1, it_rng2, c_isnN, c_isnI, c_isN, c_isI, c_isnL, c_isnT, c_isL, c_isT, o_band, o_shr, len_t0, tup_t, call_8, call_9, call_10, call_11, call_12, rb_ok, rb_bad, rb_exc, ra_ok, ra_bad, ra_exc, ft_nx, ft_rt, ft_bad, ft_xc, List.set_cons_zero, List.set_cons_succ, List.nil_append, List.cons_append, Bool.not_true, Bool.not_false, decide_true, decide_false, eq_self, Int.reduceEq, Bool.false_or, Bool.or_false, Bool.true_or, Bool.or_true, Bool.true_and, Bool.and_true, Bool.false_and, Bool.and_false, Bool.or_self, Bool.and_self, c0, c1, c2, c3, g0, g2, ea, o_mod hp, eb, ec, o_fdiv z6, o_mod (show (0 : Int) < 6 by decide), k3, decide_eq_false (show ¬ ((3 : Int) = 1) by decide), decide_eq_false (show ¬ ((3 : Int) = 2) by decide), decide_eq_true t, true_and, if_pos t]
        · simp (disch := first | exact mulOk_bd | assumption | omega) only [evE_v0, evE_v1, evE_v2, evE_v3, evE_v4, evE_v5, evE_v6, evE_v7, evE_v8, evE_v9, evE_v10, evE_int, evE_bl, evE_non, evE_str, evE_bin, evE_neg, evE_not, evE_cmp, evE_tup, evE_lst, evE_ix, evE_call, evE_bi, evE_sl, evE_isi, andB_t, andB_f, orB_t, orB_f, andB_b, orB_b, evE_and, evE_or, evAnd_one, evOr_one, evAnd_two, evOr_two, evEs_nil, evEs_cons, evSs_nil, evSs_cons, evS_ex, evS_ret, ifB_t, ifB_f, evS_ife, evS_raise, evS_for, seq_t, seq_l, it_seq, ans_nx, ans_rt, ans_xc, forL_nil, forL_cons, ix_t0, ix_t1, ix_t2, ix_t3, o_add, o_sub, o_mul, o_fdiv, o_mod, o_neg, o_not, c_lt, c_le, c_gt, c_ge, c_eq, c_ne, c_eq2, c_ne2, c_eq3, c_ne3, c_is, c_isnot, isi_tt, isi_lt, isi_it, isi_ii, isi_ib, isi_ll, len_t1, len_t2, len_t3, len_t4, len_l, abs_i, tup_l, part_0, part_1, sl_l, call_0, call_1, call_2, call_3, call_4, call_5, call_6, call_7, glob_0, glob_1, glob_2, evE_v11, evE_v12, evE_v13, evE_v14, evE_v15, evE_v16, evE_v17, evE_v18, evE_v19, evE_v20, evS_set0, evS_setL0, evS_set1, evS_setL1, evS_set2, evS_setL2, evS_set3, evS_setL3, evS_set4, evS_setL4, evS_set5, evS_setL5, evS_set6, evS_setL6, evS_set7, evS_setL7, evS_set8, evS_setL8, evS_set9, evS_setL9, evS_set10, evS_setL10, evS_set11, evS_setL11, evS_set12, evS_setL12, evS_set13, evS_setL13, evS_set14, evS_setL14, evS_set15, evS_setL15, evS_set16, evS_setL16, evS_set17, evS_setL17, evS_set18, evS_setL18, evS_set19, evS_setL19, evS_set20, evS_setL20, evS_app0, evS_frz0, evS_frs0, evE_ixo0, evS_aug0, evS_app1, evS_frz1, evS_frs1, evE_ixo1, evS_aug1, evS_app2, evS_frz2, evS_frs2, evE_ixo2, evS_aug2, evS_app3, evS_frz3, evS_frs3, evE_ixo3, evS_aug3, evS_app4, evS_frz4, evS_frs4, evE_ixo4, evS_aug4, evS_app5, evS_frz5, evS_frs5, evE_ixo5, evS_aug5, evS_app6, evS_frz6, evS_frs6, evE_ixo6, evS_aug6, evS_app7, evS_frz7, evS_frs7, evE_ixo7, evS_aug7, evS_app8, evS_frz8, evS_frs8, evE_ixo8, evS_aug8, evS_app9, evS_frz9, evS_frs9, evE_ixo9, evS_aug9, evS_app10, evS_frz10, evS_frs10, evE_ixo10, evS_aug10, evS_app11, evS_frz11, evS_frs11, evE_ixo11, evS_aug11, evS_app12, evS_frz12, evS_frs12, evE_ixo12, evS_aug12, evS_app13, evS_frz13, evS_frs13, evE_ixo13, evS_aug13, evS_app14, evS_frz14, evS_frs14, evE_ixo14, evS_aug14, evS_app15, evS_frz15, evS_frs15, evE_ixo15, evS_aug15, evS_app16, evS_frz16, evS_frs16, evE_ixo16, evS_aug16, evS_pass, evE_ife, ifE_t, ifE_f, it_rng1, it_rng2, c_isnN, c_isnI, c_isN, c_isI, c_isnL, c_isnT, c_isL, c_isT, o_band, o_shr, len_t0, tup_t, call_8, call_9, call_10, call_11, call_12, rb_ok, rb_bad, rb_exc, ra_ok, ra_bad, ra_exc, ft_nx, ft_rt, ft_bad, ft_xc, List.set_cons_zero, List.set_cons_succ, List.nil_append, List.cons_append, Bool.not_true, Bool.not_false, decide_true, decide_false, eq_self, Int.reduceEq, Bool.false_or, Bool.or_false, Bool.true_or, Bool.or_true, Bool.true_and, Bool.and_true, Bool.false_and, Bool.and_false, Bool.or_self, Bool.and_self, c0, c1, c2, c3, g0, g2, ea, o_mod hp, eb, ec, o_fdiv z6, o_mod (show (0 : Int) < 6 by decide), k3, decide_eq_false (show ¬ ((3 : Int) = 1) by decide), decide_eq_false (show ¬ ((3 : Int) = 2) by decide), decide_eq_false t, true_and, if_neg t]
      · obtain ⟨R1, R2, R3⟩ := run c (by omega) (Bc.up (by decide))
        refine ⟨a, _, c, ?_, ha, R2, Ba.up (by decide), R3, Bc.up (by decide)⟩
        by_cases t0 : a = c
        · by_cases t : b < 0
          · simp (disch := first | exact mulOk_bd | assumption | omega) only [evE_v0, evE_v1, evE_v2, evE_v3, evE_v4, evE_v5, evE_v6, evE_v7, evE_v8, evE_v9, evE_v10, evE_int, evE_bl, evE_non, evE_str, evE_bin, evE_neg, evE_not, evE_cmp, evE_tup, evE_lst, evE_ix, evE_call, evE_bi, evE_sl, evE_isi, andB_t, andB_f, orB_t, orB_f, andB_b, orB_b, evE_and, evE_or, evAnd_one, evOr_one, evAnd_two, evOr_two, evEs_nil, evEs_cons, evSs_nil, evSs_cons, evS_ex, evS_ret, ifB_t, ifB_f, evS_ife, evS_raise, evS_for, seq_t, seq_l, it_seq, ans_nx, ans_rt, ans_xc, forL_nil, forL_cons, ix_t0, ix_t1, ix_t2, ix_t3, o_add, o_sub, o_mul, o_fdiv, o_mod, o_neg, o_not, c_lt, c_le, c_gt, c_ge, c_eq, c_ne, c_eq2, c_ne2, c_eq3, c_ne3, c_is, c_isnot, isi_tt, isi_lt, isi_it, isi_ii, isi_ib, isi_ll, len_t1, len_t2, len_t3, len_t4, len_l, abs_i, tup_l, part_0, part_1, sl_l, call_0, call_1, call_2, call_3, call_4, call_5, call_6, call_7, glob_0, glob_1, glob_2, evE_v11, evE_v12, evE_v13, evE_v14, evE_v15, evE_v16, evE_v17, evE_v18, evE_v19, evE_v20, evS_set0, evS_setL0, evS_set1, evS_setL1, evS_set2, evS_setL2, evS_set3, evS_setL3, evS_set4, evS_setL4, evS_set5, evS_setL5, evS_set6, evS_setL6, evS_set7, evS_setL7, evS_set8, evS_setL8, evS_set9, evS_setL9, evS_set10, evS_setL10, evS_set11, evS_setL11, evS_set12, evS_setL12, evS_set13, evS_setL13, evS_set14, evS_setL14, evS_set15, evS_setL15, evS_set16, evS_setL16, evS_set17, evS_setL17, evS_set18, evS_setL18, evS_set19, evS_setL19, evS_set20, evS_setL20, evS_app0, evS_frz0, evS_frs0, evE_ixo0, evS_aug0, evS_app1, evS_frz1, evS_frs1, evE_ixo1, evS_aug1, evS_app2, evS_frz2, evS_frs2, evE_ixo2, evS_aug2, evS_app3, evS_frz3, evS_frs3, evE_ixo3, evS_aug3, evS_app4, evS_frz4, evS_frs4, evE_ixo4, evS_aug4, evS_app5, evS_frz5, evS_frs5, evE_ixo5, evS_aug5, evS_app6, evS_frz6, evS_frs6, evE_ixo6, evS_aug6, evS_app7, evS_frz7, evS_frs7, evE_ixo7, evS_aug7, evS_app8, evS_frz8, evS_frs8, evE_ixo8, evS_aug8, evS_app9, evS_frz9, evS_frs9, evE_ixo9, evS_aug9, evS_app10, evS_frz10, evS_frs10, evE_ixo10, evS_aug10, evS_app11, evS_frz11, evS_frs11, evE_ixo11, evS_aug11, evS_app12, evS_frz12, evS_frs12, evE_ixo12, evS_aug12, evS_app13, evS_frz13, evS_frs13, evE_ixo13, evS_aug13, evS_app14, evS_frz14, evS_frs14, evE_ixo14, evS_aug14, evS_app15, evS_frz15, evS_frs15, evE_ixo15, evS_aug15, evS_app16, evS_frz16, evS_frs16, evE_ixo16, evS_aug16, evS_pass, evE_ife, ifE_t, ifE_f, it_rng1, it_rng2, c_isnN, c_isnI, c_isN, c_isI, c_isnL, c_isnT, c_isL, c_isT, o_band, o_shr, len_t0, tup_t, call_8, call_9, call_10, call_11, call_12, rb_ok, rb_bad, rb_exc, ra_ok, ra_bad, ra_exc, ft_nx, ft_rt, ft_bad, ft_xc, List.set_cons_zero, List.set_cons_succ, List.nil_append, List.cons_append, Bool.not_true, Bool.not_false, decide_true, decide_false, eq_self, Int.reduceEq, Bool.false_or, Bool.or_false, Bool.true_or, Bool.or_true, Bool.true_and, Bool.and_true, Bool.false_and, Bool.and_false, Bool.or_self, Bool.and_self, c0, c1, c2, c3, g0, g2, ea, o_mod hp, eb, ec, o_fdiv z6, o_mod (show (0 : Int) < 6 by decide), decide_eq_false k1, decide_eq_false k2, decide_eq_false k3, decide_eq_true t, decide_eq_true t0, if_pos (And.intro t0 t)]
          · simp (disch := first | exact mulOk_bd | assumption | omega) only [evE_v0, evE_v1, evE_v2, evE_v3, evE_v4, evE_v5, evE_v6, evE_v7, evE_v8, evE_v9, evE_v10, evE_int, evE_bl, evE_non, evE_str, evE_bin, evE_neg, evE_not, evE_cmp, evE_tup, evE_lst, evE_ix, evE_call, evE_bi, evE_sl, evE_isi, andB_t, andB_f, orB_t, orB_f, andB_b, orB_b, evE_and, evE_or, evAnd_one, evOr_one, evAnd_two, evOr_two, evEs_nil, evEs_cons, evSs_nil, evSs_cons, evS_ex, evS_ret, ifB_t, ifB_f, evS_ife, evS_raise, evS_for, seq_t, seq_l, it_seq, ans_nx, ans_rt, ans_xc, forL_nil, forL_cons, ix_t0, ix_t1, ix_t2, ix_t3, o_add, o_sub, o_mul, o_fdiv, o_mod, o_neg, o_not, c_lt, c_le, c_gt, c_ge, c_eq, c_ne, c_eq2, c_ne2, c_eq3, c_ne3, c_is, c_isnot, isi_tt, isi_lt, isi_it, isi_ii, isi_ib, isi_ll, len_t1, len_t2, len_t3, len_t4, len_l, abs_i, tup_l, part_0, part_1, sl_l, call_0, call_1, call_2, call_3, call_4, call_5, call_6, call_7, glob_0, glob_1, glob_2, evE_v11, evE_v12, evE_v13, evE_v14, evE_v15, evE_v16, evE_v17, evE_v18, evE_v19, evE_v20, evS_set0, evS_setL0, evS_set1, evS_setL1, evS_set2, evS_setL2, evS_set3, evS_setL3, evS_set4, evS_setL4, evS_set5, evS_setL5, evS_set6, evS_setL6, evS_set7, evS_setL7, evS_set8, evS_setL8, evS_set9, evS_setL9, evS_set10, evS_setL10, evS_set11, evS_setL11, evS_set12, evS_setL12, evS_set13, evS_setL13, evS_set14, evS_setL14, evS_set15, evS_setL15, evS_set16, evS_setL16, evS_set17, evS_setL17, evS_set18, evS_setL18, evS_set19, evS_setL19, evS_set20, evS_setL20, evS_app0, evS_frz0, evS_frs0, evE_ixo0, evS_aug0, evS_app1, evS_frz1, evS_frs1, evE_ixo1, evS_aug1, evS_app2, evS_frz2, evS_frs2, evE_ixo2, evS_aug2, evS_app3, evS_frz3, evS_frs3, evE_ixo3, evS_aug3, evS_app4, evS_frz4, evS_frs4, evE_ixo4, evS_aug4, evS_app5, evS_frz5, evS_frs5, evE_ixo5, evS_aug5, evS_app6, evS_frz6, evS_frs6, evE_ixo6, evS_aug6, evS_app7, evS_frz7, evS_frs7, evE_ixo7, evS_aug7, evS_app8, evS_frz8, evS_frs8, evE_ixo8, evS_aug8, evS_app9, evS_frz9, evS_frs9, evE_ixo9, evS_aug9, evS_app10, evS_frz10, evS_frs10, evE_ixo10, evS_aug10, evS_app11, evS_frz11, evS_frs11, evE_ixo11, evS_aug11, evS_app12, evS_frz12, evS_frs12, evE_ixo12, evS_aug12, evS_app13, evS_frz13, evS_frs13, evE_ixo13, evS_aug13, evS_app14, evS_frz14, evS_frs14, evE_ixo14, evS_aug14, evS_app15, evS_frz15, evS_frs15, evE_ixo15, evS_aug15, evS_app16, evS_frz16, evS_frs16, evE_ixo16, evS_aug16, evS_pass, evE_ife, ifE_t, ifE_f, it_rng1, it_rng2, c_isnN, c_isnI, c_isN, c_isI, c_isnL, c_isnT, c_isL, c_isT, o_band, o_shr, len_t0, tup_t, call_8, call_9, call_10, call_11, call_12, rb_ok, rb_bad, rb_exc, ra_ok, ra_bad, ra_exc, ft_nx, ft_rt, ft_bad, ft_xc, List.set_cons_zero, List.set_cons_succ, List.nil_append, List.cons_append, Bool.not_true, Bool.not_false, decide_true, decide_false, eq_self, Int.reduceEq, Bool.false_or, Bool.or_false, Bool.true_or, Bool.or_true, Bool.true_and, Bool.and_true, Bool.false_and, Bool.and_false, Bool.or_self, Bool.and_self, c0, c1, c2, c3, g0, g2, ea, o_mod hp, eb, ec, o_fdiv z6, o_mod (show (0 : Int) < 6 by decide), decide_eq_false k1, decide_eq_false k2, decide_eq_false k3, decide_eq_false t, decide_eq_true t0, if_neg (show ¬ (a = c ∧ b < 0) from fun h => t h.2)]
        · simp (disch := first | exact mulOk_bd | assumption | omega) only [evE_v0, evE_v1, evE_v2, evE_v3, evE_v4, evE_v5, evE_v6, evE_v7, evE_v8, evE_v9, evE_v10, evE_int, evE_bl, evE_non, evE_str, evE_bin, evE_neg, evE_not, evE_cmp, evE_tup, evE_lst, evE_ix, evE_call, evE_bi, evE_sl, evE_isi, andB_t, andB_f, orB_t, orB_f, andB_b, orB_b, evE_and, evE_or, evAnd_one, evOr_one, evAnd_two, evOr_two, evEs_nil, evEs_cons, evSs_nil, evSs_cons, evS_ex, evS_ret, ifB_t, ifB_f, evS_ife, evS_raise, evS_for, seq_t, seq_l, it_seq, ans_nx, ans_rt, ans_xc, forL_nil, forL_cons, ix_t0, ix_t1, ix_t2, ix_t3, o_add, o_sub, o_mul, o_fdiv, o_mod, o_neg, o_not, c_lt, c_le, c_gt, c_ge, c_eq, c_ne, c_eq2, c_ne2, c_eq3, c_ne3, c_is, c_isnot, isi_tt, isi_lt, isi_it, isi_ii, isi_ib, isi_ll, len_t1, len_t2, len_t3, len_t4, len_l, abs_i, tup_l, part_0, part_1, sl_l, call_0, call_1, call_2, call_3, call_4, call_5, call_6, call_7, glob_0, glob_1, glob_2, evE_v11, evE_v12, evE_v13, evE_v14, evE_v15, evE_v16, evE_v17, evE_v18, evE_v19, evE_v20, evS_set0, evS_setL0, evS_set1, evS_setL1, evS_set2, evS_setL2, evS_set3, evS_setL3, evS_set4, evS_setL4, evS_set5, evS_setL5, evS_set6, evS_setL6, evS_set7, evS_setL7, evS_set8, evS_setL8, evS_set9, evS_setL9, evS_set10, evS_setL10, evS_set11, evS_setL11, evS_set12, evS_setL12, evS_set13, evS_setL13, evS_set14, evS_setL14, evS_set15, evS_setL15, evS_set16, evS_setL16, evS_set17, evS_setL17, evS_set18, evS_setL18, evS_set19, evS_setL19, evS_set20, evS_setL20, evS_app0, evS_frz0, evS_frs0, evE_ixo0, evS_aug0, evS_app1, evS_frz1, evS_frs1, evE_ixo1, evS_aug1, evS_app2, evS_frz2, evS_frs2, evE_ixo2, evS_aug2, evS_app3, evS_frz3, evS_frs3, evE_ixo3, evS_aug3, evS_app4, evS_frz4, evS_frs4, evE_ixo4, evS_aug4, evS_app5, evS_frz5, evS_frs5, evE_ixo5, evS_aug5, evS_app6, evS_frz6, evS_frs6, evE_ixo6, evS_aug6, evS_app7, evS_frz7, evS_frs7, evE_ixo7, evS_aug7, evS_app8, evS_frz8, evS_frs8, evE_ixo8, evS_aug8, evS_app9, evS_frz9, evS_frs9, evE_ixo9, evS_aug9, evS_app10, evS_frz10, evS_frs10, evE_ixo10, evS_aug10, evS_app11, evS_frz11, evS_frs11, evE_ixo11, evS_aug11, evS_app12, evS_frz12, evS_frs12, evE_ixo12, evS_aug12, evS_app13, evS_frz13, evS_frs13, evE_ixo13, evS_aug13, evS_app14, evS_frz14, evS_frs14, evE_ixo14, evS_aug14, evS_app15, evS_frz15, evS_frs15, evE_ixo15, evS_aug15, evS_app16, evS_frz16, evS_frs16, evE_ixo16, evS_aug16, evS_pass, evE_ife, ifE_t, ifE_f, it_rng1, it_rng2, c_isnN, c_isnI, c_isN, c_isI, c_isnL, c_isnT, c_isL, c_isT, o_band, o_shr, len_t0, tup_t, call_8, call_9, call_10, call_11, call_12, rb_ok, rb_bad, rb_exc, ra_ok, ra_bad, ra_exc, ft_nx, ft_rt, ft_bad, ft_xc, List.set_cons_zero, List.set_cons_succ, List.nil_append, List.cons_append, Bool.not_true, Bool.not_false, decide_true, decide_false, eq_self, Int.reduceEq, Bool.false_or, Bool.or_false, Bool.true_or, Bool.or_true, Bool.true_and, Bool.and_true, Bool.false_and, Bool.and_false, Bool.or_self, Bool.and_self, c0, c1, c2, c3, g0, g2, ea, o_mod hp, eb, ec, o_fdiv z6, o_mod (show (0 : Int) < 6 by decide), decide_eq_false k1, decide_eq_false k2, decide_eq_false k3, decide_eq_false t0, if_neg (show ¬ (a = c ∧ b < 0) from fun h => t0 h.1)]
/-- least_of of what a least form was turned to -/
theorem v_least_turned {a b c p q r s A B C : Int} (L : Leads a b c p q r s A B C) (h : Least a b c) (ha : 0 < a) {n : Nat} (Ha : Bd n A) (Hb : Bd n B) (Hc : Bd n C) (hn : n ≤ 8000) :
    ∃ p q r s, sem_least_of [(PyData.tuple [PyData.int A, PyData.int B, PyData.int C])] = .ok (.tuple [(PyData.tuple [PyData.int a, PyData.int b, PyData.int c]), (PyData.tuple [PyData.int p, PyData.int q, PyData.int r, PyData.int s])]) ∧ Leads A B C p q r s a b c ∧ Bd (3 + n + n) p ∧ Bd (3 + n + n) q ∧ Bd (3 + n + n) r ∧ Bd (3 + n + n) s := by
  obtain ⟨P1, P2⟩ := L.pos ha (least_disc h ha)
  obtain ⟨a2, b2, c2, p2, q2, r2, s2, e, M, l2, _, _, _, T1, T2, T3, T4⟩ := v_least_of A B C P1 P2 Ha Hb Hc hn
  obtain ⟨e1, e2, e3⟩ := least_uniq (L.then M) h l2 ha
  subst e1 e2 e3
  exact ⟨p2, q2, r2, s2, e, M, T1, T2, T3, T4⟩
end FT

namespace FT
open PySem PySem.Spec PyProof.Rows L2
/-- the verdict on two forms that were turned from least ones -/
theorem w_alike {a b c p q r s A B C a' b' c' p' q' r' s' A' B' C' : Int} (L : Leads a b c p q r s A B C) (L' : Leads a' b' c' p' q' r' s' A' B' C') (h : Least a b c) (h' : Least a' b' c') (ha : 0 < a) (ha' : 0 < a')
    {n m : Nat} (Ha : Bd n A) (Hb : Bd n B) (Hc : Bd n C) (Ha' : Bd n A') (Hb' : Bd n B') (Hc' : Bd n C') (hn : n ≤ 8000) (k1 : Bd m a) (k2 : Bd m b) (k3 : Bd m c) (hm : m ≤ 8000) :
    ∃ v, sem_alike [(PyData.tuple [PyData.int A, PyData.int B, PyData.int C]), (PyData.tuple [PyData.int A', PyData.int B', PyData.int C'])] = .ok v ∧ sem__law_verdict [v, (PyData.tuple [PyData.int A, PyData.int B, PyData.int C]), (PyData.tuple [PyData.int A', PyData.int B', PyData.int C']), (PyData.tuple [PyData.int a, PyData.int b, PyData.int c]), (PyData.tuple [PyData.int a', PyData.int b', PyData.int c'])] = .ok (.bool true) := by
  obtain ⟨x, y, z, w, e, M, T1, T2, T3, T4⟩ := v_least_turned L h ha Ha Hb Hc hn
  obtain ⟨x', y', z', w', e', M', T1', T2', T3', T4'⟩ := v_least_turned L' h' ha' Ha' Hb' Hc' hn
  show ∃ v, (evSs G_alike b_alike [some (.sh _), some (.sh _), none, none]).ans = _ ∧ (evSs G__law_verdict b__law_verdict [some (.sh v), some (.sh _), some (.sh _), some (.sh _), some (.sh _), none]).ans = _
  unfold b_alike G_alike b__law_verdict G__law_verdict
  by_cases t : a = a' ∧ b = b' ∧ c = c'
  · obtain ⟨t1, t2, t3⟩ := t
    subst t1 t2 t3
    have N := M.then M'.back
    have wb := v_way_back x' y' z' w' (by omega) M'.det
    have be := v_behind x y z w w' (-y') (-z') x' (by omega) M.det M'.back.det
    refine ⟨.tuple [.bool true, (PyData.tuple [PyData.int (x * w' + y * -z'), PyData.int (x * -y' + y * x'), PyData.int (z * w' + w * -z'), PyData.int (z * -y' + w * x')])], ?_, ?_⟩
    · simp (disch := first | exact mulOk_bd | assumption | omega) only [evE_v0, evE_v1, evE_v2, evE_v3, evE_v4, evE_v5, evE_v6, evE_v7, evE_v8, evE_v9, evE_v10, evE_int, evE_bl, evE_non, evE_str, evE_bin, evE_neg, evE_not, evE_cmp, evE_tup, evE_lst, evE_ix, evE_call, evE_bi, evE_sl, evE_isi, andB_t, andB_f, orB_t, orB_f, andB_b, orB_b, evE_and, evE_or, evAnd_one, evOr_one, evAnd_two, evOr_two, evEs_nil, evEs_cons, evSs_nil, evSs_cons, evS_ex, evS_ret, ifB_t, ifB_f, evS_ife, evS_raise, evS_for, seq_t, seq_l, it_seq, ans_nx, ans_rt, ans_xc, forL_nil, forL_cons, ix_t0, ix_t1, ix_t2, ix_t3, o_add, o_sub, o_mul, o_fdiv, o_mod, o_neg, o_not, c_lt, c_le, c_gt, c_ge, c_eq, c_ne, c_eq2, c_ne2, c_eq3, c_ne3, c_is, c_isnot, isi_tt, isi_lt, isi_it, isi_ii, isi_ib, isi_ll, len_t1, len_t2, len_t3, len_t4, len_l, abs_i, tup_l, part_0, part_1, sl_l, call_0, call_1, call_2, call_3, call_4, call_5, call_6, call_7, glob_0, glob_1, glob_2, evE_v11, evE_v12, evE_v13, evE_v14, evE_v15, evE_v16, evE_v17, evE_v18, evE_v19, evE_v20, evS_set0, evS_setL0, evS_set1, evS_setL1, evS_set2, evS_setL2, evS_set3, evS_setL3, evS_set4, evS_setL4, evS_set5, evS_setL5, evS_set6, evS_setL6, evS_set7, evS_setL7, evS_set8, evS_setL8, evS_set9, evS_setL9, evS_set10, evS_setL10, evS_set11, evS_setL11, evS_set12, evS_setL12, evS_set13, evS_setL13, evS_set14, evS_setL14, evS_set15, evS_setL15, evS_set16, evS_setL16, evS_set17, evS_setL17, evS_set18, evS_setL18, evS_set19, evS_setL19, evS_set20, evS_setL20, evS_app0, evS_frz0, evS_frs0, evE_ixo0, evS_aug0, evS_app1, evS_frz1, evS_frs1, evE_ixo1, evS_aug1, evS_app2, evS_frz2, evS_frs2, evE_ixo2, evS_aug2, evS_app3, evS_frz3, evS_frs3, evE_ixo3, evS_aug3, evS_app4, evS_frz4, evS_frs4, evE_ixo4, evS_aug4, evS_app5, evS_frz5, evS_frs5, evE_ixo5, evS_aug5, evS_app6, evS_frz6, evS_frs6, evE_ixo6, evS_aug6, evS_app7, evS_frz7, evS_frs7, evE_ixo7, evS_aug7, evS_app8, evS_frz8, evS_frs8, evE_ixo8, evS_aug8, evS_app9, evS_frz9, evS_frs9, evE_ixo9, evS_aug9, evS_app10, evS_frz10, evS_frs10, evE_ixo10, evS_aug10, evS_app11, evS_frz11, evS_frs11, evE_ixo11, evS_aug11, evS_app12, evS_frz12, evS_frs12, evE_ixo12, evS_aug12, evS_app13, evS_frz13, evS_frs13, evE_ixo13, evS_aug13, evS_app14, evS_frz14, evS_frs14, evE_ixo14, evS_aug14, evS_app15, evS_frz15, evS_frs15, evE_ixo15, evS_aug15, evS_app16, evS_frz16, evS_frs16, evE_ixo16, evS_aug16, evS_pass, evE_ife, ifE_t, ifE_f, it_rng1, it_rng2, c_isnN, c_isnI, c_isN, c_isI, c_isnL, c_isnT, c_isL, c_isT, o_band, o_shr, len_t0, tup_t, call_8, call_9, call_10, call_11, call_12, rb_ok, rb_bad, rb_exc, ra_ok, ra_bad, ra_exc, ft_nx, ft_rt, ft_bad, ft_xc, List.set_cons_zero, List.set_cons_succ, List.nil_append, List.cons_append, Bool.not_true, Bool.not_false, decide_true, decide_false, eq_self, Int.reduceEq, Bool.false_or, Bool.or_false, Bool.true_or, Bool.or_true, Bool.true_and, Bool.and_true, Bool.false_and, Bool.and_false, Bool.or_self, Bool.and_self, e, e', wb, be, decide_true]
    · have B1 : Bd (7 + n + n + n + n) (x * w' + y * -z') := Bd.get
      have B2 : Bd (7 + n + n + n + n) (x * -y' + y * x') := Bd.get
      have B3 : Bd (7 + n + n + n + n) (z * w' + w * -z') := Bd.get
      have B4 : Bd (7 + n + n + n + n) (z * -y' + w * x') := Bd.get
      generalize x * w' + y * -z' = u1 at *
      generalize x * -y' + y * x' = u2 at *
      generalize z * w' + w * -z' = u3 at *
      generalize z * -y' + w * x' = u4 at *
      have X := w_turnedL N (by omega)
      have d := N.det
      simp (disch := first | exact mulOk_bd | assumption | omega) only [evE_v0, evE_v1, evE_v2, evE_v3, evE_v4, evE_v5, evE_v6, evE_v7, evE_v8, evE_v9, evE_v10, evE_int, evE_bl, evE_non, evE_str, evE_bin, evE_neg, evE_not, evE_cmp, evE_tup, evE_lst, evE_ix, evE_call, evE_bi, evE_sl, evE_isi, andB_t, andB_f, orB_t, orB_f, andB_b, orB_b, evE_and, evE_or, evAnd_one, evOr_one, evAnd_two, evOr_two, evEs_nil, evEs_cons, evSs_nil, evSs_cons, evS_ex, evS_ret, ifB_t, ifB_f, evS_ife, evS_raise, evS_for, seq_t, seq_l, it_seq, ans_nx, ans_rt, ans_xc, forL_nil, forL_cons, ix_t0, ix_t1, ix_t2, ix_t3, o_add, o_sub, o_mul, o_fdiv, o_mod, o_neg, o_not, c_lt, c_le, c_gt, c_ge, c_eq, c_ne, c_eq2, c_ne2, c_eq3, c_ne3, c_is, c_isnot, isi_tt, isi_lt, isi_it, isi_ii, isi_ib, isi_ll, len_t1, len_t2, len_t3, len_t4, len_l, abs_i, tup_l, part_0, part_1, sl_l, call_0, call_1, call_2, call_3, call_4, call_5, call_6, call_7, glob_0, glob_1, glob_2, evE_v11, evE_v12, evE_v13, evE_v14, evE_v15, evE_v16, evE_v17, evE_v18, evE_v19, evE_v20, evS_set0, evS_setL0, evS_set1, evS_setL1, evS_set2, evS_setL2, evS_set3, evS_setL3, evS_set4, evS_setL4, evS_set5, evS_setL5, evS_set6, evS_setL6, evS_set7, evS_setL7, evS_set8, evS_setL8, evS_set9, evS_setL9, evS_set10, evS_setL10, evS_set11, evS_setL11, evS_set12, evS_setL12, evS_set13, evS_setL13, evS_set14, evS_setL14, evS_set15, evS_setL15, evS_set16, evS_setL16, evS_set17, evS_setL17, evS_set18, evS_setL18, evS_set19, evS_setL19, evS_set20, evS_setL20, evS_app0, evS_frz0, evS_frs0, evE_ixo0, evS_aug0, evS_app1, evS_frz1, evS_frs1, evE_ixo1, evS_aug1, evS_app2, evS_frz2, evS_frs2, evE_ixo2, evS_aug2, evS_app3, evS_frz3, evS_frs3, evE_ixo3, evS_aug3, evS_app4, evS_frz4, evS_frs4, evE_ixo4, evS_aug4, evS_app5, evS_frz5, evS_frs5, evE_ixo5, evS_aug5, evS_app6, evS_frz6, evS_frs6, evE_ixo6, evS_aug6, evS_app7, evS_frz7, evS_frs7, evE_ixo7, evS_aug7, evS_app8, evS_frz8, evS_frs8, evE_ixo8, evS_aug8, evS_app9, evS_frz9, evS_frs9, evE_ixo9, evS_aug9, evS_app10, evS_frz10, evS_frs10, evE_ixo10, evS_aug10, evS_app11, evS_frz11, evS_frs11, evE_ixo11, evS_aug11, evS_app12, evS_frz12, evS_frs12, evE_ixo12, evS_aug12, evS_app13, evS_frz13, evS_frs13, evE_ixo13, evS_aug13, evS_app14, evS_frz14, evS_frs14, evE_ixo14, evS_aug14, evS_app15, evS_frz15, evS_frs15, evE_ixo15, evS_aug15, evS_app16, evS_frz16, evS_frs16, evE_ixo16, evS_aug16, evS_pass, evE_ife, ifE_t, ifE_f, it_rng1, it_rng2, c_isnN, c_isnI, c_isN, c_isI, c_isnL, c_isnT, c_isL, c_isT, o_band, o_shr, len_t0, tup_t, call_8, call_9, call_10, call_11, call_12, rb_ok, rb_bad, rb_exc, ra_ok, ra_bad, ra_exc, ft_nx, ft_rt, ft_bad, ft_xc, List.set_cons_zero, List.set_cons_succ, List.nil_append, List.cons_append, Bool.not_true, Bool.not_false, decide_true, decide_false, eq_self, Int.reduceEq, Bool.false_or, Bool.or_false, Bool.true_or, Bool.or_true, Bool.true_and, Bool.and_true, Bool.false_and, Bool.and_false, Bool.or_self, Bool.and_self, X, d, w_ints4, decide_true, show decide ((2 : Int) < 2) = false from rfl]
  · have t' : (decide (a = a') && (decide (b = b') && decide (c = c'))) = false := by
      rw [← Bool.decide_and, ← Bool.decide_and]
      exact decide_eq_false t
    refine ⟨.tuple [.bool false, (PyData.tuple [PyData.int a, PyData.int b, PyData.int c]), (PyData.tuple [PyData.int a', PyData.int b', PyData.int c'])], ?_, ?_⟩
    · simp (disch := first | exact mulOk_bd | assumption | omega) only [evE_v0, evE_v1, evE_v2, evE_v3, evE_v4, evE_v5, evE_v6, evE_v7, evE_v8, evE_v9, evE_v10, evE_int, evE_bl, evE_non, evE_str, evE_bin, evE_neg, evE_not, evE_cmp, evE_tup, evE_lst, evE_ix, evE_call, evE_bi, evE_sl, evE_isi, andB_t, andB_f, orB_t, orB_f, andB_b, orB_b, evE_and, evE_or, evAnd_one, evOr_one, evAnd_two, evOr_two, evEs_nil, evEs_cons, evSs_nil, evSs_cons, evS_ex, evS_ret, ifB_t, ifB_f, evS_ife, evS_raise, evS_for, seq_t, seq_l, it_seq, ans_nx, ans_rt, ans_xc, forL_nil, forL_cons, ix_t0, ix_t1, ix_t2, ix_t3, o_add, o_sub, o_mul, o_fdiv, o_mod, o_neg, o_not, c_lt, c_le, c_gt, c_ge, c_eq, c_ne, c_eq2, c_ne2, c_eq3, c_ne3, c_is, c_isnot, isi_tt, isi_lt, isi_it, isi_ii, isi_ib, isi_ll, len_t1, len_t2, len_t3, len_t4, len_l, abs_i, tup_l, part_0, part_1, sl_l, call_0, call_1, call_2, call_3, call_4, call_5, call_6, call_7, glob_0, glob_1, glob_2, evE_v11, evE_v12, evE_v13, evE_v14, evE_v15, evE_v16, evE_v17, evE_v18, evE_v19, evE_v20, evS_set0, evS_setL0, evS_set1, evS_setL1, evS_set2, evS_setL2, evS_set3, evS_setL3, evS_set4, evS_setL4, evS_set5, evS_setL5, evS_set6, evS_setL6, evS_set7, evS_setL7, evS_set8, evS_setL8, evS_set9, evS_setL9, evS_set10, evS_setL10, evS_set11, evS_setL11, evS_set12, evS_setL12, evS_set13, evS_setL13, evS_set14, evS_setL14, evS_set15, evS_setL15, evS_set16, evS_setL16, evS_set17, evS_setL17, evS_set18, evS_setL18, evS_set19, evS_setL19, evS_set20, evS_setL20, evS_app0, evS_frz0, evS_frs0, evE_ixo0, evS_aug0, evS_app1, evS_frz1, evS_frs1, evE_ixo1, evS_aug1, evS_app2, evS_frz2, evS_frs2, evE_ixo2, evS_aug2, evS_app3, evS_frz3, evS_frs3, evE_ixo3, evS_aug3, evS_app4, evS_frz4, evS_frs4, evE_ixo4, evS_aug4, evS_app5, evS_frz5, evS_frs5, evE_ixo5, evS_aug5, evS_app6, evS_frz6, evS_frs6, evE_ixo6, evS_aug6, evS_app7, evS_frz7, evS_frs7, evE_ixo7, evS_aug7, evS_app8, evS_frz8, evS_frs8, evE_ixo8, evS_aug8, evS_app9, evS_frz9, evS_frs9, evE_ixo9, evS_aug9, evS_app10, evS_frz10, evS_frs10, evE_ixo10, evS_aug10, evS_app11, evS_frz11, evS_frs11, evE_ixo11, evS_aug11, evS_app12, evS_frz12, evS_frs12, evE_ixo12, evS_aug12, evS_app13, evS_frz13, evS_frs13, evE_ixo13, evS_aug13, evS_app14, evS_frz14, evS_frs14, evE_ixo14, evS_aug14, evS_app15, evS_frz15, evS_frs15, evE_ixo15, evS_aug15, evS_app16, evS_frz16, evS_frs16, evE_ixo16, evS_aug16, evS_pass, evE_ife, ifE_t, ifE_f, it_rng1, it_rng2, c_isnN, c_isnI, c_isN, c_isI, c_isnL, c_isnT, c_isL, c_isT, o_band, o_shr, len_t0, tup_t, call_8, call_9, call_10, call_11, call_12, rb_ok, rb_bad, rb_exc, ra_ok, ra_bad, ra_exc, ft_nx, ft_rt, ft_bad, ft_xc, List.set_cons_zero, List.set_cons_succ, List.nil_append, List.cons_append, Bool.not_true, Bool.not_false, decide_true, decide_false, eq_self, Int.reduceEq, Bool.false_or, Bool.or_false, Bool.true_or, Bool.or_true, Bool.true_and, Bool.and_true, Bool.false_and, Bool.and_false, Bool.or_self, Bool.and_self, e, e', t']
    · simp (disch := first | exact mulOk_bd | assumption | omega) only [evE_v0, evE_v1, evE_v2, evE_v3, evE_v4, evE_v5, evE_v6, evE_v7, evE_v8, evE_v9, evE_v10, evE_int, evE_bl, evE_non, evE_str, evE_bin, evE_neg, evE_not, evE_cmp, evE_tup, evE_lst, evE_ix, evE_call, evE_bi, evE_sl, evE_isi, andB_t, andB_f, orB_t, orB_f, andB_b, orB_b, evE_and, evE_or, evAnd_one, evOr_one, evAnd_two, evOr_two, evEs_nil, evEs_cons, evSs_nil, evSs_cons, evS_ex, evS_ret, ifB_t, ifB_f, evS_ife, evS_raise, evS_for, seq_t, seq_l, it_seq, ans_nx, ans_rt, ans_xc, forL_nil, forL_cons, ix_t0, ix_t1, ix_t2, ix_t3, o_add, o_sub, o_mul, o_fdiv, o_mod, o_neg, o_not, c_lt, c_le, c_gt, c_ge, c_eq, c_ne, c_eq2, c_ne2, c_eq3, c_ne3, c_is, c_isnot, isi_tt, isi_lt, isi_it, isi_ii, isi_ib, isi_ll, len_t1, len_t2, len_t3, len_t4, len_l, abs_i, tup_l, part_0, part_1, sl_l, call_0, call_1, call_2, call_3, call_4, call_5, call_6, call_7, glob_0, glob_1, glob_2, evE_v11, evE_v12, evE_v13, evE_v14, evE_v15, evE_v16, evE_v17, evE_v18, evE_v19, evE_v20, evS_set0, evS_setL0, evS_set1, evS_setL1, evS_set2, evS_setL2, evS_set3, evS_setL3, evS_set4, evS_setL4, evS_set5, evS_setL5, evS_set6, evS_setL6, evS_set7, evS_setL7, evS_set8, evS_setL8, evS_set9, evS_setL9, evS_set10, evS_setL10, evS_set11, evS_setL11, evS_set12, evS_setL12, evS_set13, evS_setL13, evS_set14, evS_setL14, evS_set15, evS_setL15, evS_set16, evS_setL16, evS_set17, evS_setL17, evS_set18, evS_setL18, evS_set19, evS_setL19, evS_set20, evS_setL20, evS_app0, evS_frz0, evS_frs0, evE_ixo0, evS_aug0, evS_app1, evS_frz1, evS_frs1, evE_ixo1, evS_aug1, evS_app2, evS_frz2, evS_frs2, evE_ixo2, evS_aug2, evS_app3, evS_frz3, evS_frs3, evE_ixo3, evS_aug3, evS_app4, evS_frz4, evS_frs4, evE_ixo4, evS_aug4, evS_app5, evS_frz5, evS_frs5, evE_ixo5, evS_aug5, evS_app6, evS_frz6, evS_frs6, evE_ixo6, evS_aug6, evS_app7, evS_frz7, evS_frs7, evE_ixo7, evS_aug7, evS_app8, evS_frz8, evS_frs8, evE_ixo8, evS_aug8, evS_app9, evS_frz9, evS_frs9, evE_ixo9, evS_aug9, evS_app10, evS_frz10, evS_frs10, evE_ixo10, evS_aug10, evS_app11, evS_frz11, evS_frs11, evE_ixo11, evS_aug11, evS_app12, evS_frz12, evS_frs12, evE_ixo12, evS_aug12, evS_app13, evS_frz13, evS_frs13, evE_ixo13, evS_aug13, evS_app14, evS_frz14, evS_frs14, evE_ixo14, evS_aug14, evS_app15, evS_frz15, evS_frs15, evE_ixo15, evS_aug15, evS_app16, evS_frz16, evS_frs16, evE_ixo16, evS_aug16, evS_pass, evE_ife, ifE_t, ifE_f, it_rng1, it_rng2, c_isnN, c_isnI, c_isN, c_isI, c_isnL, c_isnT, c_isL, c_isT, o_band, o_shr, len_t0, tup_t, call_8, call_9, call_10, call_11, call_12, rb_ok, rb_bad, rb_exc, ra_ok, ra_bad, ra_exc, ft_nx, ft_rt, ft_bad, ft_xc, List.set_cons_zero, List.set_cons_succ, List.nil_append, List.cons_append, Bool.not_true, Bool.not_false, decide_true, decide_false, eq_self, Int.reduceEq, Bool.false_or, Bool.or_false, Bool.true_or, Bool.or_true, Bool.true_and, Bool.and_true, Bool.false_and, Bool.and_false, Bool.or_self, Bool.and_self, w_ints3, t', decide_true, show decide ((3 : Int) < 2) = false from rfl]
end FT

namespace FT
open PySem PySem.Spec PyProof.Rows L2
/-! ### floor division by any number but nought -/
theorem fm_pos {h l : Int} (hl : 0 < l) : 0 ≤ h.fmod l ∧ h.fmod l < l := by
  rw [Int.fmod_eq_emod_of_nonneg h (by omega)]
  exact ⟨Int.emod_nonneg _ (by omega), Int.emod_lt_of_pos _ hl⟩
theorem fm_neg {h l : Int} (hl : l < 0) : l < h.fmod l ∧ h.fmod l ≤ 0 := by
  have e := Int.neg_fmod_neg h l
  have p := fm_pos (h := -h) (l := -l) (by omega)
  omega
theorem fm_abs {h l : Int} (hl : l ≠ 0) : (h.fmod l).natAbs < l.natAbs := by
  rcases Int.lt_or_gt_of_ne hl with t | t
  · have := fm_neg (h := h) t
    omega
  · have := fm_pos (h := h) (l := l) t
    omega
theorem gcd_fm (h l : Int) : Int.gcd l (h.fmod l) = Int.gcd h l := by
  have e := Int.fmod_add_mul_fdiv h l
  have k := Int.gcd_add_mul_right_right l (h.fmod l) (h.fdiv l)
  have e2 : h.fmod l + h.fdiv l * l = h := by rw [Int.mul_comm (h.fdiv l)]; exact e
  rw [e2] at k
  rw [← k, Int.gcd_comm]
theorem o_divmod {i j : Int} (h0 : j ≠ 0) (hl : j.natAbs.log2 < 9000) : biD .divmod [.int i, .int j] = .ok (.tuple [.int (i.fdiv j), .int (i.fmod j)]) := by
  show (bif divOk j then R.ok (PyData.tuple [.int (i / j), .int (i % j)]) else bif decide (j < 0) && decide (j.natAbs.log2 < 9000) then .ok (.tuple [.int (i.fdiv j), .int (i.fmod j)]) else .bad) = _
  unfold divOk
  rw [decide_eq_true hl, Bool.and_true, Bool.and_true]
  by_cases p : 0 < j
  · rw [decide_eq_true p, Int.fmod_eq_emod_of_nonneg _ (by omega), Int.fdiv_eq_ediv_of_nonneg _ (by omega)]
    rfl
  · rw [decide_eq_false p, decide_eq_true (show j < 0 by omega)]
    rfl
theorem o_fmod {i j : Int} (h0 : j ≠ 0) : op2 .mod (.int i) (.int j) = .ok (.int (i.fmod j)) := by
  show (bif decide (0 < j) then R.ok (PyData.int (i % j)) else bif decide (j = 0) then .bad else .ok (.int (i.fmod j))) = _
  by_cases p : 0 < j
  · rw [decide_eq_true p, Int.fmod_eq_emod_of_nonneg _ (by omega)]
    rfl
  · rw [decide_eq_false p, decide_eq_false h0]
    rfl
theorem log_bd {n : Nat} {j : Int} (h : Bd n j) (h0 : j ≠ 0) (l : n ≤ 9000) : j.natAbs.log2 < 9000 :=
  Nat.lt_of_lt_of_le ((Nat.log2_lt (by omega)).mpr h.lt) l
/-! ### the law's divisor -/
noncomputable abbrev dvc : En → R D := fun ρ => evE G__law_divisor (.cmp .ne (.v 1) (.int 0)) ρ
noncomputable abbrev dvb : En → Fl := fun ρ => evSs G__law_divisor w1__law_divisor ρ
theorem dv_loop : ∀ (A : Nat) (h l : Int) (x : Option Sl), l.natAbs ≤ A → ∃ h' y, whileL dvc dvb [some (.sh (.int h)), some (.sh (.int l)), x] = .nx [some (.sh (.int h')), some (.sh (.int 0)), y] ∧ h'.natAbs = Int.gcd h l
  | A, h, l, x, hA => by
    by_cases h0 : l = 0
    · subst h0
      refine ⟨h, x, ?_, (Int.gcd_zero_right h).symm⟩
      have e : dvc [some (.sh (.int h)), some (.sh (.int 0)), x] = .ok (.bool false) := by
        show evE G__law_divisor _ _ = _
        unfold G__law_divisor
        simp (disch := first | exact mulOk_bd | assumption | omega) only [evE_v0, evE_v1, evE_v2, evE_v3, evE_v4, evE_v5, evE_v6, evE_v7, evE_v8, evE_v9, evE_v10, evE_int, evE_bl, evE_non, evE_str, evE_bin, evE_neg, evE_not, evE_cmp, evE_tup, evE_lst, evE_ix, evE_call, evE_bi, evE_sl, evE_isi, andB_t, andB_f, orB_t, orB_f, andB_b, orB_b, evE_and, evE_or, evAnd_one, evOr_one, evAnd_two, evOr_two, evEs_nil, evEs_cons, evSs_nil, evSs_cons, evS_ex, evS_ret, ifB_t, ifB_f, evS_ife, evS_raise, evS_for, seq_t, seq_l, it_seq, ans_nx, ans_rt, ans_xc, forL_nil, forL_cons, ix_t0, ix_t1, ix_t2, ix_t3, o_add, o_sub, o_mul, o_fdiv, o_mod, o_neg, o_not, c_lt, c_le, c_gt, c_ge, c_eq, c_ne, c_eq2, c_ne2, c_eq3, c_ne3, c_is, c_isnot, isi_tt, isi_lt, isi_it, isi_ii, isi_ib, isi_ll, len_t1, len_t2, len_t3, len_t4, len_l, abs_i, tup_l, part_0, part_1, sl_l, call_0, call_1, call_2, call_3, call_4, call_5, call_6, call_7, glob_0, glob_1, glob_2, evE_v11, evE_v12, evE_v13, evE_v14, evE_v15, evE_v16, evE_v17, evE_v18, evE_v19, evE_v20, evS_set0, evS_setL0, evS_set1, evS_setL1, evS_set2, evS_setL2, evS_set3, evS_setL3, evS_set4, evS_setL4, evS_set5, evS_setL5, evS_set6, evS_setL6, evS_set7, evS_setL7, evS_set8, evS_setL8, evS_set9, evS_setL9, evS_set10, evS_setL10, evS_set11, evS_setL11, evS_set12, evS_setL12, evS_set13, evS_setL13, evS_set14, evS_setL14, evS_set15, evS_setL15, evS_set16, evS_setL16, evS_set17, evS_setL17, evS_set18, evS_setL18, evS_set19, evS_setL19, evS_set20, evS_setL20, evS_app0, evS_frz0, evS_frs0, evE_ixo0, evS_aug0, evS_app1, evS_frz1, evS_frs1, evE_ixo1, evS_aug1, evS_app2, evS_frz2, evS_frs2, evE_ixo2, evS_aug2, evS_app3, evS_frz3, evS_frs3, evE_ixo3, evS_aug3, evS_app4, evS_frz4, evS_frs4, evE_ixo4, evS_aug4, evS_app5, evS_frz5, evS_frs5, evE_ixo5, evS_aug5, evS_app6, evS_frz6, evS_frs6, evE_ixo6, evS_aug6, evS_app7, evS_frz7, evS_frs7, evE_ixo7, evS_aug7, evS_app8, evS_frz8, evS_frs8, evE_ixo8, evS_aug8, evS_app9, evS_frz9, evS_frs9, evE_ixo9, evS_aug9, evS_app10, evS_frz10, evS_frs10, evE_ixo10, evS_aug10, evS_app11, evS_frz11, evS_frs11, evE_ixo11, evS_aug11, evS_app12, evS_frz12, evS_frs12, evE_ixo12, evS_aug12, evS_app13, evS_frz13, evS_frs13, evE_ixo13, evS_aug13, evS_app14, evS_frz14, evS_frs14, evE_ixo14, evS_aug14, evS_app15, evS_frz15, evS_frs15, evE_ixo15, evS_aug15, evS_app16, evS_frz16, evS_frs16, evE_ixo16, evS_aug16, evS_pass, evE_ife, ifE_t, ifE_f, it_rng1, it_rng2, c_isnN, c_isnI, c_isN, c_isI, c_isnL, c_isnT, c_isL, c_isT, o_band, o_shr, len_t0, tup_t, call_8, call_9, call_10, call_11, call_12, rb_ok, rb_bad, rb_exc, ra_ok, ra_bad, ra_exc, ft_nx, ft_rt, ft_bad, ft_xc, List.set_cons_zero, List.set_cons_succ, List.nil_append, List.cons_append, Bool.not_true, Bool.not_false, decide_true, decide_false, eq_self, Int.reduceEq, Bool.false_or, Bool.or_false, Bool.true_or, Bool.or_true, Bool.true_and, Bool.and_true, Bool.false_and, Bool.and_false, Bool.or_self, Bool.and_self]
      rw [whileL_eq, e]
      rfl
    · match A, hA with
      | 0, hA => exact absurd hA (by omega)
      | A + 1, hA =>
        have f := fm_abs (h := h) h0
        obtain ⟨h', y, e, g⟩ := dv_loop A l (h.fmod l) (some (.sh (.int (h.fmod l)))) (by omega)
        refine ⟨h', y, ?_, g.trans (gcd_fm h l)⟩
        have e1 : dvc [some (.sh (.int h)), some (.sh (.int l)), x] = .ok (.bool true) := by
          show evE G__law_divisor _ _ = _
          unfold G__law_divisor
          simp (disch := first | exact mulOk_bd | assumption | omega) only [evE_v0, evE_v1, evE_v2, evE_v3, evE_v4, evE_v5, evE_v6, evE_v7, evE_v8, evE_v9, evE_v10, evE_int, evE_bl, evE_non, evE_str, evE_bin, evE_neg, evE_not, evE_cmp, evE_tup, evE_lst, evE_ix, evE_call, evE_bi, evE_sl, evE_isi, andB_t, andB_f, orB_t, orB_f, andB_b, orB_b, evE_and, evE_or, evAnd_one, evOr_one, evAnd_two, evOr_two, evEs_nil, evEs_cons, evSs_nil, evSs_cons, evS_ex, evS_ret, ifB_t, ifB_f, evS_ife, evS_raise, evS_for, seq_t, seq_l, it_seq, ans_nx, ans_rt, ans_xc, forL_nil, forL_cons, ix_t0, ix_t1, ix_t2, ix_t3, o_add, o_sub, o_mul, o_fdiv, o_mod, o_neg, o_not, c_lt, c_le, c_gt, c_ge, c_eq, c_ne, c_eq2, c_ne2, c_eq3, c_ne3, c_is, c_isnot, isi_tt, isi_lt, isi_it, isi_ii, isi_ib, isi_ll, len_t1, len_t2, len_t3, len_t4, len_l, abs_i, tup_l, part_0, part_1, sl_l, call_0, call_1, call_2, call_3, call_4, call_5, call_6, call_7, glob_0, glob_1, glob_2, evE_v11, evE_v12, evE_v13, evE_v14, evE_v15, evE_v16, evE_v17, evE_v18, evE_v19, evE_v20, evS_set0, evS_setL0, evS_set1, evS_setL1, evS_set2, evS_setL2, evS_set3, evS_setL3, evS_set4, evS_setL4, evS_set5, evS_setL5, evS_set6, evS_setL6, evS_set7, evS_setL7, evS_set8, evS_setL8, evS_set9, evS_setL9, evS_set10, evS_setL10, evS_set11, evS_setL11, evS_set12, evS_setL12, evS_set13, evS_setL13, evS_set14, evS_setL14, evS_set15, evS_setL15, evS_set16, evS_setL16, evS_set17, evS_setL17, evS_set18, evS_setL18, evS_set19, evS_setL19, evS_set20, evS_setL20, evS_app0, evS_frz0, evS_frs0, evE_ixo0, evS_aug0, evS_app1, evS_frz1, evS_frs1, evE_ixo1, evS_aug1, evS_app2, evS_frz2, evS_frs2, evE_ixo2, evS_aug2, evS_app3, evS_frz3, evS_frs3, evE_ixo3, evS_aug3, evS_app4, evS_frz4, evS_frs4, evE_ixo4, evS_aug4, evS_app5, evS_frz5, evS_frs5, evE_ixo5, evS_aug5, evS_app6, evS_frz6, evS_frs6, evE_ixo6, evS_aug6, evS_app7, evS_frz7, evS_frs7, evE_ixo7, evS_aug7, evS_app8, evS_frz8, evS_frs8, evE_ixo8, evS_aug8, evS_app9, evS_frz9, evS_frs9, evE_ixo9, evS_aug9, evS_app10, evS_frz10, evS_frs10, evE_ixo10, evS_aug10, evS_app11, evS_frz11, evS_frs11, evE_ixo11, evS_aug11, evS_app12, evS_frz12, evS_frs12, evE_ixo12, evS_aug12, evS_app13, evS_frz13, evS_frs13, evE_ixo13, evS_aug13, evS_app14, evS_frz14, evS_frs14, evE_ixo14, evS_aug14, evS_app15, evS_frz15, evS_frs15, evE_ixo15, evS_aug15, evS_app16, evS_frz16, evS_frs16, evE_ixo16, evS_aug16, evS_pass, evE_ife, ifE_t, ifE_f, it_rng1, it_rng2, c_isnN, c_isnI, c_isN, c_isI, c_isnL, c_isnT, c_isL, c_isT, o_band, o_shr, len_t0, tup_t, call_8, call_9, call_10, call_11, call_12, rb_ok, rb_bad, rb_exc, ra_ok, ra_bad, ra_exc, ft_nx, ft_rt, ft_bad, ft_xc, List.set_cons_zero, List.set_cons_succ, List.nil_append, List.cons_append, Bool.not_true, Bool.not_false, decide_true, decide_false, eq_self, Int.reduceEq, Bool.false_or, Bool.or_false, Bool.true_or, Bool.or_true, Bool.true_and, Bool.and_true, Bool.false_and, Bool.and_false, Bool.or_self, Bool.and_self, decide_eq_false h0]
        have e2 : evSs G__law_divisor w1__law_divisor [some (.sh (.int h)), some (.sh (.int l)), x] = .nx [some (.sh (.int l)), some (.sh (.int (h.fmod l))), some (.sh (.int (h.fmod l)))] := by
          unfold G__law_divisor w1__law_divisor
          simp (disch := first | exact mulOk_bd | assumption | omega) only [evE_v0, evE_v1, evE_v2, evE_v3, evE_v4, evE_v5, evE_v6, evE_v7, evE_v8, evE_v9, evE_v10, evE_int, evE_bl, evE_non, evE_str, evE_bin, evE_neg, evE_not, evE_cmp, evE_tup, evE_lst, evE_ix, evE_call, evE_bi, evE_sl, evE_isi, andB_t, andB_f, orB_t, orB_f, andB_b, orB_b, evE_and, evE_or, evAnd_one, evOr_one, evAnd_two, evOr_two, evEs_nil, evEs_cons, evSs_nil, evSs_cons, evS_ex, evS_ret, ifB_t, ifB_f, evS_ife, evS_raise, evS_for, seq_t, seq_l, it_seq, ans_nx, ans_rt, ans_xc, forL_nil, forL_cons, ix_t0, ix_t1, ix_t2, ix_t3, o_add, o_sub, o_mul, o_fdiv, o_mod, o_neg, o_not, c_lt, c_le, c_gt, c_ge, c_eq, c_ne, c_eq2, c_ne2, c_eq3, c_ne3, c_is, c_isnot, isi_tt, isi_lt, isi_it, isi_ii, isi_ib, isi_ll, len_t1, len_t2, len_t3, len_t4, len_l, abs_i, tup_l, part_0, part_1, sl_l, call_0, call_1, call_2, call_3, call_4, call_5, call_6, call_7, glob_0, glob_1, glob_2, evE_v11, evE_v12, evE_v13, evE_v14, evE_v15, evE_v16, evE_v17, evE_v18, evE_v19, evE_v20, evS_set0, evS_setL0, evS_set1, evS_setL1, evS_set2, evS_setL2, evS_set3, evS_setL3, evS_set4, evS_setL4, evS_set5, evS_setL5, evS_set6, evS_setL6, evS_set7, evS_setL7, evS_set8, evS_setL8, evS_set9, evS_setL9, evS_set10, evS_setL10, evS_set11, evS_setL11, evS_set12, evS_setL12, evS_set13, evS_setL13, evS_set14, evS_setL14, evS_set15, evS_setL15, evS_set16, evS_setL16, evS_set17, evS_setL17, evS_set18, evS_setL18, evS_set19, evS_setL19, evS_set20, evS_setL20, evS_app0, evS_frz0, evS_frs0, evE_ixo0, evS_aug0, evS_app1, evS_frz1, evS_frs1, evE_ixo1, evS_aug1, evS_app2, evS_frz2, evS_frs2, evE_ixo2, evS_aug2, evS_app3, evS_frz3, evS_frs3, evE_ixo3, evS_aug3, evS_app4, evS_frz4, evS_frs4, evE_ixo4, evS_aug4, evS_app5, evS_frz5, evS_frs5, evE_ixo5, evS_aug5, evS_app6, evS_frz6, evS_frs6, evE_ixo6, evS_aug6, evS_app7, evS_frz7, evS_frs7, evE_ixo7, evS_aug7, evS_app8, evS_frz8, evS_frs8, evE_ixo8, evS_aug8, evS_app9, evS_frz9, evS_frs9, evE_ixo9, evS_aug9, evS_app10, evS_frz10, evS_frs10, evE_ixo10, evS_aug10, evS_app11, evS_frz11, evS_frs11, evE_ixo11, evS_aug11, evS_app12, evS_frz12, evS_frs12, evE_ixo12, evS_aug12, evS_app13, evS_frz13, evS_frs13, evE_ixo13, evS_aug13, evS_app14, evS_frz14, evS_frs14, evE_ixo14, evS_aug14, evS_app15, evS_frz15, evS_frs15, evE_ixo15, evS_aug15, evS_app16, evS_frz16, evS_frs16, evE_ixo16, evS_aug16, evS_pass, evE_ife, ifE_t, ifE_f, it_rng1, it_rng2, c_isnN, c_isnI, c_isN, c_isI, c_isnL, c_isnT, c_isL, c_isT, o_band, o_shr, len_t0, tup_t, call_8, call_9, call_10, call_11, call_12, rb_ok, rb_bad, rb_exc, ra_ok, ra_bad, ra_exc, ft_nx, ft_rt, ft_bad, ft_xc, List.set_cons_zero, List.set_cons_succ, List.nil_append, List.cons_append, Bool.not_true, Bool.not_false, decide_true, decide_false, eq_self, Int.reduceEq, Bool.false_or, Bool.or_false, Bool.true_or, Bool.or_true, Bool.true_and, Bool.and_true, Bool.false_and, Bool.and_false, Bool.or_self, Bool.and_self, o_fmod h0]
        rw [whileL_eq, e1]
        show (evSs G__law_divisor w1__law_divisor [some (.sh (.int h)), some (.sh (.int l)), x]).then (whileL dvc dvb) = _
        rw [e2]
        exact e
theorem w_divisor (h l : Int) : sem__law_divisor [.int h, .int l] = .ok (.int (Int.gcd h l : Nat)) := by
  obtain ⟨h', y, e, g⟩ := dv_loop _ h l none (Nat.le_refl _)
  show (evSs G__law_divisor b__law_divisor [some (.sh _), some (.sh _), none]).ans = _
  have hw2 : evS G__law_divisor (.while_ (.cmp .ne (.v 1) (.int 0)) w1__law_divisor) [some (.sh (.int h)), some (.sh (.int l)), none] = _ := evS_while.trans e
  unfold b__law_divisor
  unfold G__law_divisor at hw2 ⊢
  simp (disch := first | exact mulOk_bd | assumption | omega) only [evE_v0, evE_v1, evE_v2, evE_v3, evE_v4, evE_v5, evE_v6, evE_v7, evE_v8, evE_v9, evE_v10, evE_int, evE_bl, evE_non, evE_str, evE_bin, evE_neg, evE_not, evE_cmp, evE_tup, evE_lst, evE_ix, evE_call, evE_bi, evE_sl, evE_isi, andB_t, andB_f, orB_t, orB_f, andB_b, orB_b, evE_and, evE_or, evAnd_one, evOr_one, evAnd_two, evOr_two, evEs_nil, evEs_cons, evSs_nil, evSs_cons, evS_ex, evS_ret, ifB_t, ifB_f, evS_ife, evS_raise, evS_for, seq_t, seq_l, it_seq, ans_nx, ans_rt, ans_xc, forL_nil, forL_cons, ix_t0, ix_t1, ix_t2, ix_t3, o_add, o_sub, o_mul, o_fdiv, o_mod, o_neg, o_not, c_lt, c_le, c_gt, c_ge, c_eq, c_ne, c_eq2, c_ne2, c_eq3, c_ne3, c_is, c_isnot, isi_tt, isi_lt, isi_it, isi_ii, isi_ib, isi_ll, len_t1, len_t2, len_t3, len_t4, len_l, abs_i, tup_l, part_0, part_1, sl_l, call_0, call_1, call_2, call_3, call_4, call_5, call_6, call_7, glob_0, glob_1, glob_2, evE_v11, evE_v12, evE_v13, evE_v14, evE_v15, evE_v16, evE_v17, evE_v18, evE_v19, evE_v20, evS_set0, evS_setL0, evS_set1, evS_setL1, evS_set2, evS_setL2, evS_set3, evS_setL3, evS_set4, evS_setL4, evS_set5, evS_setL5, evS_set6, evS_setL6, evS_set7, evS_setL7, evS_set8, evS_setL8, evS_set9, evS_setL9, evS_set10, evS_setL10, evS_set11, evS_setL11, evS_set12, evS_setL12, evS_set13, evS_setL13, evS_set14, evS_setL14, evS_set15, evS_setL15, evS_set16, evS_setL16, evS_set17, evS_setL17, evS_set18, evS_setL18, evS_set19, evS_setL19, evS_set20, evS_setL20, evS_app0, evS_frz0, evS_frs0, evE_ixo0, evS_aug0, evS_app1, evS_frz1, evS_frs1, evE_ixo1, evS_aug1, evS_app2, evS_frz2, evS_frs2, evE_ixo2, evS_aug2, evS_app3, evS_frz3, evS_frs3, evE_ixo3, evS_aug3, evS_app4, evS_frz4, evS_frs4, evE_ixo4, evS_aug4, evS_app5, evS_frz5, evS_frs5, evE_ixo5, evS_aug5, evS_app6, evS_frz6, evS_frs6, evE_ixo6, evS_aug6, evS_app7, evS_frz7, evS_frs7, evE_ixo7, evS_aug7, evS_app8, evS_frz8, evS_frs8, evE_ixo8, evS_aug8, evS_app9, evS_frz9, evS_frs9, evE_ixo9, evS_aug9, evS_app10, evS_frz10, evS_frs10, evE_ixo10, evS_aug10, evS_app11, evS_frz11, evS_frs11, evE_ixo11, evS_aug11, evS_app12, evS_frz12, evS_frs12, evE_ixo12, evS_aug12, evS_app13, evS_frz13, evS_frs13, evE_ixo13, evS_aug13, evS_app14, evS_frz14, evS_frs14, evE_ixo14, evS_aug14, evS_app15, evS_frz15, evS_frs15, evE_ixo15, evS_aug15, evS_app16, evS_frz16, evS_frs16, evE_ixo16, evS_aug16, evS_pass, evE_ife, ifE_t, ifE_f, it_rng1, it_rng2, c_isnN, c_isnI, c_isN, c_isI, c_isnL, c_isnT, c_isL, c_isT, o_band, o_shr, len_t0, tup_t, call_8, call_9, call_10, call_11, call_12, rb_ok, rb_bad, rb_exc, ra_ok, ra_bad, ra_exc, ft_nx, ft_rt, ft_bad, ft_xc, List.set_cons_zero, List.set_cons_succ, List.nil_append, List.cons_append, Bool.not_true, Bool.not_false, decide_true, decide_false, eq_self, Int.reduceEq, Bool.false_or, Bool.or_false, Bool.true_or, Bool.or_true, Bool.true_and, Bool.and_true, Bool.false_and, Bool.and_false, Bool.or_self, Bool.and_self, hw2, g]
/-! ### common -/
structure CInv (x y h hp hq l lp lq : Int) (K : Nat) : Prop where
  e1 : hp * x + hq * y = h
  e2 : lp * x + lq * y = l
  g : Int.gcd h l = Int.gcd x y
  sg : (0 < h ∧ 0 ≤ l) ∨ (h < 0 ∧ l ≤ 0)
  p0 : hp.natAbs ≤ K
  p1 : lp.natAbs * h.natAbs + hp.natAbs * l.natAbs ≤ K
  q0 : hq.natAbs ≤ K
  q1 : lq.natAbs * h.natAbs + hq.natAbs * l.natAbs ≤ K
  b0 : h.natAbs ≤ K
theorem cstep_bd {h l hp lp : Int} {K : Nat} (sg : (0 < h ∧ 0 ≤ l) ∨ (h < 0 ∧ l ≤ 0)) (hl : l ≠ 0) (p1 : lp.natAbs * h.natAbs + hp.natAbs * l.natAbs ≤ K) :
    lp.natAbs ≤ K ∧ (hp - h.fdiv l * lp).natAbs * l.natAbs + lp.natAbs * (h.fmod l).natAbs ≤ K := by
  have e := Int.fmod_add_mul_fdiv h l
  have hh : 0 < h.natAbs := by omega
  have k0 : lp.natAbs * 1 ≤ lp.natAbs * h.natAbs := Nat.mul_le_mul_left _ hh
  refine ⟨by omega, ?_⟩
  have qn : 0 ≤ h.fdiv l := by
    rcases Int.lt_or_le (h.fdiv l) 0 with t | t
    · exfalso
      rcases sg with ⟨s1, s2⟩ | ⟨s1, s2⟩
      · have f := fm_pos (h := h) (l := l) (by omega)
        have : l * h.fdiv l ≤ l * (-1) := Int.mul_le_mul_of_nonneg_left (by omega) (by omega)
        omega
      · have f := fm_neg (h := h) (l := l) (by omega)
        have : (-l) * h.fdiv l ≤ (-l) * (-1) := Int.mul_le_mul_of_nonneg_left (by omega) (by omega)
        rw [Int.neg_mul] at this
        omega
    · exact t
  have ha : h.natAbs = (h.fdiv l).natAbs * l.natAbs + (h.fmod l).natAbs := by
    rw [← Int.natAbs_mul, Int.mul_comm]
    rcases sg with ⟨s1, s2⟩ | ⟨s1, s2⟩
    · have f := fm_pos (h := h) (l := l) (by omega)
      have : 0 ≤ l * h.fdiv l := Int.mul_nonneg s2 qn
      omega
    · have f := fm_neg (h := h) (l := l) (by omega)
      have : 0 ≤ (-l) * h.fdiv l := Int.mul_nonneg (by omega) qn
      rw [Int.neg_mul] at this
      omega
  have t1 : (hp - h.fdiv l * lp).natAbs ≤ hp.natAbs + (h.fdiv l).natAbs * lp.natAbs := by
    rw [← Int.natAbs_mul]
    omega
  have t2 := Nat.mul_le_mul_right l.natAbs t1
  rw [Nat.add_mul] at t2
  rw [ha, Nat.mul_add] at p1
  have t3 : (h.fdiv l).natAbs * lp.natAbs * l.natAbs = lp.natAbs * ((h.fdiv l).natAbs * l.natAbs) := by
    rw [Nat.mul_comm (h.fdiv l).natAbs lp.natAbs, Nat.mul_assoc]
  omega
theorem CInv.step {x y h hp hq l lp lq : Int} {K : Nat} (I : CInv x y h hp hq l lp lq K) (hl : l ≠ 0) :
    CInv x y l lp lq (h.fmod l) (hp - h.fdiv l * lp) (hq - h.fdiv l * lq) K := by
  have e := Int.fmod_add_mul_fdiv h l
  have f := fm_abs (h := h) hl
  have P := cstep_bd I.sg hl I.p1
  have Q := cstep_bd I.sg hl I.q1
  refine ⟨I.e2, ?_, (gcd_fm h l).trans I.g, ?_, P.1, P.2, Q.1, Q.2, ?_⟩
  · have : (hp - h.fdiv l * lp) * x + (hq - h.fdiv l * lq) * y = (hp * x + hq * y) - h.fdiv l * (lp * x + lq * y) := by grind
    rw [this, I.e1, I.e2, Int.mul_comm (h.fdiv l)]
    omega
  · rcases I.sg with ⟨s1, s2⟩ | ⟨s1, s2⟩
    · have := fm_pos (h := h) (l := l) (by omega)
      omega
    · have := fm_neg (h := h) (l := l) (by omega)
      omega
  · have b0 := I.b0
    have p1 := I.p1
    have q1 := I.q1
    have : l.natAbs ≤ K := by
      by_cases z : hp = 0
      · by_cases z2 : hq = 0
        · have := I.e1
          have sg := I.sg
          rw [z, z2] at this
          omega
        · have : 1 * l.natAbs ≤ hq.natAbs * l.natAbs := Nat.mul_le_mul_right _ (by omega)
          omega
      · have : 1 * l.natAbs ≤ hp.natAbs * l.natAbs := Nat.mul_le_mul_right _ (by omega)
        omega
    exact this
theorem CInv.lb {x y h hp hq l lp lq : Int} {K : Nat} (I : CInv x y h hp hq l lp lq K) : lp.natAbs ≤ K ∧ lq.natAbs ≤ K := by
  have p1 := I.p1
  have q1 := I.q1
  have hh : 1 ≤ h.natAbs := by have := I.sg; omega
  have k0 : lp.natAbs * 1 ≤ lp.natAbs * h.natAbs := Nat.mul_le_mul_left _ hh
  have k1 : lq.natAbs * 1 ≤ lq.natAbs * h.natAbs := Nat.mul_le_mul_left _ hh
  omega
noncomputable abbrev cmc : En → R D := fun ρ => evE G_common (.cmp .ne (.ix (.v 3) (.int 0)) (.int 0)) ρ
noncomputable abbrev cmb : En → Fl := fun ρ => evSs G_common w1_common ρ
theorem bd_le {n K : Nat} {i : Int} (h : i.natAbs ≤ K) (hK : K < 2 ^ n) : Bd n i := ⟨Nat.lt_of_le_of_lt h hK⟩
theorem fdiv_bd {n : Nat} {h l : Int} (H : Bd n h) (hl : l ≠ 0) : Bd (n + 1) (h.fdiv l) := ⟨by
  have h1 := H.lt
  have e := Int.fmod_add_mul_fdiv h l
  have f := fm_abs (h := h) hl
  have : (h.fdiv l).natAbs ≤ h.natAbs + 1 := by
    have k : (l * h.fdiv l).natAbs ≤ h.natAbs + (h.fmod l).natAbs := by omega
    rw [Int.natAbs_mul] at k
    rcases Nat.lt_or_ge (h.natAbs + 1) (h.fdiv l).natAbs with t | t
    · have t2 : l.natAbs * (h.natAbs + 2) ≤ l.natAbs * (h.fdiv l).natAbs := Nat.mul_le_mul_left _ t
      have t3 : 1 * h.natAbs ≤ l.natAbs * h.natAbs := Nat.mul_le_mul_right _ (by omega)
      rw [Nat.mul_add] at t2
      omega
    · exact t
  rw [Nat.pow_succ]
  have := Nat.pow_pos (n := n) (show 0 < 2 by decide)
  omega⟩
theorem cm_step {d1 d2 : D} {h hp hq l lp lq : Int} {x4 x5 : Option Sl} {n : Nat} (H : Bd n h) (B1 : Bd n lp) (B2 : Bd n lq) (Bl : Bd n l) (hn : n ≤ 9000) (hl : l ≠ 0) :
    whileL cmc cmb [some (.sh d1), some (.sh d2), some (.sh (PyData.tuple [PyData.int h, PyData.int hp, PyData.int hq])), some (.sh (PyData.tuple [PyData.int l, PyData.int lp, PyData.int lq])), x4, x5] = whileL cmc cmb [some (.sh d1), some (.sh d2), some (.sh (PyData.tuple [PyData.int l, PyData.int lp, PyData.int lq])), some (.sh (PyData.tuple [PyData.int (h.fmod l), PyData.int (hp - h.fdiv l * lp), PyData.int (hq - h.fdiv l * lq)])), some (.sh (PyData.tuple [PyData.int (h.fdiv l), PyData.int (h.fmod l)])), some (.sh (PyData.tuple [PyData.int (h.fmod l), PyData.int (hp - h.fdiv l * lp), PyData.int (hq - h.fdiv l * lq)]))] := by
  have e1 : cmc [some (.sh d1), some (.sh d2), some (.sh (PyData.tuple [PyData.int h, PyData.int hp, PyData.int hq])), some (.sh (PyData.tuple [PyData.int l, PyData.int lp, PyData.int lq])), x4, x5] = .ok (.bool true) := by
    show evE G_common _ _ = _
    unfold G_common
    simp (disch := first | exact mulOk_bd | assumption | omega) only [evE_v0, evE_v1, evE_v2, evE_v3, evE_v4, evE_v5, evE_v6, evE_v7, evE_v8, evE_v9, evE_v10, evE_int, evE_bl, evE_non, evE_str, evE_bin, evE_neg, evE_not, evE_cmp, evE_tup, evE_lst, evE_ix, evE_call, evE_bi, evE_sl, evE_isi, andB_t, andB_f, orB_t, orB_f, andB_b, orB_b, evE_and, evE_or, evAnd_one, evOr_one, evAnd_two, evOr_two, evEs_nil, evEs_cons, evSs_nil, evSs_cons, evS_ex, evS_ret, ifB_t, ifB_f, evS_ife, evS_raise, evS_for, seq_t, seq_l, it_seq, ans_nx, ans_rt, ans_xc, forL_nil, forL_cons, ix_t0, ix_t1, ix_t2, ix_t3, o_add, o_sub, o_mul, o_fdiv, o_mod, o_neg, o_not, c_lt, c_le, c_gt, c_ge, c_eq, c_ne, c_eq2, c_ne2, c_eq3, c_ne3, c_is, c_isnot, isi_tt, isi_lt, isi_it, isi_ii, isi_ib, isi_ll, len_t1, len_t2, len_t3, len_t4, len_l, abs_i, tup_l, part_0, part_1, sl_l, call_0, call_1, call_2, call_3, call_4, call_5, call_6, call_7, glob_0, glob_1, glob_2, evE_v11, evE_v12, evE_v13, evE_v14, evE_v15, evE_v16, evE_v17, evE_v18, evE_v19, evE_v20, evS_set0, evS_setL0, evS_set1, evS_setL1, evS_set2, evS_setL2, evS_set3, evS_setL3, evS_set4, evS_setL4, evS_set5, evS_setL5, evS_set6, evS_setL6, evS_set7, evS_setL7, evS_set8, evS_setL8, evS_set9, evS_setL9, evS_set10, evS_setL10, evS_set11, evS_setL11, evS_set12, evS_setL12, evS_set13, evS_setL13, evS_set14, evS_setL14, evS_set15, evS_setL15, evS_set16, evS_setL16, evS_set17, evS_setL17, evS_set18, evS_setL18, evS_set19, evS_setL19, evS_set20, evS_setL20, evS_app0, evS_frz0, evS_frs0, evE_ixo0, evS_aug0, evS_app1, evS_frz1, evS_frs1, evE_ixo1, evS_aug1, evS_app2, evS_frz2, evS_frs2, evE_ixo2, evS_aug2, evS_app3, evS_frz3, evS_frs3, evE_ixo3, evS_aug3, evS_app4, evS_frz4, evS_frs4, evE_ixo4, evS_aug4, evS_app5, evS_frz5, evS_frs5, evE_ixo5, evS_aug5, evS_app6, evS_frz6, evS_frs6, evE_ixo6, evS_aug6, evS_app7, evS_frz7, evS_frs7, evE_ixo7, evS_aug7, evS_app8, evS_frz8, evS_frs8, evE_ixo8, evS_aug8, evS_app9, evS_frz9, evS_frs9, evE_ixo9, evS_aug9, evS_app10, evS_frz10, evS_frs10, evE_ixo10, evS_aug10, evS_app11, evS_frz11, evS_frs11, evE_ixo11, evS_aug11, evS_app12, evS_frz12, evS_frs12, evE_ixo12, evS_aug12, evS_app13, evS_frz13, evS_frs13, evE_ixo13, evS_aug13, evS_app14, evS_frz14, evS_frs14, evE_ixo14, evS_aug14, evS_app15, evS_frz15, evS_frs15, evE_ixo15, evS_aug15, evS_app16, evS_frz16, evS_frs16, evE_ixo16, evS_aug16, evS_pass, evE_ife, ifE_t, ifE_f, it_rng1, it_rng2, c_isnN, c_isnI, c_isN, c_isI, c_isnL, c_isnT, c_isL, c_isT, o_band, o_shr, len_t0, tup_t, call_8, call_9, call_10, call_11, call_12, rb_ok, rb_bad, rb_exc, ra_ok, ra_bad, ra_exc, ft_nx, ft_rt, ft_bad, ft_xc, List.set_cons_zero, List.set_cons_succ, List.nil_append, List.cons_append, Bool.not_true, Bool.not_false, decide_true, decide_false, eq_self, Int.reduceEq, Bool.false_or, Bool.or_false, Bool.true_or, Bool.or_true, Bool.true_and, Bool.and_true, Bool.false_and, Bool.and_false, Bool.or_self, Bool.and_self, decide_eq_false hl]
  have Bq := fdiv_bd H hl
  have dm := o_divmod (i := h) hl (log_bd Bl hl hn)
  have e2 : evSs G_common w1_common [some (.sh d1), some (.sh d2), some (.sh (PyData.tuple [PyData.int h, PyData.int hp, PyData.int hq])), some (.sh (PyData.tuple [PyData.int l, PyData.int lp, PyData.int lq])), x4, x5] = .nx [some (.sh d1), some (.sh d2), some (.sh (PyData.tuple [PyData.int l, PyData.int lp, PyData.int lq])), some (.sh (PyData.tuple [PyData.int (h.fmod l), PyData.int (hp - h.fdiv l * lp), PyData.int (hq - h.fdiv l * lq)])), some (.sh (PyData.tuple [PyData.int (h.fdiv l), PyData.int (h.fmod l)])), some (.sh (PyData.tuple [PyData.int (h.fmod l), PyData.int (hp - h.fdiv l * lp), PyData.int (hq - h.fdiv l * lq)]))] := by
    unfold G_common w1_common
    simp (disch := first | exact mulOk_bd | assumption | omega) only [evE_v0, evE_v1, evE_v2, evE_v3, evE_v4, evE_v5, evE_v6, evE_v7, evE_v8, evE_v9, evE_v10, evE_int, evE_bl, evE_non, evE_str, evE_bin, evE_neg, evE_not, evE_cmp, evE_tup, evE_lst, evE_ix, evE_call, evE_bi, evE_sl, evE_isi, andB_t, andB_f, orB_t, orB_f, andB_b, orB_b, evE_and, evE_or, evAnd_one, evOr_one, evAnd_two, evOr_two, evEs_nil, evEs_cons, evSs_nil, evSs_cons, evS_ex, evS_ret, ifB_t, ifB_f, evS_ife, evS_raise, evS_for, seq_t, seq_l, it_seq, ans_nx, ans_rt, ans_xc, forL_nil, forL_cons, ix_t0, ix_t1, ix_t2, ix_t3, o_add, o_sub, o_mul, o_fdiv, o_mod, o_neg, o_not, c_lt, c_le, c_gt, c_ge, c_eq, c_ne, c_eq2, c_ne2, c_eq3, c_ne3, c_is, c_isnot, isi_tt, isi_lt, isi_it, isi_ii, isi_ib, isi_ll, len_t1, len_t2, len_t3, len_t4, len_l, abs_i, tup_l, part_0, part_1, sl_l, call_0, call_1, call_2, call_3, call_4, call_5, call_6, call_7, glob_0, glob_1, glob_2, evE_v11, evE_v12, evE_v13, evE_v14, evE_v15, evE_v16, evE_v17, evE_v18, evE_v19, evE_v20, evS_set0, evS_setL0, evS_set1, evS_setL1, evS_set2, evS_setL2, evS_set3, evS_setL3, evS_set4, evS_setL4, evS_set5, evS_setL5, evS_set6, evS_setL6, evS_set7, evS_setL7, evS_set8, evS_setL8, evS_set9, evS_setL9, evS_set10, evS_setL10, evS_set11, evS_setL11, evS_set12, evS_setL12, evS_set13, evS_setL13, evS_set14, evS_setL14, evS_set15, evS_setL15, evS_set16, evS_setL16, evS_set17, evS_setL17, evS_set18, evS_setL18, evS_set19, evS_setL19, evS_set20, evS_setL20, evS_app0, evS_frz0, evS_frs0, evE_ixo0, evS_aug0, evS_app1, evS_frz1, evS_frs1, evE_ixo1, evS_aug1, evS_app2, evS_frz2, evS_frs2, evE_ixo2, evS_aug2, evS_app3, evS_frz3, evS_frs3, evE_ixo3, evS_aug3, evS_app4, evS_frz4, evS_frs4, evE_ixo4, evS_aug4, evS_app5, evS_frz5, evS_frs5, evE_ixo5, evS_aug5, evS_app6, evS_frz6, evS_frs6, evE_ixo6, evS_aug6, evS_app7, evS_frz7, evS_frs7, evE_ixo7, evS_aug7, evS_app8, evS_frz8, evS_frs8, evE_ixo8, evS_aug8, evS_app9, evS_frz9, evS_frs9, evE_ixo9, evS_aug9, evS_app10, evS_frz10, evS_frs10, evE_ixo10, evS_aug10, evS_app11, evS_frz11, evS_frs11, evE_ixo11, evS_aug11, evS_app12, evS_frz12, evS_frs12, evE_ixo12, evS_aug12, evS_app13, evS_frz13, evS_frs13, evE_ixo13, evS_aug13, evS_app14, evS_frz14, evS_frs14, evE_ixo14, evS_aug14, evS_app15, evS_frz15, evS_frs15, evE_ixo15, evS_aug15, evS_app16, evS_frz16, evS_frs16, evE_ixo16, evS_aug16, evS_pass, evE_ife, ifE_t, ifE_f, it_rng1, it_rng2, c_isnN, c_isnI, c_isN, c_isI, c_isnL, c_isnT, c_isL, c_isT, o_band, o_shr, len_t0, tup_t, call_8, call_9, call_10, call_11, call_12, rb_ok, rb_bad, rb_exc, ra_ok, ra_bad, ra_exc, ft_nx, ft_rt, ft_bad, ft_xc, List.set_cons_zero, List.set_cons_succ, List.nil_append, List.cons_append, Bool.not_true, Bool.not_false, decide_true, decide_false, eq_self, Int.reduceEq, Bool.false_or, Bool.or_false, Bool.true_or, Bool.or_true, Bool.true_and, Bool.and_true, Bool.false_and, Bool.and_false, Bool.or_self, Bool.and_self, dm]
  rw [whileL_eq, e1]
  show (evSs G_common w1_common _).then (whileL cmc cmb) = _
  rw [e2]
  rfl
theorem cm_done {d1 d2 : D} {h hp hq lp lq : Int} {x4 x5 : Option Sl} :
    whileL cmc cmb [some (.sh d1), some (.sh d2), some (.sh (PyData.tuple [PyData.int h, PyData.int hp, PyData.int hq])), some (.sh (PyData.tuple [PyData.int 0, PyData.int lp, PyData.int lq])), x4, x5] = .nx [some (.sh d1), some (.sh d2), some (.sh (PyData.tuple [PyData.int h, PyData.int hp, PyData.int hq])), some (.sh (PyData.tuple [PyData.int 0, PyData.int lp, PyData.int lq])), x4, x5] := by
  have e1 : cmc [some (.sh d1), some (.sh d2), some (.sh (PyData.tuple [PyData.int h, PyData.int hp, PyData.int hq])), some (.sh (PyData.tuple [PyData.int 0, PyData.int lp, PyData.int lq])), x4, x5] = .ok (.bool false) := by
    show evE G_common _ _ = _
    unfold G_common
    simp (disch := first | exact mulOk_bd | assumption | omega) only [evE_v0, evE_v1, evE_v2, evE_v3, evE_v4, evE_v5, evE_v6, evE_v7, evE_v8, evE_v9, evE_v10, evE_int, evE_bl, evE_non, evE_str, evE_bin, evE_neg, evE_not, evE_cmp, evE_tup, evE_lst, evE_ix, evE_call, evE_bi, evE_sl, evE_isi, andB_t, andB_f, orB_t, orB_f, andB_b, orB_b, evE_and, evE_or, evAnd_one, evOr_one, evAnd_two, evOr_two, evEs_nil, evEs_cons, evSs_nil, evSs_cons, evS_ex, evS_ret, ifB_t, ifB_f, evS_ife, evS_raise, evS_for, seq_t, seq_l, it_seq, ans_nx, ans_rt, ans_xc, forL_nil, forL_cons, ix_t0, ix_t1, ix_t2, ix_t3, o_add, o_sub, o_mul, o_fdiv, o_mod, o_neg, o_not, c_lt, c_le, c_gt, c_ge, c_eq, c_ne, c_eq2, c_ne2, c_eq3, c_ne3, c_is, c_isnot, isi_tt, isi_lt, isi_it, isi_ii, isi_ib, isi_ll, len_t1, len_t2, len_t3, len_t4, len_l, abs_i, tup_l, part_0, part_1, sl_l, call_0, call_1, call_2, call_3, call_4, call_5, call_6, call_7, glob_0, glob_1, glob_2, evE_v11, evE_v12, evE_v13, evE_v14, evE_v15, evE_v16, evE_v17, evE_v18, evE_v19, evE_v20, evS_set0, evS_setL0, evS_set1, evS_setL1, evS_set2, evS_setL2, evS_set3, evS_setL3, evS_set4, evS_setL4, evS_set5, evS_setL5, evS_set6, evS_setL6, evS_set7, evS_setL7, evS_set8, evS_setL8, evS_set9, evS_setL9, evS_set10, evS_setL10, evS_set11, evS_setL11, evS_set12, evS_setL12, evS_set13, evS_setL13, evS_set14, evS_setL14, evS_set15, evS_setL15, evS_set16, evS_setL16, evS_set17, evS_setL17, evS_set18, evS_setL18, evS_set19, evS_setL19, evS_set20, evS_setL20, evS_app0, evS_frz0, evS_frs0, evE_ixo0, evS_aug0, evS_app1, evS_frz1, evS_frs1, evE_ixo1, evS_aug1, evS_app2, evS_frz2, evS_frs2, evE_ixo2, evS_aug2, evS_app3, evS_frz3, evS_frs3, evE_ixo3, evS_aug3, evS_app4, evS_frz4, evS_frs4, evE_ixo4, evS_aug4, evS_app5, evS_frz5, evS_frs5, evE_ixo5, evS_aug5, evS_app6, evS_frz6, evS_frs6, evE_ixo6, evS_aug6, evS_app7, evS_frz7, evS_frs7, evE_ixo7, evS_aug7, evS_app8, evS_frz8, evS_frs8, evE_ixo8, evS_aug8, evS_app9, evS_frz9, evS_frs9, evE_ixo9, evS_aug9, evS_app10, evS_frz10, evS_frs10, evE_ixo10, evS_aug10, evS_app11, evS_frz11, evS_frs11, evE_ixo11, evS_aug11, evS_app12, evS_frz12, evS_frs12, evE_ixo12, evS_aug12, evS_app13, evS_frz13, evS_frs13, evE_ixo13, evS_aug13, evS_app14, evS_frz14, evS_frs14, evE_ixo14, evS_aug14, evS_app15, evS_frz15, evS_frs15, evE_ixo15, evS_aug15, evS_app16, evS_frz16, evS_frs16, evE_ixo16, evS_aug16, evS_pass, evE_ife, ifE_t, ifE_f, it_rng1, it_rng2, c_isnN, c_isnI, c_isN, c_isI, c_isnL, c_isnT, c_isL, c_isT, o_band, o_shr, len_t0, tup_t, call_8, call_9, call_10, call_11, call_12, rb_ok, rb_bad, rb_exc, ra_ok, ra_bad, ra_exc, ft_nx, ft_rt, ft_bad, ft_xc, List.set_cons_zero, List.set_cons_succ, List.nil_append, List.cons_append, Bool.not_true, Bool.not_false, decide_true, decide_false, eq_self, Int.reduceEq, Bool.false_or, Bool.or_false, Bool.true_or, Bool.or_true, Bool.true_and, Bool.and_true, Bool.false_and, Bool.and_false, Bool.or_self, Bool.and_self]
  rw [whileL_eq, e1]
  rfl
theorem cm_loop {d1 d2 : D} {x y : Int} {K n : Nat} (hK : K < 2 ^ n) (hn : n ≤ 9000) : ∀ (A : Nat) (h hp hq l lp lq : Int) (x4 x5 : Option Sl), l.natAbs ≤ A → CInv x y h hp hq l lp lq K →
    ∃ h' hp' hq' lp' lq' y4 y5, whileL cmc cmb [some (.sh d1), some (.sh d2), some (.sh (PyData.tuple [PyData.int h, PyData.int hp, PyData.int hq])), some (.sh (PyData.tuple [PyData.int l, PyData.int lp, PyData.int lq])), x4, x5] = .nx [some (.sh d1), some (.sh d2), some (.sh (PyData.tuple [PyData.int h', PyData.int hp', PyData.int hq'])), some (.sh (PyData.tuple [PyData.int 0, PyData.int lp', PyData.int lq'])), y4, y5] ∧ CInv x y h' hp' hq' 0 lp' lq' K
  | A, h, hp, hq, l, lp, lq, x4, x5, hA, I => by
    by_cases h0 : l = 0
    · subst h0
      exact ⟨h, hp, hq, lp, lq, x4, x5, cm_done, I⟩
    · match A, hA with
      | 0, hA => exact absurd hA (by omega)
      | A + 1, hA =>
        have f := fm_abs (h := h) h0
        have S := I.step h0
        rw [cm_step (bd_le I.b0 hK) (bd_le I.lb.1 hK) (bd_le I.lb.2 hK) (bd_le S.b0 hK) hn h0]
        exact cm_loop hK hn A _ _ _ _ _ _ _ _ (by omega) S
theorem v_common (x y : Int) {n : Nat} (Bx : Bd n x) (By : Bd n y) (hn : n ≤ 8990) :
    ∃ u v, sem_common [.int x, .int y] = .ok (PyData.tuple [PyData.int ((Int.gcd x y : Nat)), PyData.int u, PyData.int v]) ∧ u * x + v * y = (Int.gcd x y : Nat) ∧ Bd (n + 2) u ∧ Bd (n + 2) v := by
  have main : ∃ h hp hq lp lq y4 y5, whileL cmc cmb [some (.sh (.int x)), some (.sh (.int y)), some (.sh (PyData.tuple [PyData.int x, PyData.int 1, PyData.int 0])), some (.sh (PyData.tuple [PyData.int y, PyData.int 0, PyData.int 1])), none, none] = .nx [some (.sh (.int x)), some (.sh (.int y)), some (.sh (PyData.tuple [PyData.int h, PyData.int hp, PyData.int hq])), some (.sh (PyData.tuple [PyData.int 0, PyData.int lp, PyData.int lq])), y4, y5] ∧ hp * x + hq * y = h ∧ h.natAbs = Int.gcd x y ∧ Bd (n + 2) hp ∧ Bd (n + 2) hq := by
    by_cases h0 : y = 0
    · subst h0
      exact ⟨x, 1, 0, 0, 1, none, none, cm_done, by omega, (Int.gcd_zero_right x).symm, Bd.get, Bd.get⟩
    · have hK : x.natAbs + 2 * y.natAbs < 2 ^ (n + 2) := by
        have := Bx.lt
        have := By.lt
        rw [Nat.pow_succ, Nat.pow_succ]
        omega
      have f := fm_abs (h := x) h0
      have e := Int.fmod_add_mul_fdiv x y
      have I : CInv x y y 0 1 (x.fmod y) (1 - x.fdiv y * 0) (0 - x.fdiv y * 1) (x.natAbs + 2 * y.natAbs) := by
        refine ⟨by omega, ?_, gcd_fm x y, ?_, by omega, ?_, by omega, ?_, by omega⟩
        · rw [Int.mul_zero, Int.mul_one, Int.zero_sub, Int.neg_mul, Int.mul_comm (x.fdiv y)]
          omega
        · rcases Int.lt_or_gt_of_ne h0 with t | t
          · have := fm_neg (h := x) t
            omega
          · have := fm_pos (h := x) (l := y) t
            omega
        · rw [Int.mul_zero]
          show 1 * y.natAbs + 0 * _ ≤ _
          omega
        · rw [Int.mul_one, Int.zero_sub, Int.natAbs_neg, ← Int.natAbs_mul, Int.mul_comm]
          show _ + 1 * _ ≤ _
          omega
      obtain ⟨h', hp', hq', lp', lq', y4, y5, e1, J⟩ := cm_loop (d1 := .int x) (d2 := .int y) hK (by omega) _ _ _ _ _ _ _ (some (.sh (PyData.tuple [PyData.int (x.fdiv y), PyData.int (x.fmod y)]))) (some (.sh (PyData.tuple [PyData.int (x.fmod y), PyData.int (1 - x.fdiv y * 0), PyData.int (0 - x.fdiv y * 1)]))) (Nat.le_refl _) I
      refine ⟨h', hp', hq', lp', lq', y4, y5, ?_, J.e1, ?_, bd_le J.p0 hK, bd_le J.q0 hK⟩
      · rw [cm_step (n := n + 1) (Bx.up (by omega)) (Bd.zero.up (by omega)) (Bd.one.up (by omega)) (By.up (by omega)) (by omega) h0]
        exact e1
      · rw [← J.g, Int.gcd_zero_right]
  obtain ⟨h, hp, hq, lp, lq, y4, y5, e, e2, g, B1, B2⟩ := main
  show ∃ u v, (evSs G_common b_common [some (.sh _), some (.sh _), none, none, none, none]).ans = _ ∧ _
  have hw2 : evS G_common (.while_ (.cmp .ne (.ix (.v 3) (.int 0)) (.int 0)) w1_common) [some (.sh (.int x)), some (.sh (.int y)), some (.sh (PyData.tuple [PyData.int x, PyData.int 1, PyData.int 0])), some (.sh (PyData.tuple [PyData.int y, PyData.int 0, PyData.int 1])), none, none] = _ := evS_while.trans e
  unfold b_common
  unfold G_common at hw2 ⊢
  by_cases hh : h < 0
  · have eg : ((Int.gcd x y : Nat) : Int) = -h := by omega
    refine ⟨-hp, -hq, ?_, ?_, Bd.neg, Bd.neg⟩
    · rw [eg]
      simp (disch := first | exact mulOk_bd | assumption | omega) only [evE_v0, evE_v1, evE_v2, evE_v3, evE_v4, evE_v5, evE_v6, evE_v7, evE_v8, evE_v9, evE_v10, evE_int, evE_bl, evE_non, evE_str, evE_bin, evE_neg, evE_not, evE_cmp, evE_tup, evE_lst, evE_ix, evE_call, evE_bi, evE_sl, evE_isi, andB_t, andB_f, orB_t, orB_f, andB_b, orB_b, evE_and, evE_or, evAnd_one, evOr_one, evAnd_two, evOr_two, evEs_nil, evEs_cons, evSs_nil, evSs_cons, evS_ex, evS_ret, ifB_t, ifB_f, evS_ife, evS_raise, evS_for, seq_t, seq_l, it_seq, ans_nx, ans_rt, ans_xc, forL_nil, forL_cons, ix_t0, ix_t1, ix_t2, ix_t3, o_add, o_sub, o_mul, o_fdiv, o_mod, o_neg, o_not, c_lt, c_le, c_gt, c_ge, c_eq, c_ne, c_eq2, c_ne2, c_eq3, c_ne3, c_is, c_isnot, isi_tt, isi_lt, isi_it, isi_ii, isi_ib, isi_ll, len_t1, len_t2, len_t3, len_t4, len_l, abs_i, tup_l, part_0, part_1, sl_l, call_0, call_1, call_2, call_3, call_4, call_5, call_6, call_7, glob_0, glob_1, glob_2, evE_v11, evE_v12, evE_v13, evE_v14, evE_v15, evE_v16, evE_v17, evE_v18, evE_v19, evE_v20, evS_set0, evS_setL0, evS_set1, evS_setL1, evS_set2, evS_setL2, evS_set3, evS_setL3, evS_set4, evS_setL4, evS_set5, evS_setL5, evS_set6, evS_setL6, evS_set7, evS_setL7, evS_set8, evS_setL8, evS_set9, evS_setL9, evS_set10, evS_setL10, evS_set11, evS_setL11, evS_set12, evS_setL12, evS_set13, evS_setL13, evS_set14, evS_setL14, evS_set15, evS_setL15, evS_set16, evS_setL16, evS_set17, evS_setL17, evS_set18, evS_setL18, evS_set19, evS_setL19, evS_set20, evS_setL20, evS_app0, evS_frz0, evS_frs0, evE_ixo0, evS_aug0, evS_app1, evS_frz1, evS_frs1, evE_ixo1, evS_aug1, evS_app2, evS_frz2, evS_frs2, evE_ixo2, evS_aug2, evS_app3, evS_frz3, evS_frs3, evE_ixo3, evS_aug3, evS_app4, evS_frz4, evS_frs4, evE_ixo4, evS_aug4, evS_app5, evS_frz5, evS_frs5, evE_ixo5, evS_aug5, evS_app6, evS_frz6, evS_frs6, evE_ixo6, evS_aug6, evS_app7, evS_frz7, evS_frs7, evE_ixo7, evS_aug7, evS_app8, evS_frz8, evS_frs8, evE_ixo8, evS_aug8, evS_app9, evS_frz9, evS_frs9, evE_ixo9, evS_aug9, evS_app10, evS_frz10, evS_frs10, evE_ixo10, evS_aug10, evS_app11, evS_frz11, evS_frs11, evE_ixo11, evS_aug11, evS_app12, evS_frz12, evS_frs12, evE_ixo12, evS_aug12, evS_app13, evS_frz13, evS_frs13, evE_ixo13, evS_aug13, evS_app14, evS_frz14, evS_frs14, evE_ixo14, evS_aug14, evS_app15, evS_frz15, evS_frs15, evE_ixo15, evS_aug15, evS_app16, evS_frz16, evS_frs16, evE_ixo16, evS_aug16, evS_pass, evE_ife, ifE_t, ifE_f, it_rng1, it_rng2, c_isnN, c_isnI, c_isN, c_isI, c_isnL, c_isnT, c_isL, c_isT, o_band, o_shr, len_t0, tup_t, call_8, call_9, call_10, call_11, call_12, rb_ok, rb_bad, rb_exc, ra_ok, ra_bad, ra_exc, ft_nx, ft_rt, ft_bad, ft_xc, List.set_cons_zero, List.set_cons_succ, List.nil_append, List.cons_append, Bool.not_true, Bool.not_false, decide_true, decide_false, eq_self, Int.reduceEq, Bool.false_or, Bool.or_false, Bool.true_or, Bool.or_true, Bool.true_and, Bool.and_true, Bool.false_and, Bool.and_false, Bool.or_self, Bool.and_self, hw2, decide_eq_true hh]
    · rw [eg, ← e2]
      grind
  · have eg : ((Int.gcd x y : Nat) : Int) = h := by omega
    refine ⟨hp, hq, ?_, ?_, B1, B2⟩
    · rw [eg]
      simp (disch := first | exact mulOk_bd | assumption | omega) only [evE_v0, evE_v1, evE_v2, evE_v3, evE_v4, evE_v5, evE_v6, evE_v7, evE_v8, evE_v9, evE_v10, evE_int, evE_bl, evE_non, evE_str, evE_bin, evE_neg, evE_not, evE_cmp, evE_tup, evE_lst, evE_ix, evE_call, evE_bi, evE_sl, evE_isi, andB_t, andB_f, orB_t, orB_f, andB_b, orB_b, evE_and, evE_or, evAnd_one, evOr_one, evAnd_two, evOr_two, evEs_nil, evEs_cons, evSs_nil, evSs_cons, evS_ex, evS_ret, ifB_t, ifB_f, evS_ife, evS_raise, evS_for, seq_t, seq_l, it_seq, ans_nx, ans_rt, ans_xc, forL_nil, forL_cons, ix_t0, ix_t1, ix_t2, ix_t3, o_add, o_sub, o_mul, o_fdiv, o_mod, o_neg, o_not, c_lt, c_le, c_gt, c_ge, c_eq, c_ne, c_eq2, c_ne2, c_eq3, c_ne3, c_is, c_isnot, isi_tt, isi_lt, isi_it, isi_ii, isi_ib, isi_ll, len_t1, len_t2, len_t3, len_t4, len_l, abs_i, tup_l, part_0, part_1, sl_l, call_0, call_1, call_2, call_3, call_4, call_5, call_6, call_7, glob_0, glob_1, glob_2, evE_v11, evE_v12, evE_v13, evE_v14, evE_v15, evE_v16, evE_v17, evE_v18, evE_v19, evE_v20, evS_set0, evS_setL0, evS_set1, evS_setL1, evS_set2, evS_setL2, evS_set3, evS_setL3, evS_set4, evS_setL4, evS_set5, evS_setL5, evS_set6, evS_setL6, evS_set7, evS_setL7, evS_set8, evS_setL8, evS_set9, evS_setL9, evS_set10, evS_setL10, evS_set11, evS_setL11, evS_set12, evS_setL12, evS_set13, evS_setL13, evS_set14, evS_setL14, evS_set15, evS_setL15, evS_set16, evS_setL16, evS_set17, evS_setL17, evS_set18, evS_setL18, evS_set19, evS_setL19, evS_set20, evS_setL20, evS_app0, evS_frz0, evS_frs0, evE_ixo0, evS_aug0, evS_app1, evS_frz1, evS_frs1, evE_ixo1, evS_aug1, evS_app2, evS_frz2, evS_frs2, evE_ixo2, evS_aug2, evS_app3, evS_frz3, evS_frs3, evE_ixo3, evS_aug3, evS_app4, evS_frz4, evS_frs4, evE_ixo4, evS_aug4, evS_app5, evS_frz5, evS_frs5, evE_ixo5, evS_aug5, evS_app6, evS_frz6, evS_frs6, evE_ixo6, evS_aug6, evS_app7, evS_frz7, evS_frs7, evE_ixo7, evS_aug7, evS_app8, evS_frz8, evS_frs8, evE_ixo8, evS_aug8, evS_app9, evS_frz9, evS_frs9, evE_ixo9, evS_aug9, evS_app10, evS_frz10, evS_frs10, evE_ixo10, evS_aug10, evS_app11, evS_frz11, evS_frs11, evE_ixo11, evS_aug11, evS_app12, evS_frz12, evS_frs12, evE_ixo12, evS_aug12, evS_app13, evS_frz13, evS_frs13, evE_ixo13, evS_aug13, evS_app14, evS_frz14, evS_frs14, evE_ixo14, evS_aug14, evS_app15, evS_frz15, evS_frs15, evE_ixo15, evS_aug15, evS_app16, evS_frz16, evS_frs16, evE_ixo16, evS_aug16, evS_pass, evE_ife, ifE_t, ifE_f, it_rng1, it_rng2, c_isnN, c_isnI, c_isN, c_isI, c_isnL, c_isnT, c_isL, c_isT, o_band, o_shr, len_t0, tup_t, call_8, call_9, call_10, call_11, call_12, rb_ok, rb_bad, rb_exc, ra_ok, ra_bad, ra_exc, ft_nx, ft_rt, ft_bad, ft_xc, List.set_cons_zero, List.set_cons_succ, List.nil_append, List.cons_append, Bool.not_true, Bool.not_false, decide_true, decide_false, eq_self, Int.reduceEq, Bool.false_or, Bool.or_false, Bool.true_or, Bool.or_true, Bool.true_and, Bool.and_true, Bool.false_and, Bool.and_false, Bool.or_self, Bool.and_self, hw2, decide_eq_false hh]
    · rw [eg, ← e2]
/-- bare: the three numbers have no common divisor -/
def gcd3 (a b c : Int) : Nat := Int.gcd (Int.gcd a b : Nat) c
theorem gcd_bd {n : Nat} {x y : Int} (Bx : Bd n x) (By : Bd n y) : Bd n (Int.gcd x y : Nat) := ⟨by
  show Int.gcd x y < _
  by_cases h : x = 0
  · rw [h, Int.gcd_zero_left]
    exact By.lt
  · exact Nat.lt_of_le_of_lt (Nat.le_of_dvd (by omega) (Int.gcd_dvd_natAbs_left x y)) Bx.lt⟩
theorem v_is_bare (a b c : Int) {n : Nat} (Ba : Bd n a) (Bb : Bd n b) (Bc : Bd n c) (hn : n ≤ 8990) (h1 : 0 < a) (h2 : b * b < 4 * a * c) : sem_is_bare [(PyData.tuple [PyData.int a, PyData.int b, PyData.int c])] = .ok (.bool (decide (gcd3 a b c = 1))) := by
  obtain ⟨u, v, e, _⟩ := v_common a b Ba Bb hn
  obtain ⟨u', v', e', _⟩ := v_common (Int.gcd a b : Nat) c (gcd_bd Ba Bb) Bc hn
  show (evSs G_is_bare b_is_bare [some (.sh _)]).ans = _
  unfold b_is_bare G_is_bare
  have : decide (((Int.gcd (Int.gcd a b : Nat) c : Nat) : Int) = 1) = decide (gcd3 a b c = 1) := by
    unfold gcd3
    congr 1
    exact propext (by omega)
  simp (disch := first | exact mulOk_bd | assumption | omega) only [evE_v0, evE_v1, evE_v2, evE_v3, evE_v4, evE_v5, evE_v6, evE_v7, evE_v8, evE_v9, evE_v10, evE_int, evE_bl, evE_non, evE_str, evE_bin, evE_neg, evE_not, evE_cmp, evE_tup, evE_lst, evE_ix, evE_call, evE_bi, evE_sl, evE_isi, andB_t, andB_f, orB_t, orB_f, andB_b, orB_b, evE_and, evE_or, evAnd_one, evOr_one, evAnd_two, evOr_two, evEs_nil, evEs_cons, evSs_nil, evSs_cons, evS_ex, evS_ret, ifB_t, ifB_f, evS_ife, evS_raise, evS_for, seq_t, seq_l, it_seq, ans_nx, ans_rt, ans_xc, forL_nil, forL_cons, ix_t0, ix_t1, ix_t2, ix_t3, o_add, o_sub, o_mul, o_fdiv, o_mod, o_neg, o_not, c_lt, c_le, c_gt, c_ge, c_eq, c_ne, c_eq2, c_ne2, c_eq3, c_ne3, c_is, c_isnot, isi_tt, isi_lt, isi_it, isi_ii, isi_ib, isi_ll, len_t1, len_t2, len_t3, len_t4, len_l, abs_i, tup_l, part_0, part_1, sl_l, call_0, call_1, call_2, call_3, call_4, call_5, call_6, call_7, glob_0, glob_1, glob_2, evE_v11, evE_v12, evE_v13, evE_v14, evE_v15, evE_v16, evE_v17, evE_v18, evE_v19, evE_v20, evS_set0, evS_setL0, evS_set1, evS_setL1, evS_set2, evS_setL2, evS_set3, evS_setL3, evS_set4, evS_setL4, evS_set5, evS_setL5, evS_set6, evS_setL6, evS_set7, evS_setL7, evS_set8, evS_setL8, evS_set9, evS_setL9, evS_set10, evS_setL10, evS_set11, evS_setL11, evS_set12, evS_setL12, evS_set13, evS_setL13, evS_set14, evS_setL14, evS_set15, evS_setL15, evS_set16, evS_setL16, evS_set17, evS_setL17, evS_set18, evS_setL18, evS_set19, evS_setL19, evS_set20, evS_setL20, evS_app0, evS_frz0, evS_frs0, evE_ixo0, evS_aug0, evS_app1, evS_frz1, evS_frs1, evE_ixo1, evS_aug1, evS_app2, evS_frz2, evS_frs2, evE_ixo2, evS_aug2, evS_app3, evS_frz3, evS_frs3, evE_ixo3, evS_aug3, evS_app4, evS_frz4, evS_frs4, evE_ixo4, evS_aug4, evS_app5, evS_frz5, evS_frs5, evE_ixo5, evS_aug5, evS_app6, evS_frz6, evS_frs6, evE_ixo6, evS_aug6, evS_app7, evS_frz7, evS_frs7, evE_ixo7, evS_aug7, evS_app8, evS_frz8, evS_frs8, evE_ixo8, evS_aug8, evS_app9, evS_frz9, evS_frs9, evE_ixo9, evS_aug9, evS_app10, evS_frz10, evS_frs10, evE_ixo10, evS_aug10, evS_app11, evS_frz11, evS_frs11, evE_ixo11, evS_aug11, evS_app12, evS_frz12, evS_frs12, evE_ixo12, evS_aug12, evS_app13, evS_frz13, evS_frs13, evE_ixo13, evS_aug13, evS_app14, evS_frz14, evS_frs14, evE_ixo14, evS_aug14, evS_app15, evS_frz15, evS_frs15, evE_ixo15, evS_aug15, evS_app16, evS_frz16, evS_frs16, evE_ixo16, evS_aug16, evS_pass, evE_ife, ifE_t, ifE_f, it_rng1, it_rng2, c_isnN, c_isnI, c_isN, c_isI, c_isnL, c_isnT, c_isL, c_isT, o_band, o_shr, len_t0, tup_t, call_8, call_9, call_10, call_11, call_12, rb_ok, rb_bad, rb_exc, ra_ok, ra_bad, ra_exc, ft_nx, ft_rt, ft_bad, ft_xc, List.set_cons_zero, List.set_cons_succ, List.nil_append, List.cons_append, Bool.not_true, Bool.not_false, decide_true, decide_false, eq_self, Int.reduceEq, Bool.false_or, Bool.or_false, Bool.true_or, Bool.or_true, Bool.true_and, Bool.and_true, Bool.false_and, Bool.and_false, Bool.or_self, Bool.and_self, v_asked_form a b c (by omega) h1 h2, e, e', this]
end FT

namespace FT
open PySem PySem.Spec PyProof.Rows L2
theorem eqv_bool {a b : Bool} : PyData.eqv (.bool a) (.bool b) = decide (a = b) := by
  cases a <;> cases b <;> rfl
theorem c_eqb {a b : Bool} : cm2 .eq (.bool a) (.bool b) = .ok (.bool (decide (a = b))) := by
  cases a <;> cases b <;> rfl
theorem ten30 : (10 : Int) ^ (30 : Int).toNat = 1000000000000000000000000000000 := by decide +kernel
theorem ten29 : (10 : Int) ^ (29 : Int).toNat = 100000000000000000000000000000 := by decide +kernel
theorem o_pow30 : op2 .pow (.int 10) (.int 30) = .ok (.int 1000000000000000000000000000000) := by
  show (bif powOk 10 30 then R.ok (PyData.int (10 ^ (30 : Int).toNat)) else R.bad) = _
  rw [show powOk 10 30 = true by decide +kernel, ten30]
  rfl
theorem o_pow29 : op2 .pow (.int 10) (.int 29) = .ok (.int 100000000000000000000000000000) := by
  show (bif powOk 10 29 then R.ok (PyData.int (10 ^ (29 : Int).toNat)) else R.bad) = _
  rw [show powOk 10 29 = true by decide +kernel, ten29]
  rfl
/-- a form times a number -/
theorem times_ok {a b c t : Int} (h1 : 0 < a) (h2 : b * b < 4 * a * c) (ht : 0 < t) : 0 < a * t ∧ (b * t) * (b * t) < 4 * (a * t) * (c * t) := by
  refine ⟨Int.mul_pos h1 ht, ?_⟩
  have k : b * b * (t * t) < 4 * a * c * (t * t) := Int.mul_lt_mul_of_pos_right h2 (Int.mul_pos ht ht)
  have e1 : (b * t) * (b * t) = b * b * (t * t) := by grind
  have e2 : 4 * (a * t) * (c * t) = 4 * a * c * (t * t) := by grind
  rw [e1, e2]
  exact k
end FT

namespace FT
open PySem PySem.Spec PyProof.Rows L2
/-! ### two forms and a third one of which their product is -/
/-- F of the two sums is the product of f and g: the rows (k1..k4), (l1..l4) -/
structure Joins (a1 b1 c1 a2 b2 c2 A B C k1 k2 k3 k4 l1 l2 l3 l4 : Int) : Prop where
  m12 : k1 * l2 - k2 * l1 = a1
  m34 : k3 * l4 - k4 * l3 = c1
  m13 : k1 * l3 - k3 * l1 = a2
  m24 : k2 * l4 - k4 * l2 = c2
  mb : (k1 * l4 - k4 * l1) - (k2 * l3 - k3 * l2) = b1
  mc : (k1 * l4 - k4 * l1) + (k2 * l3 - k3 * l2) = b2
  f : ∀ x y z w : Int, (a1 * x * x + b1 * x * y + c1 * y * y) * (a2 * z * z + b2 * z * w + c2 * w * w) =
    A * (k1 * x * z + k2 * x * w + k3 * y * z + k4 * y * w) * (k1 * x * z + k2 * x * w + k3 * y * z + k4 * y * w)
    + B * (k1 * x * z + k2 * x * w + k3 * y * z + k4 * y * w) * (l1 * x * z + l2 * x * w + l3 * y * z + l4 * y * w)
    + C * (l1 * x * z + l2 * x * w + l3 * y * z + l4 * y * w) * (l1 * x * z + l2 * x * w + l3 * y * z + l4 * y * w)
section
variable {a1 b1 c1 a2 b2 c2 A B C k1 k2 k3 k4 l1 l2 l3 l4 : Int}
/-- the first form turned -/
theorem Joins.left (J : Joins a1 b1 c1 a2 b2 c2 A B C k1 k2 k3 k4 l1 l2 l3 l4) {p q r s a b c : Int} (L : Leads a1 b1 c1 p q r s a b c) :
    Joins a b c a2 b2 c2 A B C (p * k1 + r * k3) (p * k2 + r * k4) (q * k1 + s * k3) (q * k2 + s * k4) (p * l1 + r * l3) (p * l2 + r * l4) (q * l1 + s * l3) (q * l2 + s * l4) := by
  obtain ⟨m1, m2, m3, m4, m5, m6, hf⟩ := J
  obtain ⟨d, e1, e2, e3⟩ := L
  refine ⟨?_, ?_, ?_, ?_, ?_, ?_, ?_⟩
  · rw [← e1, ← m1, ← m5, ← m2]; grind
  · rw [← e3, ← m1, ← m5, ← m2]; grind
  · have : (p * k1 + r * k3) * (q * l1 + s * l3) - (q * k1 + s * k3) * (p * l1 + r * l3) = (p * s - q * r) * (k1 * l3 - k3 * l1) := by grind
    rw [this, d, m3, Int.one_mul]
  · have : (p * k2 + r * k4) * (q * l2 + s * l4) - (q * k2 + s * k4) * (p * l2 + r * l4) = (p * s - q * r) * (k2 * l4 - k4 * l2) := by grind
    rw [this, d, m4, Int.one_mul]
  · rw [← e2, ← m1, ← m5, ← m2]; grind
  · have : (p * k1 + r * k3) * (q * l2 + s * l4) - (q * k2 + s * k4) * (p * l1 + r * l3) + ((p * k2 + r * k4) * (q * l1 + s * l3) - (q * k1 + s * k3) * (p * l2 + r * l4)) = (p * s - q * r) * ((k1 * l4 - k4 * l1) + (k2 * l3 - k3 * l2)) := by grind
    rw [this, d, m6, Int.one_mul]
  · intro x y z w
    have h := hf (p * x + q * y) (r * x + s * y) z w
    have g1 : a1 * (p * x + q * y) * (p * x + q * y) + b1 * (p * x + q * y) * (r * x + s * y) + c1 * (r * x + s * y) * (r * x + s * y) = a * x * x + b * x * y + c * y * y := by rw [← e1, ← e2, ← e3]; grind
    have g2 : k1 * (p * x + q * y) * z + k2 * (p * x + q * y) * w + k3 * (r * x + s * y) * z + k4 * (r * x + s * y) * w = (p * k1 + r * k3) * x * z + (p * k2 + r * k4) * x * w + (q * k1 + s * k3) * y * z + (q * k2 + s * k4) * y * w := by grind
    have g3 : l1 * (p * x + q * y) * z + l2 * (p * x + q * y) * w + l3 * (r * x + s * y) * z + l4 * (r * x + s * y) * w = (p * l1 + r * l3) * x * z + (p * l2 + r * l4) * x * w + (q * l1 + s * l3) * y * z + (q * l2 + s * l4) * y * w := by grind
    rw [g1, g2, g3] at h
    exact h
/-- the two forms the other way round -/
theorem Joins.swap (J : Joins a1 b1 c1 a2 b2 c2 A B C k1 k2 k3 k4 l1 l2 l3 l4) : Joins a2 b2 c2 a1 b1 c1 A B C k1 k3 k2 k4 l1 l3 l2 l4 := by
  obtain ⟨m1, m2, m3, m4, m5, m6, hf⟩ := J
  refine ⟨m3, m4, m1, m2, by omega, by omega, ?_⟩
  intro x y z w
  have h := hf z w x y
  have g2 : k1 * z * x + k2 * z * y + k3 * w * x + k4 * w * y = k1 * x * z + k3 * x * w + k2 * y * z + k4 * y * w := by grind
  have g3 : l1 * z * x + l2 * z * y + l3 * w * x + l4 * w * y = l1 * x * z + l3 * x * w + l2 * y * z + l4 * y * w := by grind
  rw [g2, g3, Int.mul_comm] at h
  exact h
theorem Joins.right (J : Joins a1 b1 c1 a2 b2 c2 A B C k1 k2 k3 k4 l1 l2 l3 l4) {p q r s a b c : Int} (L : Leads a2 b2 c2 p q r s a b c) :
    Joins a1 b1 c1 a b c A B C (p * k1 + r * k2) (q * k1 + s * k2) (p * k3 + r * k4) (q * k3 + s * k4) (p * l1 + r * l2) (q * l1 + s * l2) (p * l3 + r * l4) (q * l3 + s * l4) :=
  (J.swap.left L).swap
/-- the third form turned: the rows by the way back -/
theorem Joins.third (J : Joins a1 b1 c1 a2 b2 c2 A B C k1 k2 k3 k4 l1 l2 l3 l4) {p q r s a b c : Int} (L : Leads A B C p q r s a b c) :
    Joins a1 b1 c1 a2 b2 c2 a b c (s * k1 + -q * l1) (s * k2 + -q * l2) (s * k3 + -q * l3) (s * k4 + -q * l4) (-r * k1 + p * l1) (-r * k2 + p * l2) (-r * k3 + p * l3) (-r * k4 + p * l4) := by
  obtain ⟨m1, m2, m3, m4, m5, m6, hf⟩ := J
  obtain ⟨d, e1, e2, e3⟩ := L
  have key : ∀ u v u' v' : Int, (s * u + -q * v) * (-r * u' + p * v') - (s * u' + -q * v') * (-r * u + p * v) = u * v' - u' * v := fun u v u' v' => by
    have : (s * u + -q * v) * (-r * u' + p * v') - (s * u' + -q * v') * (-r * u + p * v) = (p * s - q * r) * (u * v' - u' * v) := by grind
    rw [this, d, Int.one_mul]
  refine ⟨?_, ?_, ?_, ?_, ?_, ?_, ?_⟩
  · rw [key]; exact m1
  · rw [key]; exact m2
  · rw [key]; exact m3
  · rw [key]; exact m4
  · rw [key, key]; exact m5
  · rw [key, key]; exact m6
  · intro x y z w
    rw [hf x y z w]
    obtain ⟨X, hX⟩ : ∃ X, k1 * x * z + k2 * x * w + k3 * y * z + k4 * y * w = X := ⟨_, rfl⟩
    obtain ⟨Y, hY⟩ : ∃ Y, l1 * x * z + l2 * x * w + l3 * y * z + l4 * y * w = Y := ⟨_, rfl⟩
    have g2 : (s * k1 + -q * l1) * x * z + (s * k2 + -q * l2) * x * w + (s * k3 + -q * l3) * y * z + (s * k4 + -q * l4) * y * w = s * X + -q * Y := by rw [← hX, ← hY]; grind
    have g3 : (-r * k1 + p * l1) * x * z + (-r * k2 + p * l2) * x * w + (-r * k3 + p * l3) * y * z + (-r * k4 + p * l4) * y * w = -r * X + p * Y := by rw [← hX, ← hY]; grind
    rw [hX, hY, g2, g3]
    have d2 : (p * s - q * r) * (p * s - q * r) = 1 := by rw [d]; rfl
    have : a * (s * X + -q * Y) * (s * X + -q * Y) + b * (s * X + -q * Y) * (-r * X + p * Y) + c * (-r * X + p * Y) * (-r * X + p * Y) = (A * X * X + B * X * Y + C * Y * Y) * ((p * s - q * r) * (p * s - q * r)) := by rw [← e1, ← e2, ← e3]; grind
    rw [this, d2, Int.mul_one]
end
/-- a form that is nought at three places that tell all of it -/
theorem form_zero {A B C x1 y1 x2 y2 : Int} (hd : x1 * y2 - x2 * y1 ≠ 0) (h1 : A * x1 * x1 + B * x1 * y1 + C * y1 * y1 = 0) (h2 : A * x2 * x2 + B * x2 * y2 + C * y2 * y2 = 0)
    (h3 : A * (x1 + x2) * (x1 + x2) + B * (x1 + x2) * (y1 + y2) + C * (y1 + y2) * (y1 + y2) = 0) : A = 0 ∧ B = 0 ∧ C = 0 := by
  have hm : 2 * A * x1 * x2 + B * (x1 * y2 + x2 * y1) + 2 * C * y1 * y2 = 0 := by
    have : A * (x1 + x2) * (x1 + x2) + B * (x1 + x2) * (y1 + y2) + C * (y1 + y2) * (y1 + y2) = (A * x1 * x1 + B * x1 * y1 + C * y1 * y1) + (A * x2 * x2 + B * x2 * y2 + C * y2 * y2) + (2 * A * x1 * x2 + B * (x1 * y2 + x2 * y1) + 2 * C * y1 * y2) := by grind
    omega
  have hdd : (x1 * y2 - x2 * y1) * (x1 * y2 - x2 * y1) ≠ 0 := Int.mul_ne_zero hd hd
  have kA : A * ((x1 * y2 - x2 * y1) * (x1 * y2 - x2 * y1)) = y2 * y2 * (A * x1 * x1 + B * x1 * y1 + C * y1 * y1) + y1 * y1 * (A * x2 * x2 + B * x2 * y2 + C * y2 * y2) - y1 * y2 * (2 * A * x1 * x2 + B * (x1 * y2 + x2 * y1) + 2 * C * y1 * y2) := by grind
  have kC : C * ((x1 * y2 - x2 * y1) * (x1 * y2 - x2 * y1)) = x2 * x2 * (A * x1 * x1 + B * x1 * y1 + C * y1 * y1) + x1 * x1 * (A * x2 * x2 + B * x2 * y2 + C * y2 * y2) - x1 * x2 * (2 * A * x1 * x2 + B * (x1 * y2 + x2 * y1) + 2 * C * y1 * y2) := by grind
  have kB : B * ((x1 * y2 - x2 * y1) * (x1 * y2 - x2 * y1)) = (x1 * y2 + x2 * y1) * (2 * A * x1 * x2 + B * (x1 * y2 + x2 * y1) + 2 * C * y1 * y2) - 2 * x2 * y2 * (A * x1 * x1 + B * x1 * y1 + C * y1 * y1) - 2 * x1 * y1 * (A * x2 * x2 + B * x2 * y2 + C * y2 * y2) := by grind
  rw [h1, h2, hm] at kA kB kC
  simp only [Int.mul_zero, Int.add_zero, Int.sub_zero] at kA kB kC
  exact ⟨(Int.mul_eq_zero.mp kA).resolve_right hdd, (Int.mul_eq_zero.mp kB).resolve_right hdd, (Int.mul_eq_zero.mp kC).resolve_right hdd⟩
end FT

namespace FT
open PySem PySem.Spec PyProof.Rows L2
theorem pluck {km lm k1 l1 k2 l2 km' lm' k1' l1' k2' l2' : Int} (h2 : km * l2 - k2 * lm = km' * l2' - k2' * lm') (h1 : km * l1 - k1 * lm = km' * l1' - k1' * lm') :
    (l2 * k1' - l1 * k2') * km + (k1 * k2' - k2 * k1') * lm = (k1' * l2' - k2' * l1') * km' ∧ (l2 * l1' - l1 * l2') * km + (k1 * l2' - k2 * l1') * lm = (k1' * l2' - k2' * l1') * lm' := by
  constructor
  · have : (l2 * k1' - l1 * k2') * km + (k1 * k2' - k2 * k1') * lm = k1' * (km * l2 - k2 * lm) - k2' * (km * l1 - k1 * lm) := by grind
    rw [this, h2, h1]; grind
  · have : (l2 * l1' - l1 * l2') * km + (k1 * l2' - k2 * l1') * lm = l1' * (km * l2 - k2 * lm) - l2' * (km * l1 - k1 * lm) := by grind
    rw [this, h2, h1]; grind
/-- what two forms' product is is one class -/
theorem joins_uniq {a1 b1 c1 a2 b2 c2 A B C k1 k2 k3 k4 l1 l2 l3 l4 A' B' C' k1' k2' k3' k4' l1' l2' l3' l4' : Int}
    (J : Joins a1 b1 c1 a2 b2 c2 A B C k1 k2 k3 k4 l1 l2 l3 l4) (K : Joins a1 b1 c1 a2 b2 c2 A' B' C' k1' k2' k3' k4' l1' l2' l3' l4') (h0 : a1 ≠ 0) {x y z : Int} (hg : x * a1 + y * b1 + z * c1 = 1) :
    ∃ p q r s, Leads A' B' C' p q r s A B C := by
  have e12 := J.m12.trans K.m12.symm
  have e34 := J.m34.trans K.m34.symm
  have e13 := J.m13.trans K.m13.symm
  have e24 := J.m24.trans K.m24.symm
  have eb := J.mb.trans K.mb.symm
  have ec := J.mc.trans K.mc.symm
  have e14 : k1 * l4 - k4 * l1 = k1' * l4' - k4' * l1' := by omega
  have e23 : k2 * l3 - k3 * l2 = k2' * l3' - k3' * l2' := by omega
  have r21 : k2 * l1 - k1 * l2 = k2' * l1' - k1' * l2' := by omega
  have r32 : k3 * l2 - k2 * l3 = k3' * l2' - k2' * l3' := by omega
  have r11 : k1 * l1 - k1 * l1 = k1' * l1' - k1' * l1' := by omega
  have r22 : k2 * l2 - k2 * l2 = k2' * l2' - k2' * l2' := by omega
  have P12 := pluck e12 r11
  have P14 := pluck e14 r11
  have P23 := pluck e13 e12
  have P34 := pluck e14 e13
  have Q12 := pluck r22 r21
  have Q14 := pluck e24 r21
  have Q23 := pluck e23 r22
  have Q34 := pluck e24 e23
  have hg' : x * (k1' * l2' - k2' * l1') + y * ((k1' * l4' - k4' * l1') - (k2' * l3' - k3' * l2')) + z * (k3' * l4' - k4' * l3') = 1 := by
    rw [K.m12, K.mb, K.m34]; exact hg
  obtain ⟨p, hp⟩ : ∃ p, x * (l2 * k1' - l1 * k2') + y * (l4 * k1' - l1 * k4') - y * (l3 * k2' - l2 * k3') + z * (l4 * k3' - l3 * k4') = p := ⟨_, rfl⟩
  obtain ⟨q, hq⟩ : ∃ q, x * (k1 * k2' - k2 * k1') + y * (k1 * k4' - k4 * k1') - y * (k2 * k3' - k3 * k2') + z * (k3 * k4' - k4 * k3') = q := ⟨_, rfl⟩
  obtain ⟨r, hr⟩ : ∃ r, x * (l2 * l1' - l1 * l2') + y * (l4 * l1' - l1 * l4') - y * (l3 * l2' - l2 * l3') + z * (l4 * l3' - l3 * l4') = r := ⟨_, rfl⟩
  obtain ⟨s, hs⟩ : ∃ s, x * (k1 * l2' - k2 * l1') + y * (k1 * l4' - k4 * l1') - y * (k2 * l3' - k3 * l2') + z * (k3 * l4' - k4 * l3') = s := ⟨_, rfl⟩
  have n1 : p * k1 + q * l1 = k1' := by
    have : p * k1 + q * l1 = x * ((l2 * k1' - l1 * k2') * k1 + (k1 * k2' - k2 * k1') * l1) + y * ((l4 * k1' - l1 * k4') * k1 + (k1 * k4' - k4 * k1') * l1) - y * ((l3 * k2' - l2 * k3') * k1 + (k2 * k3' - k3 * k2') * l1) + z * ((l4 * k3' - l3 * k4') * k1 + (k3 * k4' - k4 * k3') * l1) := by rw [← hp, ← hq]; grind
    rw [this, P12.1, P14.1, P23.1, P34.1]
    have : x * ((k1' * l2' - k2' * l1') * k1') + y * ((k1' * l4' - k4' * l1') * k1') - y * ((k2' * l3' - k3' * l2') * k1') + z * ((k3' * l4' - k4' * l3') * k1') = (x * (k1' * l2' - k2' * l1') + y * ((k1' * l4' - k4' * l1') - (k2' * l3' - k3' * l2')) + z * (k3' * l4' - k4' * l3')) * k1' := by grind
    rw [this, hg', Int.one_mul]
  have n2 : p * k2 + q * l2 = k2' := by
    have : p * k2 + q * l2 = x * ((l2 * k1' - l1 * k2') * k2 + (k1 * k2' - k2 * k1') * l2) + y * ((l4 * k1' - l1 * k4') * k2 + (k1 * k4' - k4 * k1') * l2) - y * ((l3 * k2' - l2 * k3') * k2 + (k2 * k3' - k3 * k2') * l2) + z * ((l4 * k3' - l3 * k4') * k2 + (k3 * k4' - k4 * k3') * l2) := by rw [← hp, ← hq]; grind
    rw [this, Q12.1, Q14.1, Q23.1, Q34.1]
    have : x * ((k1' * l2' - k2' * l1') * k2') + y * ((k1' * l4' - k4' * l1') * k2') - y * ((k2' * l3' - k3' * l2') * k2') + z * ((k3' * l4' - k4' * l3') * k2') = (x * (k1' * l2' - k2' * l1') + y * ((k1' * l4' - k4' * l1') - (k2' * l3' - k3' * l2')) + z * (k3' * l4' - k4' * l3')) * k2' := by grind
    rw [this, hg', Int.one_mul]
  have n3 : r * k1 + s * l1 = l1' := by
    have : r * k1 + s * l1 = x * ((l2 * l1' - l1 * l2') * k1 + (k1 * l2' - k2 * l1') * l1) + y * ((l4 * l1' - l1 * l4') * k1 + (k1 * l4' - k4 * l1') * l1) - y * ((l3 * l2' - l2 * l3') * k1 + (k2 * l3' - k3 * l2') * l1) + z * ((l4 * l3' - l3 * l4') * k1 + (k3 * l4' - k4 * l3') * l1) := by rw [← hr, ← hs]; grind
    rw [this, P12.2, P14.2, P23.2, P34.2]
    have : x * ((k1' * l2' - k2' * l1') * l1') + y * ((k1' * l4' - k4' * l1') * l1') - y * ((k2' * l3' - k3' * l2') * l1') + z * ((k3' * l4' - k4' * l3') * l1') = (x * (k1' * l2' - k2' * l1') + y * ((k1' * l4' - k4' * l1') - (k2' * l3' - k3' * l2')) + z * (k3' * l4' - k4' * l3')) * l1' := by grind
    rw [this, hg', Int.one_mul]
  have n4 : r * k2 + s * l2 = l2' := by
    have : r * k2 + s * l2 = x * ((l2 * l1' - l1 * l2') * k2 + (k1 * l2' - k2 * l1') * l2) + y * ((l4 * l1' - l1 * l4') * k2 + (k1 * l4' - k4 * l1') * l2) - y * ((l3 * l2' - l2 * l3') * k2 + (k2 * l3' - k3 * l2') * l2) + z * ((l4 * l3' - l3 * l4') * k2 + (k3 * l4' - k4 * l3') * l2) := by rw [← hr, ← hs]; grind
    rw [this, Q12.2, Q14.2, Q23.2, Q34.2]
    have : x * ((k1' * l2' - k2' * l1') * l2') + y * ((k1' * l4' - k4' * l1') * l2') - y * ((k2' * l3' - k3' * l2') * l2') + z * ((k3' * l4' - k4' * l3') * l2') = (x * (k1' * l2' - k2' * l1') + y * ((k1' * l4' - k4' * l1') - (k2' * l3' - k3' * l2')) + z * (k3' * l4' - k4' * l3')) * l2' := by grind
    rw [this, hg', Int.one_mul]
  clear hp hq hr hs P12 P14 P23 P34 Q12 Q14 Q23 Q34 hg'
  refine ⟨p, q, r, s, ?_⟩
  have hdet : p * s - q * r = 1 := by
    have h1 : (p * k1 + q * l1) * (r * k2 + s * l2) - (p * k2 + q * l2) * (r * k1 + s * l1) = (p * s - q * r) * (k1 * l2 - k2 * l1) := by grind
    rw [n1, n2, n3, n4, ← e12, J.m12] at h1
    have h2 : a1 * (p * s - q * r) = a1 * 1 := by rw [Int.mul_comm, ← h1, Int.mul_one]
    exact Int.eq_of_mul_eq_mul_left h0 h2
  have g1 := (J.f 1 0 1 0).symm.trans (K.f 1 0 1 0)
  have g2 := (J.f 1 0 0 1).symm.trans (K.f 1 0 0 1)
  have g3 := (J.f 1 0 1 1).symm.trans (K.f 1 0 1 1)
  simp only [Int.mul_one, Int.mul_zero, Int.add_zero, Int.zero_add] at g1 g2 g3
  rw [← n1, ← n3] at g1
  rw [← n2, ← n4] at g2
  rw [← n1, ← n2, ← n3, ← n4] at g3
  have Z := form_zero (A := A - (A' * p * p + B' * p * r + C' * r * r)) (B := B - (2 * A' * p * q + B' * (p * s + q * r) + 2 * C' * r * s)) (C := C - (A' * q * q + B' * q * s + C' * s * s)) (x1 := k1) (y1 := l1) (x2 := k2) (y2 := l2)
    (by rw [J.m12]; exact h0) (by grind) (by grind) (by grind)
  exact ⟨hdet, by omega, by omega, by omega⟩
/-- Bhargava's cube: three forms and the rows -/
theorem cube (e α1 α2 s t f h : Int) : Joins (e * α1) (e * h + α1 * t - α2 * s) (t * h - f * α2) (e * α2) (e * h - α1 * t + α2 * s) (s * h - f * α1) (α1 * α2) (e * h - α1 * t - α2 * s) (s * t - e * f) e s t f 0 α1 α2 h :=
  ⟨by grind, by grind, by grind, by grind, by grind, by grind, fun x y z w => by grind⟩
/-- the third form, reckoned as the code does it -/
theorem joint_ok {a1 b1 c1 a2 b2 c2 e half u v w : Int} (p1 : 0 < a1) (p2 : 0 < a2) (he : 0 < e) (d1 : e ∣ a1) (d2 : e ∣ a2) (d3 : e ∣ half) (hb : b1 + b2 = 2 * half) (hg : u * a1 + v * a2 + w * half = e) (hD : b1 * b1 - 4 * a1 * c1 = b2 * b2 - 4 * a2 * c2) :
    ∃ α1 α2 h cross b s t f, 0 < α1 ∧ 0 < α2 ∧ a1 / e = α1 ∧ a2 / e = α2 ∧ half / e = h ∧ a1 * a2 / (e * e) = α1 * α2 ∧ (b1 * b2 + (b1 * b1 - 4 * a1 * c1)) / 2 = cross ∧
      (u * a1 * b2 + v * a2 * b1 + w * cross) / e % (2 * (α1 * α2)) = b ∧ (b * b - (b1 * b1 - 4 * a1 * c1)) / (4 * (α1 * α2)) = s * t - e * f ∧ e * (b2 - b) / (2 * a2) = s ∧ e * (b1 - b) / (2 * a1) = t ∧
      e * (b1 * b2 + (b1 * b1 - 4 * a1 * c1) - b * (b1 + b2)) / (4 * a1 * a2) = f ∧ Joins a1 b1 c1 a2 b2 c2 (α1 * α2) b (s * t - e * f) e s t f 0 α1 α2 h ∧ 0 ≤ b ∧ b < 2 * (α1 * α2) ∧ b * b - 4 * (α1 * α2) * (s * t - e * f) = b1 * b1 - 4 * a1 * c1 := by
  obtain ⟨α1, r1⟩ := d1
  obtain ⟨α2, r2⟩ := d2
  obtain ⟨h, r3⟩ := d3
  have he0 : e ≠ 0 := by omega
  have q1 : 0 < α1 := by
    rw [r1, Int.mul_comm] at p1
    exact Int.pos_of_mul_pos_left p1 he
  have q2 : 0 < α2 := by
    rw [r2, Int.mul_comm] at p2
    exact Int.pos_of_mul_pos_left p2 he
  have q12 : 0 < α1 * α2 := Int.mul_pos q1 q2
  have bez : u * α1 + v * α2 + w * h = 1 := by
    have : e * (u * α1 + v * α2 + w * h) = e * 1 := by
      rw [Int.mul_one]
      exact Eq.trans (by rw [r1, r2, r3]; grind) hg
    exact Int.eq_of_mul_eq_mul_left he0 this
  have H : (b1 - b2) * h = 2 * (α1 * c1 - α2 * c2) := by
    have : 2 * e * ((b1 - b2) * h) = 2 * e * (2 * (α1 * c1 - α2 * c2)) := by
      have x1 : (b1 - b2) * (b1 + b2) = 4 * a1 * c1 - 4 * a2 * c2 := by grind
      rw [hb, r1, r2, r3] at x1
      grind
    exact Int.eq_of_mul_eq_mul_left (by omega) this
  obtain ⟨χ, hχ⟩ : ∃ χ, b1 * h - 2 * α1 * c1 = χ := ⟨_, rfl⟩
  have hχ2 : b2 * h - 2 * α2 * c2 = χ := by grind
  have hcr : b1 * b2 + (b1 * b1 - 4 * a1 * c1) = 2 * (e * χ) := by
    have : b1 * b2 + (b1 * b1 - 4 * a1 * c1) = b1 * (b1 + b2) - 4 * a1 * c1 := by grind
    rw [this, hb, r1, r3, ← hχ]
    grind
  obtain ⟨B0, hB0⟩ : ∃ B0, u * α1 * b2 + v * α2 * b1 + w * χ = B0 := ⟨_, rfl⟩
  have hnum : u * a1 * b2 + v * a2 * b1 + w * (e * χ) = e * B0 := by rw [r1, r2, ← hB0]; grind
  obtain ⟨k, hk⟩ : ∃ k, B0 / (2 * (α1 * α2)) = k := ⟨_, rfl⟩
  have hdm := Int.emod_add_mul_ediv B0 (2 * (α1 * α2))
  rw [hk] at hdm
  obtain ⟨b, hbb⟩ : ∃ b, B0 % (2 * (α1 * α2)) = b := ⟨_, rfl⟩
  have b0 := Int.emod_nonneg B0 (show 2 * (α1 * α2) ≠ 0 by omega)
  have b9 := Int.emod_lt_of_pos B0 (show 0 < 2 * (α1 * α2) by omega)
  rw [hbb] at hdm b0 b9
  have hb2 : b2 = 2 * (e * h) - b1 := by rw [← r3]; omega
  obtain ⟨s, hs⟩ : ∃ s, -(v * (e * h - b2) - w * c2) + α1 * k = s := ⟨_, rfl⟩
  obtain ⟨t, ht⟩ : ∃ t, -(u * (e * h - b1) - w * c1) + α2 * k = t := ⟨_, rfl⟩
  obtain ⟨f, hf⟩ : ∃ f, -(u * c2 + v * c1) + k * h = f := ⟨_, rfl⟩
  have s1 : b2 - b = 2 * α2 * s := by
    have x1 : B0 - b2 * (u * α1 + v * α2 + w * h) = 2 * α2 * (v * (e * h - b2) - w * c2) := by
      rw [← hB0, ← hχ2]
      have : b1 = 2 * (e * h) - b2 := by omega
      rw [this]
      grind
    rw [bez] at x1
    rw [← hs]
    grind
  have t1 : b1 - b = 2 * α1 * t := by
    have x1 : B0 - b1 * (u * α1 + v * α2 + w * h) = 2 * α1 * (u * (e * h - b1) - w * c1) := by
      rw [← hB0, ← hχ, hb2]
      grind
    rw [bez] at x1
    rw [← ht]
    grind
  have f1 : χ - h * b = 2 * (α1 * α2) * f := by
    have x1 : h * B0 = χ * (u * α1 + v * α2 + w * h) + 2 * (α1 * α2) * (u * c2 + v * c1) := by
      rw [← hB0]
      have y1 : b1 * h = χ + 2 * α1 * c1 := by omega
      have y2 : b2 * h = χ + 2 * α2 * c2 := by omega
      have : h * (u * α1 * b2 + v * α2 * b1 + w * χ) = u * α1 * (b2 * h) + v * α2 * (b1 * h) + w * h * χ := by grind
      rw [this, y1, y2]
      grind
    rw [bez, Int.mul_one] at x1
    have x2 : h * b = h * B0 - 2 * (α1 * α2) * (k * h) := by rw [← hdm]; grind
    rw [x2, x1, ← hf]
    grind
  have C1 : t * h - f * α2 = c1 := by
    have : 2 * α1 * (t * h - f * α2) = 2 * α1 * c1 := by
      have : 2 * α1 * (t * h - f * α2) = (2 * α1 * t) * h - 2 * (α1 * α2) * f := by grind
      rw [this, ← t1, ← f1, ← hχ]
      grind
    exact Int.eq_of_mul_eq_mul_left (by omega) this
  have C2 : s * h - f * α1 = c2 := by
    have : 2 * α2 * (s * h - f * α1) = 2 * α2 * c2 := by
      have : 2 * α2 * (s * h - f * α1) = (2 * α2 * s) * h - 2 * (α1 * α2) * f := by grind
      rw [this, ← s1, ← f1, ← hχ2]
      grind
    exact Int.eq_of_mul_eq_mul_left (by omega) this
  have E1 : b1 = e * h + α1 * t - α2 * s := by
    have x : 2 * (α1 * t) = b1 - b := by rw [t1]; grind
    have y : 2 * (α2 * s) = b2 - b := by rw [s1]; grind
    omega
  have E2 : b2 = e * h - α1 * t + α2 * s := by
    have x : 2 * (α1 * t) = b1 - b := by rw [t1]; grind
    have y : 2 * (α2 * s) = b2 - b := by rw [s1]; grind
    omega
  have E3 : b = e * h - α1 * t - α2 * s := by
    have x : 2 * (α1 * t) = b1 - b := by rw [t1]; grind
    have y : 2 * (α2 * s) = b2 - b := by rw [s1]; grind
    omega
  have hee : 0 < e * e := Int.mul_pos he he
  have bar : b * b - (b1 * b1 - 4 * a1 * c1) = 4 * (α1 * α2) * (s * t - e * f) := by
    rw [r1, ← C1]
    have z : b1 = b + 2 * α1 * t := by omega
    rw [z]
    have : b * b - ((b + 2 * α1 * t) * (b + 2 * α1 * t) - 4 * (e * α1) * (t * h - f * α2)) = 4 * α1 * (t * (e * h - b - α1 * t) - e * f * α2) := by grind
    rw [this, E3]
    grind
  refine ⟨α1, α2, h, e * χ, b, s, t, f, q1, q2, ?_, ?_, ?_, ?_, ?_, ?_, ?_, ?_, ?_, ?_, ?_, b0, b9, by omega⟩
  · rw [r1, Int.mul_ediv_cancel_left _ he0]
  · rw [r2, Int.mul_ediv_cancel_left _ he0]
  · rw [r3, Int.mul_ediv_cancel_left _ he0]
  · have : a1 * a2 = e * e * (α1 * α2) := by rw [r1, r2]; grind
    rw [this, Int.mul_ediv_cancel_left _ (by omega)]
  · rw [hcr, Int.mul_ediv_cancel_left _ (by decide)]
  · rw [hnum, Int.mul_ediv_cancel_left _ he0, hbb]
  · rw [bar, Int.mul_ediv_cancel_left _ (by omega)]
  · have : e * (b2 - b) = 2 * a2 * s := by rw [s1, r2]; grind
    rw [this, Int.mul_ediv_cancel_left _ (by omega)]
  · have : e * (b1 - b) = 2 * a1 * t := by rw [t1, r1]; grind
    rw [this, Int.mul_ediv_cancel_left _ (by omega)]
  · have : e * (b1 * b2 + (b1 * b1 - 4 * a1 * c1) - b * (b1 + b2)) = 4 * a1 * a2 * f := by
      rw [hcr, hb, r3]
      have : e * (2 * (e * χ) - b * (2 * (e * h))) = 2 * (e * e) * (χ - h * b) := by grind
      rw [this, f1, r1, r2]
      grind
    have nz : 4 * a1 * a2 ≠ 0 := by
      have : 0 < 4 * a1 * a2 := Int.mul_pos (by omega) p2
      omega
    rw [this, Int.mul_ediv_cancel_left _ nz]
  · have Q := cube e α1 α2 s t f h
    rw [← E1, ← E2, ← E3, ← r1, ← r2, C1, C2] at Q
    exact Q
end FT

namespace FT
open PySem PySem.Spec PyProof.Rows L2
theorem v_asked_pair (a b c a' b' c' : Int) {n : Nat} (B1 : Bd n a) (B2 : Bd n b) (B3 : Bd n c) (B4 : Bd n a') (B5 : Bd n b') (B6 : Bd n c') (hn : n ≤ 8000) (h1 : 0 < a) (h2 : b * b < 4 * a * c) (h1' : 0 < a') (h2' : b' * b' < 4 * a' * c')
    (hD : b * b - 4 * a * c = b' * b' - 4 * a' * c') (g1 : gcd3 a b c = 1) (g2 : gcd3 a' b' c' = 1) : sem_asked_pair [(PyData.tuple [PyData.int a, PyData.int b, PyData.int c]), (PyData.tuple [PyData.int a', PyData.int b', PyData.int c'])] = .ok .none := by
  show (evSs G_asked_pair b_asked_pair [some (.sh _), some (.sh _)]).ans = _
  unfold b_asked_pair G_asked_pair
  have i1 := v_bar_of a b c (by omega) h1 h2
  have i2 := v_bar_of a' b' c' (by omega) h1' h2'
  have i3 := v_is_bare a b c B1 B2 B3 (by omega) h1 h2
  have i4 := v_is_bare a' b' c' B4 B5 B6 (by omega) h1' h2'
  rw [decide_eq_true g1] at i3
  rw [decide_eq_true g2] at i4
  rw [← hD] at i2
  simp (disch := first | exact mulOk_bd | assumption | omega) only [evE_v0, evE_v1, evE_v2, evE_v3, evE_v4, evE_v5, evE_v6, evE_v7, evE_v8, evE_v9, evE_v10, evE_int, evE_bl, evE_non, evE_str, evE_bin, evE_neg, evE_not, evE_cmp, evE_tup, evE_lst, evE_ix, evE_call, evE_bi, evE_sl, evE_isi, andB_t, andB_f, orB_t, orB_f, andB_b, orB_b, evE_and, evE_or, evAnd_one, evOr_one, evAnd_two, evOr_two, evEs_nil, evEs_cons, evSs_nil, evSs_cons, evS_ex, evS_ret, ifB_t, ifB_f, evS_ife, evS_raise, evS_for, seq_t, seq_l, it_seq, ans_nx, ans_rt, ans_xc, forL_nil, forL_cons, ix_t0, ix_t1, ix_t2, ix_t3, o_add, o_sub, o_mul, o_fdiv, o_mod, o_neg, o_not, c_lt, c_le, c_gt, c_ge, c_eq, c_ne, c_eq2, c_ne2, c_eq3, c_ne3, c_is, c_isnot, isi_tt, isi_lt, isi_it, isi_ii, isi_ib, isi_ll, len_t1, len_t2, len_t3, len_t4, len_l, abs_i, tup_l, part_0, part_1, sl_l, call_0, call_1, call_2, call_3, call_4, call_5, call_6, call_7, glob_0, glob_1, glob_2, evE_v11, evE_v12, evE_v13, evE_v14, evE_v15, evE_v16, evE_v17, evE_v18, evE_v19, evE_v20, evS_set0, evS_setL0, evS_set1, evS_setL1, evS_set2, evS_setL2, evS_set3, evS_setL3, evS_set4, evS_setL4, evS_set5, evS_setL5, evS_set6, evS_setL6, evS_set7, evS_setL7, evS_set8, evS_setL8, evS_set9, evS_setL9, evS_set10, evS_setL10, evS_set11, evS_setL11, evS_set12, evS_setL12, evS_set13, evS_setL13, evS_set14, evS_setL14, evS_set15, evS_setL15, evS_set16, evS_setL16, evS_set17, evS_setL17, evS_set18, evS_setL18, evS_set19, evS_setL19, evS_set20, evS_setL20, evS_app0, evS_frz0, evS_frs0, evE_ixo0, evS_aug0, evS_app1, evS_frz1, evS_frs1, evE_ixo1, evS_aug1, evS_app2, evS_frz2, evS_frs2, evE_ixo2, evS_aug2, evS_app3, evS_frz3, evS_frs3, evE_ixo3, evS_aug3, evS_app4, evS_frz4, evS_frs4, evE_ixo4, evS_aug4, evS_app5, evS_frz5, evS_frs5, evE_ixo5, evS_aug5, evS_app6, evS_frz6, evS_frs6, evE_ixo6, evS_aug6, evS_app7, evS_frz7, evS_frs7, evE_ixo7, evS_aug7, evS_app8, evS_frz8, evS_frs8, evE_ixo8, evS_aug8, evS_app9, evS_frz9, evS_frs9, evE_ixo9, evS_aug9, evS_app10, evS_frz10, evS_frs10, evE_ixo10, evS_aug10, evS_app11, evS_frz11, evS_frs11, evE_ixo11, evS_aug11, evS_app12, evS_frz12, evS_frs12, evE_ixo12, evS_aug12, evS_app13, evS_frz13, evS_frs13, evE_ixo13, evS_aug13, evS_app14, evS_frz14, evS_frs14, evE_ixo14, evS_aug14, evS_app15, evS_frz15, evS_frs15, evE_ixo15, evS_aug15, evS_app16, evS_frz16, evS_frs16, evE_ixo16, evS_aug16, evS_pass, evE_ife, ifE_t, ifE_f, it_rng1, it_rng2, c_isnN, c_isnI, c_isN, c_isI, c_isnL, c_isnT, c_isL, c_isT, o_band, o_shr, len_t0, tup_t, call_8, call_9, call_10, call_11, call_12, rb_ok, rb_bad, rb_exc, ra_ok, ra_bad, ra_exc, ft_nx, ft_rt, ft_bad, ft_xc, List.set_cons_zero, List.set_cons_succ, List.nil_append, List.cons_append, Bool.not_true, Bool.not_false, decide_true, decide_false, eq_self, Int.reduceEq, Bool.false_or, Bool.or_false, Bool.true_or, Bool.or_true, Bool.true_and, Bool.and_true, Bool.false_and, Bool.and_false, Bool.or_self, Bool.and_self, i1, i2, i3, i4]
theorem rng4 : rngD (.int 4) = .ok [.int 0, .int 1, .int 2, .int 3] := rfl
theorem v_turned_rows (k1 k2 k3 k4 l1 l2 l3 l4 p q r s : Int) {n : Nat} (B1 : Bd n k1) (B2 : Bd n k2) (B3 : Bd n k3) (B4 : Bd n k4) (B5 : Bd n l1) (B6 : Bd n l2) (B7 : Bd n l3) (B8 : Bd n l4) (B9 : Bd n p) (B10 : Bd n q) (B11 : Bd n r) (B12 : Bd n s) (hn : n ≤ 1000000) (hd : p * s - q * r = 1) :
    sem_turned_rows [.tuple [(PyData.tuple [PyData.int k1, PyData.int k2, PyData.int k3, PyData.int k4]), (PyData.tuple [PyData.int l1, PyData.int l2, PyData.int l3, PyData.int l4])], (PyData.tuple [PyData.int p, PyData.int q, PyData.int r, PyData.int s])] = .ok (.tuple [(PyData.tuple [PyData.int (s * k1 + -q * l1), PyData.int (s * k2 + -q * l2), PyData.int (s * k3 + -q * l3), PyData.int (s * k4 + -q * l4)]), (PyData.tuple [PyData.int (-r * k1 + p * l1), PyData.int (-r * k2 + p * l2), PyData.int (-r * k3 + p * l3), PyData.int (-r * k4 + p * l4)])]) := by
  show (evSs G_turned_rows b_turned_rows [some (.sh _), some (.sh _), none, none, none, none]).ans = _
  unfold b_turned_rows w1_turned_rows G_turned_rows
  simp (disch := first | exact mulOk_bd | assumption | omega | with_unfolding_all exact Nat.le_of_ble_eq_true rfl) only [evE_v0, evE_v1, evE_v2, evE_v3, evE_v4, evE_v5, evE_v6, evE_v7, evE_v8, evE_v9, evE_v10, evE_int, evE_bl, evE_non, evE_str, evE_bin, evE_neg, evE_not, evE_cmp, evE_tup, evE_lst, evE_ix, evE_call, evE_bi, evE_sl, evE_isi, andB_t, andB_f, orB_t, orB_f, andB_b, orB_b, evE_and, evE_or, evAnd_one, evOr_one, evAnd_two, evOr_two, evEs_nil, evEs_cons, evSs_nil, evSs_cons, evS_ex, evS_ret, ifB_t, ifB_f, evS_ife, evS_raise, evS_for, seq_t, seq_l, it_seq, ans_nx, ans_rt, ans_xc, forL_nil, forL_cons, ix_t0, ix_t1, ix_t2, ix_t3, o_add, o_sub, o_mul, o_fdiv, o_mod, o_neg, o_not, c_lt, c_le, c_gt, c_ge, c_eq, c_ne, c_eq2, c_ne2, c_eq3, c_ne3, c_is, c_isnot, isi_tt, isi_lt, isi_it, isi_ii, isi_ib, isi_ll, len_t1, len_t2, len_t3, len_t4, len_l, abs_i, tup_l, part_0, part_1, sl_l, call_0, call_1, call_2, call_3, call_4, call_5, call_6, call_7, glob_0, glob_1, glob_2, evE_v11, evE_v12, evE_v13, evE_v14, evE_v15, evE_v16, evE_v17, evE_v18, evE_v19, evE_v20, evS_set0, evS_setL0, evS_set1, evS_setL1, evS_set2, evS_setL2, evS_set3, evS_setL3, evS_set4, evS_setL4, evS_set5, evS_setL5, evS_set6, evS_setL6, evS_set7, evS_setL7, evS_set8, evS_setL8, evS_set9, evS_setL9, evS_set10, evS_setL10, evS_set11, evS_setL11, evS_set12, evS_setL12, evS_set13, evS_setL13, evS_set14, evS_setL14, evS_set15, evS_setL15, evS_set16, evS_setL16, evS_set17, evS_setL17, evS_set18, evS_setL18, evS_set19, evS_setL19, evS_set20, evS_setL20, evS_app0, evS_frz0, evS_frs0, evE_ixo0, evS_aug0, evS_app1, evS_frz1, evS_frs1, evE_ixo1, evS_aug1, evS_app2, evS_frz2, evS_frs2, evE_ixo2, evS_aug2, evS_app3, evS_frz3, evS_frs3, evE_ixo3, evS_aug3, evS_app4, evS_frz4, evS_frs4, evE_ixo4, evS_aug4, evS_app5, evS_frz5, evS_frs5, evE_ixo5, evS_aug5, evS_app6, evS_frz6, evS_frs6, evE_ixo6, evS_aug6, evS_app7, evS_frz7, evS_frs7, evE_ixo7, evS_aug7, evS_app8, evS_frz8, evS_frs8, evE_ixo8, evS_aug8, evS_app9, evS_frz9, evS_frs9, evE_ixo9, evS_aug9, evS_app10, evS_frz10, evS_frs10, evE_ixo10, evS_aug10, evS_app11, evS_frz11, evS_frs11, evE_ixo11, evS_aug11, evS_app12, evS_frz12, evS_frs12, evE_ixo12, evS_aug12, evS_app13, evS_frz13, evS_frs13, evE_ixo13, evS_aug13, evS_app14, evS_frz14, evS_frs14, evE_ixo14, evS_aug14, evS_app15, evS_frz15, evS_frs15, evE_ixo15, evS_aug15, evS_app16, evS_frz16, evS_frs16, evE_ixo16, evS_aug16, evS_pass, evE_ife, ifE_t, ifE_f, it_rng1, it_rng2, c_isnN, c_isnI, c_isN, c_isI, c_isnL, c_isnT, c_isL, c_isT, o_band, o_shr, len_t0, tup_t, call_8, call_9, call_10, call_11, call_12, rb_ok, rb_bad, rb_exc, ra_ok, ra_bad, ra_exc, ft_nx, ft_rt, ft_bad, ft_xc, List.set_cons_zero, List.set_cons_succ, List.nil_append, List.cons_append, Bool.not_true, Bool.not_false, decide_true, decide_false, eq_self, Int.reduceEq, Bool.false_or, Bool.or_false, Bool.true_or, Bool.or_true, Bool.true_and, Bool.and_true, Bool.false_and, Bool.and_false, Bool.or_self, Bool.and_self, v_way_back p q r s (by omega) hd, rng4]
theorem v_rows_of (a1 b1 c1 a2 b2 c2 a b c e half s t f α1 α2 h : Int) {n m : Nat} (B1 : Bd n a1) (B2 : Bd n b1) (B3 : Bd n c1) (B4 : Bd n a2) (B5 : Bd n b2) (B6 : Bd n c2) (B7 : Bd m a) (B8 : Bd m b) (B9 : Bd m c) (B10 : Bd n e) (hn : n ≤ 4000) (hm : m ≤ 9000) (p1 : 0 < a1) (hd : b1 * b1 < 4 * a1 * c1) (p2 : 0 < a2) (pe : 0 < e)
    (eh : (b1 + b2) / 2 = half) (e1 : a1 / e = α1) (e2 : a2 / e = α2) (e3 : half / e = h) (es : e * (b2 - b) / (2 * a2) = s) (et : e * (b1 - b) / (2 * a1) = t) (ef : e * (b1 * b2 + (b1 * b1 - 4 * a1 * c1) - b * (b1 + b2)) / (4 * a1 * a2) = f) :
    sem_rows_of [(PyData.tuple [PyData.int a1, PyData.int b1, PyData.int c1]), (PyData.tuple [PyData.int a2, PyData.int b2, PyData.int c2]), (PyData.tuple [PyData.int a, PyData.int b, PyData.int c]), .int e] = .ok (.tuple [(PyData.tuple [PyData.int e, PyData.int s, PyData.int t, PyData.int f]), (PyData.tuple [PyData.int 0, PyData.int α1, PyData.int α2, PyData.int h])]) := by
  show (evSs G_rows_of b_rows_of [some (.sh _), some (.sh _), some (.sh _), some (.sh _), none, none, none, none, none, none, none]).ans = _
  unfold b_rows_of G_rows_of
  have z2 : divOk 2 = true := by decide +kernel
  have pp : 0 < 4 * a1 * a2 := Int.mul_pos (by omega) p2
  have i1 := v_bar_of a1 b1 c1 (by omega) p1 hd
  have BD : Bd (3 + n + n + 1) (b1 * b1 - 4 * a1 * c1) := Bd.get
  generalize b1 * b1 - 4 * a1 * c1 = Dd at *
  simp (disch := first | exact mulOk_bd | assumption | omega) only [evE_v0, evE_v1, evE_v2, evE_v3, evE_v4, evE_v5, evE_v6, evE_v7, evE_v8, evE_v9, evE_v10, evE_int, evE_bl, evE_non, evE_str, evE_bin, evE_neg, evE_not, evE_cmp, evE_tup, evE_lst, evE_ix, evE_call, evE_bi, evE_sl, evE_isi, andB_t, andB_f, orB_t, orB_f, andB_b, orB_b, evE_and, evE_or, evAnd_one, evOr_one, evAnd_two, evOr_two, evEs_nil, evEs_cons, evSs_nil, evSs_cons, evS_ex, evS_ret, ifB_t, ifB_f, evS_ife, evS_raise, evS_for, seq_t, seq_l, it_seq, ans_nx, ans_rt, ans_xc, forL_nil, forL_cons, ix_t0, ix_t1, ix_t2, ix_t3, o_add, o_sub, o_mul, o_fdiv, o_mod, o_neg, o_not, c_lt, c_le, c_gt, c_ge, c_eq, c_ne, c_eq2, c_ne2, c_eq3, c_ne3, c_is, c_isnot, isi_tt, isi_lt, isi_it, isi_ii, isi_ib, isi_ll, len_t1, len_t2, len_t3, len_t4, len_l, abs_i, tup_l, part_0, part_1, sl_l, call_0, call_1, call_2, call_3, call_4, call_5, call_6, call_7, glob_0, glob_1, glob_2, evE_v11, evE_v12, evE_v13, evE_v14, evE_v15, evE_v16, evE_v17, evE_v18, evE_v19, evE_v20, evS_set0, evS_setL0, evS_set1, evS_setL1, evS_set2, evS_setL2, evS_set3, evS_setL3, evS_set4, evS_setL4, evS_set5, evS_setL5, evS_set6, evS_setL6, evS_set7, evS_setL7, evS_set8, evS_setL8, evS_set9, evS_setL9, evS_set10, evS_setL10, evS_set11, evS_setL11, evS_set12, evS_setL12, evS_set13, evS_setL13, evS_set14, evS_setL14, evS_set15, evS_setL15, evS_set16, evS_setL16, evS_set17, evS_setL17, evS_set18, evS_setL18, evS_set19, evS_setL19, evS_set20, evS_setL20, evS_app0, evS_frz0, evS_frs0, evE_ixo0, evS_aug0, evS_app1, evS_frz1, evS_frs1, evE_ixo1, evS_aug1, evS_app2, evS_frz2, evS_frs2, evE_ixo2, evS_aug2, evS_app3, evS_frz3, evS_frs3, evE_ixo3, evS_aug3, evS_app4, evS_frz4, evS_frs4, evE_ixo4, evS_aug4, evS_app5, evS_frz5, evS_frs5, evE_ixo5, evS_aug5, evS_app6, evS_frz6, evS_frs6, evE_ixo6, evS_aug6, evS_app7, evS_frz7, evS_frs7, evE_ixo7, evS_aug7, evS_app8, evS_frz8, evS_frs8, evE_ixo8, evS_aug8, evS_app9, evS_frz9, evS_frs9, evE_ixo9, evS_aug9, evS_app10, evS_frz10, evS_frs10, evE_ixo10, evS_aug10, evS_app11, evS_frz11, evS_frs11, evE_ixo11, evS_aug11, evS_app12, evS_frz12, evS_frs12, evE_ixo12, evS_aug12, evS_app13, evS_frz13, evS_frs13, evE_ixo13, evS_aug13, evS_app14, evS_frz14, evS_frs14, evE_ixo14, evS_aug14, evS_app15, evS_frz15, evS_frs15, evE_ixo15, evS_aug15, evS_app16, evS_frz16, evS_frs16, evE_ixo16, evS_aug16, evS_pass, evE_ife, ifE_t, ifE_f, it_rng1, it_rng2, c_isnN, c_isnI, c_isN, c_isI, c_isnL, c_isnT, c_isL, c_isT, o_band, o_shr, len_t0, tup_t, call_8, call_9, call_10, call_11, call_12, rb_ok, rb_bad, rb_exc, ra_ok, ra_bad, ra_exc, ft_nx, ft_rt, ft_bad, ft_xc, List.set_cons_zero, List.set_cons_succ, List.nil_append, List.cons_append, Bool.not_true, Bool.not_false, decide_true, decide_false, eq_self, Int.reduceEq, Bool.false_or, Bool.or_false, Bool.true_or, Bool.or_true, Bool.true_and, Bool.and_true, Bool.false_and, Bool.and_false, Bool.or_self, Bool.and_self, i1, o_fdiv z2, o_fdiv (divOk_bd (j := 2 * a2) (by omega)), o_fdiv (divOk_bd (j := 2 * a1) (by omega)), o_fdiv (divOk_bd (j := 4 * a1 * a2) pp), o_fdiv (divOk_bd (j := e) pe), eh, e1, e2, e3, es, et, ef]
/-- a least form's numbers are no more than its bar -/
theorem least_bd {A B C : Int} (h : Least A B C) (hA : 0 < A) {k : Nat} (hD : Bd k (B * B - 4 * A * C)) : Bd k A ∧ Bd k B ∧ Bd k C := by
  obtain ⟨h1, h2, h3, _⟩ := h
  have k1 : (B.natAbs : Int) * B.natAbs ≤ A * A := Int.mul_le_mul (by omega) (by omega) (by omega) (by omega)
  rw [Int.natAbs_mul_self'] at k1
  have k2 : A * A ≤ A * C := Int.mul_le_mul_of_nonneg_left h3 (by omega)
  have k3 : 4 * A * C = 4 * (A * C) := by grind
  have k4 : 1 * C ≤ A * C := Int.mul_le_mul_of_nonneg_right (by omega) (by omega)
  have l := hD.lt
  refine ⟨⟨?_⟩, ⟨?_⟩, ⟨?_⟩⟩ <;> omega
end FT

namespace FT
open PySem PySem.Spec PyProof.Rows L2
theorem half_ok {b1 b2 a1 c1 a2 c2 : Int} (hD : b1 * b1 - 4 * a1 * c1 = b2 * b2 - 4 * a2 * c2) : b1 + b2 = 2 * ((b1 + b2) / 2) := by
  have h : (b1 * b1) % 2 = (b2 * b2) % 2 := by
    have e1 : 4 * a1 * c1 = 2 * (2 * (a1 * c1)) := by grind
    have e2 : 4 * a2 * c2 = 2 * (2 * (a2 * c2)) := by grind
    omega
  have k : ∀ x : Int, (x * x) % 2 = x % 2 := fun x => by
    rw [Int.mul_emod]
    rcases Int.emod_two_eq x with t | t <;> rw [t] <;> rfl
  rw [k, k] at h
  omega
theorem ev_joined {a1 b1 c1 a2 b2 c2 half g x1 y1 e x2 y2 U V a cross b c p q r w s t f α1 α2 h A B C Dd k1 k2 k3 k4 l1 l2 l3 l4 : Int} (B1 : Bd 8000 a1) (B2 : Bd 8000 b1) (B4 : Bd 8000 a2) (B5 : Bd 8000 b2) (Be : Bd 8000 e) (Bx : Bd 8000 x1) (By : Bd 8000 y1) (Bx2 : Bd 8000 x2) (By2 : Bd 8000 y2) (BU : Bd 8000 U) (BV : Bd 8000 V) (Ba : Bd 8000 a) (Bb : Bd 8000 b) (Bcr : Bd 8000 cross) (pa : 0 < 2 * a) (z2 : divOk 2 = true) (z3 : divOk (e * e) = true) (z4 : divOk e = true) (z5 : divOk (4 * a) = true)
    (ep2 : sem_asked_pair [(PyData.tuple [PyData.int a1, PyData.int b1, PyData.int c1]), (PyData.tuple [PyData.int a2, PyData.int b2, PyData.int c2])] = .ok .none) (eb : sem_bar_of [(PyData.tuple [PyData.int a1, PyData.int b1, PyData.int c1])] = .ok (.int Dd)) (hh : (b1 + b2) / 2 = half) (e1 : sem_common [.int a1, .int a2] = .ok (PyData.tuple [PyData.int g, PyData.int x1, PyData.int y1])) (e2 : sem_common [.int g, .int half] = .ok (PyData.tuple [PyData.int e, PyData.int x2, PyData.int y2])) (hU : x2 * x1 = U) (hV : x2 * y1 = V)
    (i4 : a1 * a2 / (e * e) = a) (i5 : (b1 * b2 + Dd) / 2 = cross) (i6 : (U * a1 * b2 + V * a2 * b1 + y2 * cross) / e % (2 * a) = b) (i7 : (b * b - Dd) / (4 * a) = c) (el : sem_least_of [(PyData.tuple [PyData.int a, PyData.int b, PyData.int c])] = .ok (.tuple [(PyData.tuple [PyData.int A, PyData.int B, PyData.int C]), (PyData.tuple [PyData.int p, PyData.int q, PyData.int r, PyData.int w])]))
    (er : sem_rows_of [(PyData.tuple [PyData.int a1, PyData.int b1, PyData.int c1]), (PyData.tuple [PyData.int a2, PyData.int b2, PyData.int c2]), (PyData.tuple [PyData.int a, PyData.int b, PyData.int c]), .int e] = .ok (.tuple [(PyData.tuple [PyData.int e, PyData.int s, PyData.int t, PyData.int f]), (PyData.tuple [PyData.int 0, PyData.int α1, PyData.int α2, PyData.int h])])) (et : sem_turned_rows [.tuple [(PyData.tuple [PyData.int e, PyData.int s, PyData.int t, PyData.int f]), (PyData.tuple [PyData.int 0, PyData.int α1, PyData.int α2, PyData.int h])], (PyData.tuple [PyData.int p, PyData.int q, PyData.int r, PyData.int w])] = .ok (.tuple [(PyData.tuple [PyData.int k1, PyData.int k2, PyData.int k3, PyData.int k4]), (PyData.tuple [PyData.int l1, PyData.int l2, PyData.int l3, PyData.int l4])])) :
    sem_joined [(PyData.tuple [PyData.int a1, PyData.int b1, PyData.int c1]), (PyData.tuple [PyData.int a2, PyData.int b2, PyData.int c2])] = .ok (.tuple [(PyData.tuple [PyData.int A, PyData.int B, PyData.int C]), (PyData.tuple [PyData.int k1, PyData.int k2, PyData.int k3, PyData.int k4]), (PyData.tuple [PyData.int l1, PyData.int l2, PyData.int l3, PyData.int l4])]) := by
  show (evSs G_joined b_joined [some (.sh _), some (.sh _), none, none, none, none, none, none, none, none, none, none, none, none, none, none]).ans = _
  unfold b_joined G_joined
  simp (disch := first | exact mulOk_bd | assumption | omega) only [evE_v0, evE_v1, evE_v2, evE_v3, evE_v4, evE_v5, evE_v6, evE_v7, evE_v8, evE_v9, evE_v10, evE_int, evE_bl, evE_non, evE_str, evE_bin, evE_neg, evE_not, evE_cmp, evE_tup, evE_lst, evE_ix, evE_call, evE_bi, evE_sl, evE_isi, andB_t, andB_f, orB_t, orB_f, andB_b, orB_b, evE_and, evE_or, evAnd_one, evOr_one, evAnd_two, evOr_two, evEs_nil, evEs_cons, evSs_nil, evSs_cons, evS_ex, evS_ret, ifB_t, ifB_f, evS_ife, evS_raise, evS_for, seq_t, seq_l, it_seq, ans_nx, ans_rt, ans_xc, forL_nil, forL_cons, ix_t0, ix_t1, ix_t2, ix_t3, o_add, o_sub, o_mul, o_fdiv, o_mod, o_neg, o_not, c_lt, c_le, c_gt, c_ge, c_eq, c_ne, c_eq2, c_ne2, c_eq3, c_ne3, c_is, c_isnot, isi_tt, isi_lt, isi_it, isi_ii, isi_ib, isi_ll, len_t1, len_t2, len_t3, len_t4, len_l, abs_i, tup_l, part_0, part_1, sl_l, call_0, call_1, call_2, call_3, call_4, call_5, call_6, call_7, glob_0, glob_1, glob_2, evE_v11, evE_v12, evE_v13, evE_v14, evE_v15, evE_v16, evE_v17, evE_v18, evE_v19, evE_v20, evS_set0, evS_setL0, evS_set1, evS_setL1, evS_set2, evS_setL2, evS_set3, evS_setL3, evS_set4, evS_setL4, evS_set5, evS_setL5, evS_set6, evS_setL6, evS_set7, evS_setL7, evS_set8, evS_setL8, evS_set9, evS_setL9, evS_set10, evS_setL10, evS_set11, evS_setL11, evS_set12, evS_setL12, evS_set13, evS_setL13, evS_set14, evS_setL14, evS_set15, evS_setL15, evS_set16, evS_setL16, evS_set17, evS_setL17, evS_set18, evS_setL18, evS_set19, evS_setL19, evS_set20, evS_setL20, evS_app0, evS_frz0, evS_frs0, evE_ixo0, evS_aug0, evS_app1, evS_frz1, evS_frs1, evE_ixo1, evS_aug1, evS_app2, evS_frz2, evS_frs2, evE_ixo2, evS_aug2, evS_app3, evS_frz3, evS_frs3, evE_ixo3, evS_aug3, evS_app4, evS_frz4, evS_frs4, evE_ixo4, evS_aug4, evS_app5, evS_frz5, evS_frs5, evE_ixo5, evS_aug5, evS_app6, evS_frz6, evS_frs6, evE_ixo6, evS_aug6, evS_app7, evS_frz7, evS_frs7, evE_ixo7, evS_aug7, evS_app8, evS_frz8, evS_frs8, evE_ixo8, evS_aug8, evS_app9, evS_frz9, evS_frs9, evE_ixo9, evS_aug9, evS_app10, evS_frz10, evS_frs10, evE_ixo10, evS_aug10, evS_app11, evS_frz11, evS_frs11, evE_ixo11, evS_aug11, evS_app12, evS_frz12, evS_frs12, evE_ixo12, evS_aug12, evS_app13, evS_frz13, evS_frs13, evE_ixo13, evS_aug13, evS_app14, evS_frz14, evS_frs14, evE_ixo14, evS_aug14, evS_app15, evS_frz15, evS_frs15, evE_ixo15, evS_aug15, evS_app16, evS_frz16, evS_frs16, evE_ixo16, evS_aug16, evS_pass, evE_ife, ifE_t, ifE_f, it_rng1, it_rng2, c_isnN, c_isnI, c_isN, c_isI, c_isnL, c_isnT, c_isL, c_isT, o_band, o_shr, len_t0, tup_t, call_8, call_9, call_10, call_11, call_12, rb_ok, rb_bad, rb_exc, ra_ok, ra_bad, ra_exc, ft_nx, ft_rt, ft_bad, ft_xc, List.set_cons_zero, List.set_cons_succ, List.nil_append, List.cons_append, Bool.not_true, Bool.not_false, decide_true, decide_false, eq_self, Int.reduceEq, Bool.false_or, Bool.or_false, Bool.true_or, Bool.or_true, Bool.true_and, Bool.and_true, Bool.false_and, Bool.and_false, Bool.or_self, Bool.and_self, ep2, eb, o_fdiv z2, hh, e1, e2, hU, hV, o_fdiv z3, i4, i5, o_fdiv z4, o_mod pa, i6, o_fdiv z5, i7, el, er, et]
theorem v_joined (a1 b1 c1 a2 b2 c2 : Int) {n : Nat} (B1 : Bd n a1) (B2 : Bd n b1) (B3 : Bd n c1) (B4 : Bd n a2) (B5 : Bd n b2) (B6 : Bd n c2) (hn : n ≤ 1900) (p1 : 0 < a1) (v1 : b1 * b1 < 4 * a1 * c1) (p2 : 0 < a2) (v2 : b2 * b2 < 4 * a2 * c2)
    (hD : b1 * b1 - 4 * a1 * c1 = b2 * b2 - 4 * a2 * c2) (g1 : gcd3 a1 b1 c1 = 1) (g2 : gcd3 a2 b2 c2 = 1) :
    ∃ A B C k1 k2 k3 k4 l1 l2 l3 l4, sem_joined [(PyData.tuple [PyData.int a1, PyData.int b1, PyData.int c1]), (PyData.tuple [PyData.int a2, PyData.int b2, PyData.int c2])] = .ok (.tuple [(PyData.tuple [PyData.int A, PyData.int B, PyData.int C]), (PyData.tuple [PyData.int k1, PyData.int k2, PyData.int k3, PyData.int k4]), (PyData.tuple [PyData.int l1, PyData.int l2, PyData.int l3, PyData.int l4])]) ∧ Joins a1 b1 c1 a2 b2 c2 A B C k1 k2 k3 k4 l1 l2 l3 l4 ∧ Least A B C ∧ 0 < A ∧ B * B - 4 * A * C = b1 * b1 - 4 * a1 * c1 ∧
      Bd (16 * n + 50) k1 ∧ Bd (16 * n + 50) k2 ∧ Bd (16 * n + 50) k3 ∧ Bd (16 * n + 50) k4 ∧ Bd (16 * n + 50) l1 ∧ Bd (16 * n + 50) l2 ∧ Bd (16 * n + 50) l3 ∧ Bd (16 * n + 50) l4 := by
  obtain ⟨half, hh⟩ : ∃ x, (b1 + b2) / 2 = x := ⟨_, rfl⟩
  have hb := half_ok hD
  rw [hh] at hb
  have Bh : Bd (n + 2) half := by rw [← hh]; exact Bd.get
  obtain ⟨x1, y1, e1, f1, U1, V1⟩ := v_common a1 a2 B1 B4 (by omega)
  have Bg := gcd_bd B1 B4
  obtain ⟨x2, y2, e2, f2, U2, V2⟩ := v_common (Int.gcd a1 a2 : Nat) half (Bg.up (show n ≤ n + 2 by omega)) Bh (by omega)
  have D1 : ((Int.gcd (Int.gcd a1 a2 : Nat) half : Nat) : Int) ∣ (Int.gcd a1 a2 : Nat) := Int.gcd_dvd_left _ _
  have D3 : ((Int.gcd (Int.gcd a1 a2 : Nat) half : Nat) : Int) ∣ half := Int.gcd_dvd_right _ _
  have D2 := Int.dvd_trans D1 (Int.gcd_dvd_right a1 a2)
  have D0 := Int.dvd_trans D1 (Int.gcd_dvd_left a1 a2)
  have ge : ((Int.gcd a1 a2 : Nat) : Int) ≤ a1 := Int.le_of_dvd p1 (Int.gcd_dvd_left a1 a2)
  have gp : 0 < ((Int.gcd a1 a2 : Nat) : Int) := by
    have : 0 < Int.gcd a1 a2 := Int.gcd_pos_of_ne_zero_left _ (by omega)
    omega
  have ep : 0 < ((Int.gcd (Int.gcd a1 a2 : Nat) half : Nat) : Int) := by
    have : 0 < Int.gcd (Int.gcd a1 a2 : Nat) half := Int.gcd_pos_of_ne_zero_left _ (by omega)
    omega
  have Be := gcd_bd (n := n + 2) (Bg.up (show n ≤ n + 2 by omega)) Bh
  have Be2 : Bd n ((Int.gcd (Int.gcd a1 a2 : Nat) half : Nat) : Int) := by
    have := Int.le_of_dvd gp D1
    have l := B1.lt
    exact ⟨by omega⟩
  generalize ((Int.gcd (Int.gcd a1 a2 : Nat) half : Nat) : Int) = e at *
  generalize ((Int.gcd a1 a2 : Nat) : Int) = g at *
  have hg : x2 * x1 * a1 + x2 * y1 * a2 + y2 * half = e := by
    rw [← f2, ← f1]
    grind
  obtain ⟨U, hU, BU⟩ : ∃ U, x2 * x1 = U ∧ Bd (2 * n + 8) U := ⟨_, rfl, Bd.get⟩
  obtain ⟨V, hV, BV⟩ : ∃ V, x2 * y1 = V ∧ Bd (2 * n + 8) V := ⟨_, rfl, Bd.get⟩
  rw [hU, hV] at hg
  obtain ⟨α1, α2, h, cross, b, s, t, f, q1, q2, i1, i2, i3, i4, i5, i6, i7, i8, i9, i10, J, b0, b9, hbar⟩ := joint_ok p1 p2 ep D0 D2 D3 hb hg hD
  obtain ⟨a, ha⟩ : ∃ a, α1 * α2 = a := ⟨_, rfl⟩
  have pa : 0 < a := ha ▸ Int.mul_pos q1 q2
  rw [ha] at i4 i6 i7 J b9 hbar
  obtain ⟨c, hc⟩ : ∃ c, s * t - e * f = c := ⟨_, rfl⟩
  rw [hc] at i7 J hbar
  have Ba : Bd (2 * n + 1) a := by rw [← i4]; exact Bd.get
  have Bb : Bd (2 * n + 3) b := by
    have l := Ba.lt
    have : 2 ^ (2 * n + 3) = 4 * 2 ^ (2 * n + 1) := by rw [show 2 * n + 3 = 2 * n + 1 + 2 by omega, Nat.pow_add]; omega
    exact ⟨by omega⟩
  obtain ⟨Dd, hDd, BD⟩ : ∃ Dd, b1 * b1 - 4 * a1 * c1 = Dd ∧ Bd (2 * n + 5) Dd := ⟨_, rfl, Bd.get⟩
  have hDd2 := hDd
  have Bc : Bd (4 * n + 8) c := by rw [← i7, hDd]; exact Bd.get
  have Bcr : Bd (2 * n + 7) cross := by rw [← i5, hDd]; exact Bd.get
  have vj : b * b < 4 * a * c := by omega
  obtain ⟨A, B, C, p, q, r, w, el, L, hl, T1, T2, T3, T4, T5, T6, T7⟩ := v_least_of a b c pa vj (n := 4 * n + 8) Ba.get Bb.get Bc (by omega)
  obtain ⟨PA, PV⟩ := L.pos pa vj
  have W1 : Bd (8 * n + 19) s := by rw [← i8]; exact Bd.get
  have W2 : Bd (8 * n + 19) t := by rw [← i9]; exact Bd.get
  have W3 : Bd (8 * n + 19) f := by rw [← i10, hDd]; exact Bd.get
  have W4 : Bd (8 * n + 19) α1 := by rw [← i1]; exact Bd.get
  have W5 : Bd (8 * n + 19) α2 := by rw [← i2]; exact Bd.get
  have W6 : Bd (8 * n + 19) h := by rw [← i3]; exact Bd.get
  have W7 : Bd (8 * n + 19) e := Be2.up (by omega)
  have W8 : Bd (8 * n + 19) (0 : Int) := Bd.get
  have T4' : Bd (8 * n + 19) p := T4.up (by omega)
  have T5' : Bd (8 * n + 19) q := T5.up (by omega)
  have T6' : Bd (8 * n + 19) r := T6.up (by omega)
  have T7' : Bd (8 * n + 19) w := T7.up (by omega)
  have er := v_rows_of a1 b1 c1 a2 b2 c2 a b c e half s t f α1 α2 h (n := n) (m := 4 * n + 8) B1 B2 B3 B4 B5 B6 (Ba.up (by omega)) (Bb.up (by omega)) Bc Be2 (by omega) (by omega) p1 v1 p2 ep hh i1 i2 i3 i8 i9 i10
  have et := v_turned_rows e s t f 0 α1 α2 h p q r w W7 W1 W2 W3 W8 W4 W5 W6 T4' T5' T6' T7' (by omega) L.det
  have ep2 := v_asked_pair a1 b1 c1 a2 b2 c2 B1 B2 B3 B4 B5 B6 (by omega) p1 v1 p2 v2 hD g1 g2
  have eb := v_bar_of a1 b1 c1 (by omega) p1 v1
  rw [hDd] at eb i5 i7
  have J3 := J.third L
  refine ⟨A, B, C, _, _, _, _, _, _, _, _, ?_, J3, hl, PA, L.bar.trans hbar, Bd.get, Bd.get, Bd.get, Bd.get, Bd.get, Bd.get, Bd.get, Bd.get⟩
  have z2 : divOk 2 = true := by decide +kernel
  have z3 : divOk (e * e) = true := @divOk_bd _ _ (@Bd.mul _ _ _ _ Be2 Be2) (Int.mul_pos ep ep) (by omega)
  have z4 : divOk e = true := @divOk_bd _ _ Be2 ep (by omega)
  have z5 : divOk (4 * a) = true := divOk_bd (by omega)
  exact ev_joined (B1.up (by omega)) (B2.up (by omega)) (B4.up (by omega)) (B5.up (by omega)) (Be2.up (by omega)) (U1.up (by omega)) (V1.up (by omega)) (U2.up (by omega)) (V2.up (by omega)) (BU.up (by omega)) (BV.up (by omega)) (Ba.up (by omega)) (Bb.up (by omega)) (Bcr.up (by omega)) (by omega) z2 z3 z4 z5 ep2 eb hh e1 e2 hU hV i4 i5 i6 i7 el er et
end FT

namespace FT
open PySem PySem.Spec PyProof.Rows L2
/-! ### bare forms -/
theorem gcd3_dvd (a b c : Int) : ((gcd3 a b c : Nat) : Int) ∣ a ∧ ((gcd3 a b c : Nat) : Int) ∣ b ∧ ((gcd3 a b c : Nat) : Int) ∣ c := by
  unfold gcd3
  have h := Int.gcd_dvd_left (Int.gcd a b : Nat) c
  exact ⟨Int.dvd_trans h (Int.gcd_dvd_left a b), Int.dvd_trans h (Int.gcd_dvd_right a b), Int.gcd_dvd_right _ c⟩
theorem dvd_gcd3 {d a b c : Int} (h1 : d ∣ a) (h2 : d ∣ b) (h3 : d ∣ c) : d ∣ ((gcd3 a b c : Nat) : Int) := by
  unfold gcd3
  exact Int.dvd_coe_gcd (Int.dvd_coe_gcd h1 h2) h3
theorem bare_lead {a b c p q r s A B C : Int} (L : Leads a b c p q r s A B C) (h : gcd3 a b c = 1) : gcd3 A B C = 1 := by
  obtain ⟨d1, d2, d3⟩ := gcd3_dvd A B C
  have M := L.back
  generalize hd : ((gcd3 A B C : Nat) : Int) = d at *
  have k : d ∣ ((gcd3 a b c : Nat) : Int) := by
    refine dvd_gcd3 ?_ ?_ ?_
    · rw [← M.e1]
      exact Int.dvd_add (Int.dvd_add (Int.dvd_mul_of_dvd_left (Int.dvd_mul_of_dvd_left d1)) (Int.dvd_mul_of_dvd_left (Int.dvd_mul_of_dvd_left d2))) (Int.dvd_mul_of_dvd_left (Int.dvd_mul_of_dvd_left d3))
    · rw [← M.e2]
      exact Int.dvd_add (Int.dvd_add (Int.dvd_mul_of_dvd_left (Int.dvd_mul_of_dvd_left (Int.dvd_mul_of_dvd_right d1))) (Int.dvd_mul_of_dvd_left d2)) (Int.dvd_mul_of_dvd_left (Int.dvd_mul_of_dvd_left (Int.dvd_mul_of_dvd_right d3)))
    · rw [← M.e3]
      exact Int.dvd_add (Int.dvd_add (Int.dvd_mul_of_dvd_left (Int.dvd_mul_of_dvd_left d1)) (Int.dvd_mul_of_dvd_left (Int.dvd_mul_of_dvd_left d2))) (Int.dvd_mul_of_dvd_left (Int.dvd_mul_of_dvd_left d3))
  rw [h] at k
  have := Int.le_of_dvd (by decide) k
  have d0 : d ≠ 0 := by
    intro h0
    rw [h0] at k
    have := Int.zero_dvd.mp k
    omega
  omega
theorem bare_of {a b : Int} (c : Int) (h : Int.gcd a b = 1) : gcd3 a b c = 1 := by
  unfold gcd3
  rw [h]
  exact Int.one_gcd
theorem bez : ∀ (n : Nat) (a b : Int), b.natAbs ≤ n → ∃ u v, u * a + v * b = (Int.gcd a b : Nat)
  | n, a, b, hn => by
    by_cases h0 : b = 0
    · subst h0
      rw [Int.gcd_zero_right]
      rcases Int.lt_or_le a 0 with t | t
      · exact ⟨-1, 0, by omega⟩
      · exact ⟨1, 0, by omega⟩
    · match n, hn with
      | 0, hn => exact absurd hn (by omega)
      | n + 1, hn =>
        have f := fm_abs (h := a) h0
        obtain ⟨u, v, e⟩ := bez n b (a.fmod b) (by omega)
        rw [gcd_fm] at e
        have d := Int.fmod_add_mul_fdiv a b
        have : a.fmod b = a - b * a.fdiv b := by omega
        rw [this] at e
        exact ⟨v, u - v * a.fdiv b, by rw [← e]; grind⟩
theorem bez3 {a b c : Int} (h : gcd3 a b c = 1) : ∃ x y z, x * a + y * b + z * c = 1 := by
  obtain ⟨u, v, e⟩ := bez _ a b (Nat.le_refl _)
  obtain ⟨u', v', e'⟩ := bez _ (Int.gcd a b : Nat) c (Nat.le_refl _)
  unfold gcd3 at h
  rw [h, ← e] at e'
  exact ⟨u' * u, u' * v, v', by
    have : u' * u * a + u' * v * b + v' * c = u' * (u * a + v * b) + v' * c := by grind
    rw [this]
    exact e'⟩
/-! ### the law's forms to be joined -/
/-- (a, b, d k) and (d, b, a k) -/
theorem joins_two (a b d k : Int) : Joins a b (d * k) d b (a * k) (a * d) b k 1 0 0 (-k) 0 a d b :=
  ⟨by grind, by grind, by grind, by grind, by grind, by grind, fun x y z w => by grind⟩
/-- what is joined of forms that were turned from two such -/
theorem joined_class {a b d k p q r s p' q' r' s' a1 b1 c1 a2 b2 c2 A B C k1 k2 k3 k4 l1 l2 l3 l4 : Int} (L1 : Leads a b (d * k) p q r s a1 b1 c1) (L2 : Leads d b (a * k) p' q' r' s' a2 b2 c2) (J : Joins a1 b1 c1 a2 b2 c2 A B C k1 k2 k3 k4 l1 l2 l3 l4) (h0 : a1 ≠ 0) (hg : gcd3 a1 b1 c1 = 1) :
    ∃ p q r s, Leads (a * d) b k p q r s A B C := by
  obtain ⟨x, y, z, e⟩ := bez3 hg
  exact joins_uniq J (((joins_two a b d k).left L1).right L2) h0 e
/-- two least forms that one form leads to -/
theorem least_one {a b c p q r s p' q' r' s' A B C A' B' C' : Int} (L : Leads a b c p q r s A B C) (L' : Leads a b c p' q' r' s' A' B' C') (h : Least A B C) (h' : Least A' B' C') (hA : 0 < A) : A = A' ∧ B = B' ∧ C = C' :=
  least_uniq (L.back.then L') h h' hA
/-- alike of two forms of one class -/
theorem v_alike_same {a b c p q r s A B C p' q' r' s' A' B' C' : Int} (L : Leads a b c p q r s A B C) (L' : Leads a b c p' q' r' s' A' B' C') (h : Least a b c) (ha : 0 < a)
    {n : Nat} (Ha : Bd n A) (Hb : Bd n B) (Hc : Bd n C) (Ha' : Bd n A') (Hb' : Bd n B') (Hc' : Bd n C') (hn : n ≤ 8000) :
    ∃ x y z w, sem_alike [(PyData.tuple [PyData.int A, PyData.int B, PyData.int C]), (PyData.tuple [PyData.int A', PyData.int B', PyData.int C'])] = .ok (.tuple [.bool true, (PyData.tuple [PyData.int x, PyData.int y, PyData.int z, PyData.int w])]) ∧ Leads A B C x y z w A' B' C' ∧ Bd (7 + n + n + n + n) x ∧ Bd (7 + n + n + n + n) y ∧ Bd (7 + n + n + n + n) z ∧ Bd (7 + n + n + n + n) w := by
  obtain ⟨x, y, z, w, e, M, T1, T2, T3, T4⟩ := v_least_turned L h ha Ha Hb Hc hn
  obtain ⟨x', y', z', w', e', M', T1', T2', T3', T4'⟩ := v_least_turned L' h ha Ha' Hb' Hc' hn
  have N := M.then M'.back
  have wb := v_way_back x' y' z' w' (by omega) M'.det
  have be := v_behind x y z w w' (-y') (-z') x' (by omega) M.det M'.back.det
  refine ⟨_, _, _, _, ?_, N, Bd.get, Bd.get, Bd.get, Bd.get⟩
  show (evSs G_alike b_alike [some (.sh _), some (.sh _), none, none]).ans = _
  unfold b_alike G_alike
  simp (disch := first | exact mulOk_bd | assumption | omega) only [evE_v0, evE_v1, evE_v2, evE_v3, evE_v4, evE_v5, evE_v6, evE_v7, evE_v8, evE_v9, evE_v10, evE_int, evE_bl, evE_non, evE_str, evE_bin, evE_neg, evE_not, evE_cmp, evE_tup, evE_lst, evE_ix, evE_call, evE_bi, evE_sl, evE_isi, andB_t, andB_f, orB_t, orB_f, andB_b, orB_b, evE_and, evE_or, evAnd_one, evOr_one, evAnd_two, evOr_two, evEs_nil, evEs_cons, evSs_nil, evSs_cons, evS_ex, evS_ret, ifB_t, ifB_f, evS_ife, evS_raise, evS_for, seq_t, seq_l, it_seq, ans_nx, ans_rt, ans_xc, forL_nil, forL_cons, ix_t0, ix_t1, ix_t2, ix_t3, o_add, o_sub, o_mul, o_fdiv, o_mod, o_neg, o_not, c_lt, c_le, c_gt, c_ge, c_eq, c_ne, c_eq2, c_ne2, c_eq3, c_ne3, c_is, c_isnot, isi_tt, isi_lt, isi_it, isi_ii, isi_ib, isi_ll, len_t1, len_t2, len_t3, len_t4, len_l, abs_i, tup_l, part_0, part_1, sl_l, call_0, call_1, call_2, call_3, call_4, call_5, call_6, call_7, glob_0, glob_1, glob_2, evE_v11, evE_v12, evE_v13, evE_v14, evE_v15, evE_v16, evE_v17, evE_v18, evE_v19, evE_v20, evS_set0, evS_setL0, evS_set1, evS_setL1, evS_set2, evS_setL2, evS_set3, evS_setL3, evS_set4, evS_setL4, evS_set5, evS_setL5, evS_set6, evS_setL6, evS_set7, evS_setL7, evS_set8, evS_setL8, evS_set9, evS_setL9, evS_set10, evS_setL10, evS_set11, evS_setL11, evS_set12, evS_setL12, evS_set13, evS_setL13, evS_set14, evS_setL14, evS_set15, evS_setL15, evS_set16, evS_setL16, evS_set17, evS_setL17, evS_set18, evS_setL18, evS_set19, evS_setL19, evS_set20, evS_setL20, evS_app0, evS_frz0, evS_frs0, evE_ixo0, evS_aug0, evS_app1, evS_frz1, evS_frs1, evE_ixo1, evS_aug1, evS_app2, evS_frz2, evS_frs2, evE_ixo2, evS_aug2, evS_app3, evS_frz3, evS_frs3, evE_ixo3, evS_aug3, evS_app4, evS_frz4, evS_frs4, evE_ixo4, evS_aug4, evS_app5, evS_frz5, evS_frs5, evE_ixo5, evS_aug5, evS_app6, evS_frz6, evS_frs6, evE_ixo6, evS_aug6, evS_app7, evS_frz7, evS_frs7, evE_ixo7, evS_aug7, evS_app8, evS_frz8, evS_frs8, evE_ixo8, evS_aug8, evS_app9, evS_frz9, evS_frs9, evE_ixo9, evS_aug9, evS_app10, evS_frz10, evS_frs10, evE_ixo10, evS_aug10, evS_app11, evS_frz11, evS_frs11, evE_ixo11, evS_aug11, evS_app12, evS_frz12, evS_frs12, evE_ixo12, evS_aug12, evS_app13, evS_frz13, evS_frs13, evE_ixo13, evS_aug13, evS_app14, evS_frz14, evS_frs14, evE_ixo14, evS_aug14, evS_app15, evS_frz15, evS_frs15, evE_ixo15, evS_aug15, evS_app16, evS_frz16, evS_frs16, evE_ixo16, evS_aug16, evS_pass, evE_ife, ifE_t, ifE_f, it_rng1, it_rng2, c_isnN, c_isnI, c_isN, c_isI, c_isnL, c_isnT, c_isL, c_isT, o_band, o_shr, len_t0, tup_t, call_8, call_9, call_10, call_11, call_12, rb_ok, rb_bad, rb_exc, ra_ok, ra_bad, ra_exc, ft_nx, ft_rt, ft_bad, ft_xc, List.set_cons_zero, List.set_cons_succ, List.nil_append, List.cons_append, Bool.not_true, Bool.not_false, decide_true, decide_false, eq_self, Int.reduceEq, Bool.false_or, Bool.or_false, Bool.true_or, Bool.or_true, Bool.true_and, Bool.and_true, Bool.false_and, Bool.and_false, Bool.or_self, Bool.and_self, e, e', wb, be, decide_true]
theorem w_leads {a b c p q r s A B C p' q' r' s' A' B' C' : Int} (L : Leads a b c p q r s A B C) (L' : Leads a b c p' q' r' s' A' B' C') (h : Least a b c) (ha : 0 < a)
    {n : Nat} (Ha : Bd n A) (Hb : Bd n B) (Hc : Bd n C) (Ha' : Bd n A') (Hb' : Bd n B') (Hc' : Bd n C') (hn : n ≤ 8000) : sem__law_leads [(PyData.tuple [PyData.int A, PyData.int B, PyData.int C]), (PyData.tuple [PyData.int A', PyData.int B', PyData.int C'])] = .ok (.bool true) := by
  obtain ⟨x, y, z, w, e, M, T1, T2, T3, T4⟩ := v_alike_same L L' h ha Ha Hb Hc Ha' Hb' Hc' hn
  show (evSs G__law_leads b__law_leads [some (.sh _), some (.sh _), none, none]).ans = _
  unfold b__law_leads G__law_leads
  have X := w_turnedL M (by omega)
  have d := M.det
  simp (disch := first | exact mulOk_bd | assumption | omega) only [evE_v0, evE_v1, evE_v2, evE_v3, evE_v4, evE_v5, evE_v6, evE_v7, evE_v8, evE_v9, evE_v10, evE_int, evE_bl, evE_non, evE_str, evE_bin, evE_neg, evE_not, evE_cmp, evE_tup, evE_lst, evE_ix, evE_call, evE_bi, evE_sl, evE_isi, andB_t, andB_f, orB_t, orB_f, andB_b, orB_b, evE_and, evE_or, evAnd_one, evOr_one, evAnd_two, evOr_two, evEs_nil, evEs_cons, evSs_nil, evSs_cons, evS_ex, evS_ret, ifB_t, ifB_f, evS_ife, evS_raise, evS_for, seq_t, seq_l, it_seq, ans_nx, ans_rt, ans_xc, forL_nil, forL_cons, ix_t0, ix_t1, ix_t2, ix_t3, o_add, o_sub, o_mul, o_fdiv, o_mod, o_neg, o_not, c_lt, c_le, c_gt, c_ge, c_eq, c_ne, c_eq2, c_ne2, c_eq3, c_ne3, c_is, c_isnot, isi_tt, isi_lt, isi_it, isi_ii, isi_ib, isi_ll, len_t1, len_t2, len_t3, len_t4, len_l, abs_i, tup_l, part_0, part_1, sl_l, call_0, call_1, call_2, call_3, call_4, call_5, call_6, call_7, glob_0, glob_1, glob_2, evE_v11, evE_v12, evE_v13, evE_v14, evE_v15, evE_v16, evE_v17, evE_v18, evE_v19, evE_v20, evS_set0, evS_setL0, evS_set1, evS_setL1, evS_set2, evS_setL2, evS_set3, evS_setL3, evS_set4, evS_setL4, evS_set5, evS_setL5, evS_set6, evS_setL6, evS_set7, evS_setL7, evS_set8, evS_setL8, evS_set9, evS_setL9, evS_set10, evS_setL10, evS_set11, evS_setL11, evS_set12, evS_setL12, evS_set13, evS_setL13, evS_set14, evS_setL14, evS_set15, evS_setL15, evS_set16, evS_setL16, evS_set17, evS_setL17, evS_set18, evS_setL18, evS_set19, evS_setL19, evS_set20, evS_setL20, evS_app0, evS_frz0, evS_frs0, evE_ixo0, evS_aug0, evS_app1, evS_frz1, evS_frs1, evE_ixo1, evS_aug1, evS_app2, evS_frz2, evS_frs2, evE_ixo2, evS_aug2, evS_app3, evS_frz3, evS_frs3, evE_ixo3, evS_aug3, evS_app4, evS_frz4, evS_frs4, evE_ixo4, evS_aug4, evS_app5, evS_frz5, evS_frs5, evE_ixo5, evS_aug5, evS_app6, evS_frz6, evS_frs6, evE_ixo6, evS_aug6, evS_app7, evS_frz7, evS_frs7, evE_ixo7, evS_aug7, evS_app8, evS_frz8, evS_frs8, evE_ixo8, evS_aug8, evS_app9, evS_frz9, evS_frs9, evE_ixo9, evS_aug9, evS_app10, evS_frz10, evS_frs10, evE_ixo10, evS_aug10, evS_app11, evS_frz11, evS_frs11, evE_ixo11, evS_aug11, evS_app12, evS_frz12, evS_frs12, evE_ixo12, evS_aug12, evS_app13, evS_frz13, evS_frs13, evE_ixo13, evS_aug13, evS_app14, evS_frz14, evS_frs14, evE_ixo14, evS_aug14, evS_app15, evS_frz15, evS_frs15, evE_ixo15, evS_aug15, evS_app16, evS_frz16, evS_frs16, evE_ixo16, evS_aug16, evS_pass, evE_ife, ifE_t, ifE_f, it_rng1, it_rng2, c_isnN, c_isnI, c_isN, c_isI, c_isnL, c_isnT, c_isL, c_isT, o_band, o_shr, len_t0, tup_t, call_8, call_9, call_10, call_11, call_12, rb_ok, rb_bad, rb_exc, ra_ok, ra_bad, ra_exc, ft_nx, ft_rt, ft_bad, ft_xc, List.set_cons_zero, List.set_cons_succ, List.nil_append, List.cons_append, Bool.not_true, Bool.not_false, decide_true, decide_false, eq_self, Int.reduceEq, Bool.false_or, Bool.or_false, Bool.true_or, Bool.or_true, Bool.true_and, Bool.and_true, Bool.false_and, Bool.and_false, Bool.or_self, Bool.and_self, e, X, d, w_ints4, decide_true]
/-! ### helpers -/
theorem w_fit (b : Int) (ps : List Int) : sem__law_fit [.list (ps.map .int), .int b] = .ok (.bool (ps.all fun p => decide (Int.gcd p b = 1))) := by
  have loop : ∀ (qs : List Int) (d x : D) (y : Option Sl), forL (fun d ρ => evSs G__law_fit w1__law_fit (ρ.set 2 (some (.sh d)))) (qs.map PyData.int) [some (.sh x), some (.sh (.int b)), y] =
      (if qs.all fun p => decide (Int.gcd p b = 1) then .nx [some (.sh x), some (.sh (.int b)), (if qs = [] then y else some (.sh (.int (qs.getLastD 0))))] else .rt (.bool false)) := by
    intro qs
    induction qs with
    | nil => intro d x y; rfl
    | cons p qs ih =>
      intro d x y
      rw [List.map_cons, forL_cons]
      show (evSs G__law_fit w1__law_fit [some (.sh x), some (.sh (.int b)), some (.sh (.int p))]).then _ = _
      by_cases t : Int.gcd p b = 1
      · have e : evSs G__law_fit w1__law_fit [some (.sh x), some (.sh (.int b)), some (.sh (.int p))] = .nx [some (.sh x), some (.sh (.int b)), some (.sh (.int p))] := by
          unfold w1__law_fit G__law_fit
          simp (disch := first | exact mulOk_bd | assumption | omega) only [evE_v0, evE_v1, evE_v2, evE_v3, evE_v4, evE_v5, evE_v6, evE_v7, evE_v8, evE_v9, evE_v10, evE_int, evE_bl, evE_non, evE_str, evE_bin, evE_neg, evE_not, evE_cmp, evE_tup, evE_lst, evE_ix, evE_call, evE_bi, evE_sl, evE_isi, andB_t, andB_f, orB_t, orB_f, andB_b, orB_b, evE_and, evE_or, evAnd_one, evOr_one, evAnd_two, evOr_two, evEs_nil, evEs_cons, evSs_nil, evSs_cons, evS_ex, evS_ret, ifB_t, ifB_f, evS_ife, evS_raise, evS_for, seq_t, seq_l, it_seq, ans_nx, ans_rt, ans_xc, forL_nil, forL_cons, ix_t0, ix_t1, ix_t2, ix_t3, o_add, o_sub, o_mul, o_fdiv, o_mod, o_neg, o_not, c_lt, c_le, c_gt, c_ge, c_eq, c_ne, c_eq2, c_ne2, c_eq3, c_ne3, c_is, c_isnot, isi_tt, isi_lt, isi_it, isi_ii, isi_ib, isi_ll, len_t1, len_t2, len_t3, len_t4, len_l, abs_i, tup_l, part_0, part_1, sl_l, call_0, call_1, call_2, call_3, call_4, call_5, call_6, call_7, glob_0, glob_1, glob_2, evE_v11, evE_v12, evE_v13, evE_v14, evE_v15, evE_v16, evE_v17, evE_v18, evE_v19, evE_v20, evS_set0, evS_setL0, evS_set1, evS_setL1, evS_set2, evS_setL2, evS_set3, evS_setL3, evS_set4, evS_setL4, evS_set5, evS_setL5, evS_set6, evS_setL6, evS_set7, evS_setL7, evS_set8, evS_setL8, evS_set9, evS_setL9, evS_set10, evS_setL10, evS_set11, evS_setL11, evS_set12, evS_setL12, evS_set13, evS_setL13, evS_set14, evS_setL14, evS_set15, evS_setL15, evS_set16, evS_setL16, evS_set17, evS_setL17, evS_set18, evS_setL18, evS_set19, evS_setL19, evS_set20, evS_setL20, evS_app0, evS_frz0, evS_frs0, evE_ixo0, evS_aug0, evS_app1, evS_frz1, evS_frs1, evE_ixo1, evS_aug1, evS_app2, evS_frz2, evS_frs2, evE_ixo2, evS_aug2, evS_app3, evS_frz3, evS_frs3, evE_ixo3, evS_aug3, evS_app4, evS_frz4, evS_frs4, evE_ixo4, evS_aug4, evS_app5, evS_frz5, evS_frs5, evE_ixo5, evS_aug5, evS_app6, evS_frz6, evS_frs6, evE_ixo6, evS_aug6, evS_app7, evS_frz7, evS_frs7, evE_ixo7, evS_aug7, evS_app8, evS_frz8, evS_frs8, evE_ixo8, evS_aug8, evS_app9, evS_frz9, evS_frs9, evE_ixo9, evS_aug9, evS_app10, evS_frz10, evS_frs10, evE_ixo10, evS_aug10, evS_app11, evS_frz11, evS_frs11, evE_ixo11, evS_aug11, evS_app12, evS_frz12, evS_frs12, evE_ixo12, evS_aug12, evS_app13, evS_frz13, evS_frs13, evE_ixo13, evS_aug13, evS_app14, evS_frz14, evS_frs14, evE_ixo14, evS_aug14, evS_app15, evS_frz15, evS_frs15, evE_ixo15, evS_aug15, evS_app16, evS_frz16, evS_frs16, evE_ixo16, evS_aug16, evS_pass, evE_ife, ifE_t, ifE_f, it_rng1, it_rng2, c_isnN, c_isnI, c_isN, c_isI, c_isnL, c_isnT, c_isL, c_isT, o_band, o_shr, len_t0, tup_t, call_8, call_9, call_10, call_11, call_12, rb_ok, rb_bad, rb_exc, ra_ok, ra_bad, ra_exc, ft_nx, ft_rt, ft_bad, ft_xc, List.set_cons_zero, List.set_cons_succ, List.nil_append, List.cons_append, Bool.not_true, Bool.not_false, decide_true, decide_false, eq_self, Int.reduceEq, Bool.false_or, Bool.or_false, Bool.true_or, Bool.or_true, Bool.true_and, Bool.and_true, Bool.false_and, Bool.and_false, Bool.or_self, Bool.and_self, w_divisor p b, t, show ((1 : Nat) : Int) = 1 from rfl]
        rw [e, ft_nx, ih d x]
        rw [List.all_cons, decide_eq_true t, Bool.true_and]
        by_cases t2 : (qs.all fun p => decide (Int.gcd p b = 1)) = true
        · rw [if_pos t2, if_pos t2]
          cases qs <;> rfl
        · rw [if_neg t2, if_neg t2]
      · have t1 : ¬ ((Int.gcd p b : Nat) : Int) = 1 := by omega
        have e : evSs G__law_fit w1__law_fit [some (.sh x), some (.sh (.int b)), some (.sh (.int p))] = .rt (.bool false) := by
          unfold w1__law_fit G__law_fit
          simp (disch := first | exact mulOk_bd | assumption | omega) only [evE_v0, evE_v1, evE_v2, evE_v3, evE_v4, evE_v5, evE_v6, evE_v7, evE_v8, evE_v9, evE_v10, evE_int, evE_bl, evE_non, evE_str, evE_bin, evE_neg, evE_not, evE_cmp, evE_tup, evE_lst, evE_ix, evE_call, evE_bi, evE_sl, evE_isi, andB_t, andB_f, orB_t, orB_f, andB_b, orB_b, evE_and, evE_or, evAnd_one, evOr_one, evAnd_two, evOr_two, evEs_nil, evEs_cons, evSs_nil, evSs_cons, evS_ex, evS_ret, ifB_t, ifB_f, evS_ife, evS_raise, evS_for, seq_t, seq_l, it_seq, ans_nx, ans_rt, ans_xc, forL_nil, forL_cons, ix_t0, ix_t1, ix_t2, ix_t3, o_add, o_sub, o_mul, o_fdiv, o_mod, o_neg, o_not, c_lt, c_le, c_gt, c_ge, c_eq, c_ne, c_eq2, c_ne2, c_eq3, c_ne3, c_is, c_isnot, isi_tt, isi_lt, isi_it, isi_ii, isi_ib, isi_ll, len_t1, len_t2, len_t3, len_t4, len_l, abs_i, tup_l, part_0, part_1, sl_l, call_0, call_1, call_2, call_3, call_4, call_5, call_6, call_7, glob_0, glob_1, glob_2, evE_v11, evE_v12, evE_v13, evE_v14, evE_v15, evE_v16, evE_v17, evE_v18, evE_v19, evE_v20, evS_set0, evS_setL0, evS_set1, evS_setL1, evS_set2, evS_setL2, evS_set3, evS_setL3, evS_set4, evS_setL4, evS_set5, evS_setL5, evS_set6, evS_setL6, evS_set7, evS_setL7, evS_set8, evS_setL8, evS_set9, evS_setL9, evS_set10, evS_setL10, evS_set11, evS_setL11, evS_set12, evS_setL12, evS_set13, evS_setL13, evS_set14, evS_setL14, evS_set15, evS_setL15, evS_set16, evS_setL16, evS_set17, evS_setL17, evS_set18, evS_setL18, evS_set19, evS_setL19, evS_set20, evS_setL20, evS_app0, evS_frz0, evS_frs0, evE_ixo0, evS_aug0, evS_app1, evS_frz1, evS_frs1, evE_ixo1, evS_aug1, evS_app2, evS_frz2, evS_frs2, evE_ixo2, evS_aug2, evS_app3, evS_frz3, evS_frs3, evE_ixo3, evS_aug3, evS_app4, evS_frz4, evS_frs4, evE_ixo4, evS_aug4, evS_app5, evS_frz5, evS_frs5, evE_ixo5, evS_aug5, evS_app6, evS_frz6, evS_frs6, evE_ixo6, evS_aug6, evS_app7, evS_frz7, evS_frs7, evE_ixo7, evS_aug7, evS_app8, evS_frz8, evS_frs8, evE_ixo8, evS_aug8, evS_app9, evS_frz9, evS_frs9, evE_ixo9, evS_aug9, evS_app10, evS_frz10, evS_frs10, evE_ixo10, evS_aug10, evS_app11, evS_frz11, evS_frs11, evE_ixo11, evS_aug11, evS_app12, evS_frz12, evS_frs12, evE_ixo12, evS_aug12, evS_app13, evS_frz13, evS_frs13, evE_ixo13, evS_aug13, evS_app14, evS_frz14, evS_frs14, evE_ixo14, evS_aug14, evS_app15, evS_frz15, evS_frs15, evE_ixo15, evS_aug15, evS_app16, evS_frz16, evS_frs16, evE_ixo16, evS_aug16, evS_pass, evE_ife, ifE_t, ifE_f, it_rng1, it_rng2, c_isnN, c_isnI, c_isN, c_isI, c_isnL, c_isnT, c_isL, c_isT, o_band, o_shr, len_t0, tup_t, call_8, call_9, call_10, call_11, call_12, rb_ok, rb_bad, rb_exc, ra_ok, ra_bad, ra_exc, ft_nx, ft_rt, ft_bad, ft_xc, List.set_cons_zero, List.set_cons_succ, List.nil_append, List.cons_append, Bool.not_true, Bool.not_false, decide_true, decide_false, eq_self, Int.reduceEq, Bool.false_or, Bool.or_false, Bool.true_or, Bool.or_true, Bool.true_and, Bool.and_true, Bool.false_and, Bool.and_false, Bool.or_self, Bool.and_self, w_divisor p b, decide_eq_false t1]
        rw [e, ft_rt]
        rw [List.all_cons, decide_eq_false t, Bool.false_and]
        rfl
  show (evSs G__law_fit b__law_fit [some (.sh _), some (.sh _), none]).ans = _
  have l := loop ps .none (.list (ps.map .int)) none
  unfold b__law_fit
  by_cases t2 : (ps.all fun p => decide (Int.gcd p b = 1)) = true
  · rw [if_pos t2] at l
    simp (disch := first | exact mulOk_bd | assumption | omega) only [evE_v0, evE_v1, evE_v2, evE_v3, evE_v4, evE_v5, evE_v6, evE_v7, evE_v8, evE_v9, evE_v10, evE_int, evE_bl, evE_non, evE_str, evE_bin, evE_neg, evE_not, evE_cmp, evE_tup, evE_lst, evE_ix, evE_call, evE_bi, evE_sl, evE_isi, andB_t, andB_f, orB_t, orB_f, andB_b, orB_b, evE_and, evE_or, evAnd_one, evOr_one, evAnd_two, evOr_two, evEs_nil, evEs_cons, evSs_nil, evSs_cons, evS_ex, evS_ret, ifB_t, ifB_f, evS_ife, evS_raise, evS_for, seq_t, seq_l, it_seq, ans_nx, ans_rt, ans_xc, forL_nil, forL_cons, ix_t0, ix_t1, ix_t2, ix_t3, o_add, o_sub, o_mul, o_fdiv, o_mod, o_neg, o_not, c_lt, c_le, c_gt, c_ge, c_eq, c_ne, c_eq2, c_ne2, c_eq3, c_ne3, c_is, c_isnot, isi_tt, isi_lt, isi_it, isi_ii, isi_ib, isi_ll, len_t1, len_t2, len_t3, len_t4, len_l, abs_i, tup_l, part_0, part_1, sl_l, call_0, call_1, call_2, call_3, call_4, call_5, call_6, call_7, glob_0, glob_1, glob_2, evE_v11, evE_v12, evE_v13, evE_v14, evE_v15, evE_v16, evE_v17, evE_v18, evE_v19, evE_v20, evS_set0, evS_setL0, evS_set1, evS_setL1, evS_set2, evS_setL2, evS_set3, evS_setL3, evS_set4, evS_setL4, evS_set5, evS_setL5, evS_set6, evS_setL6, evS_set7, evS_setL7, evS_set8, evS_setL8, evS_set9, evS_setL9, evS_set10, evS_setL10, evS_set11, evS_setL11, evS_set12, evS_setL12, evS_set13, evS_setL13, evS_set14, evS_setL14, evS_set15, evS_setL15, evS_set16, evS_setL16, evS_set17, evS_setL17, evS_set18, evS_setL18, evS_set19, evS_setL19, evS_set20, evS_setL20, evS_app0, evS_frz0, evS_frs0, evE_ixo0, evS_aug0, evS_app1, evS_frz1, evS_frs1, evE_ixo1, evS_aug1, evS_app2, evS_frz2, evS_frs2, evE_ixo2, evS_aug2, evS_app3, evS_frz3, evS_frs3, evE_ixo3, evS_aug3, evS_app4, evS_frz4, evS_frs4, evE_ixo4, evS_aug4, evS_app5, evS_frz5, evS_frs5, evE_ixo5, evS_aug5, evS_app6, evS_frz6, evS_frs6, evE_ixo6, evS_aug6, evS_app7, evS_frz7, evS_frs7, evE_ixo7, evS_aug7, evS_app8, evS_frz8, evS_frs8, evE_ixo8, evS_aug8, evS_app9, evS_frz9, evS_frs9, evE_ixo9, evS_aug9, evS_app10, evS_frz10, evS_frs10, evE_ixo10, evS_aug10, evS_app11, evS_frz11, evS_frs11, evE_ixo11, evS_aug11, evS_app12, evS_frz12, evS_frs12, evE_ixo12, evS_aug12, evS_app13, evS_frz13, evS_frs13, evE_ixo13, evS_aug13, evS_app14, evS_frz14, evS_frs14, evE_ixo14, evS_aug14, evS_app15, evS_frz15, evS_frs15, evE_ixo15, evS_aug15, evS_app16, evS_frz16, evS_frs16, evE_ixo16, evS_aug16, evS_pass, evE_ife, ifE_t, ifE_f, it_rng1, it_rng2, c_isnN, c_isnI, c_isN, c_isI, c_isnL, c_isnT, c_isL, c_isT, o_band, o_shr, len_t0, tup_t, call_8, call_9, call_10, call_11, call_12, rb_ok, rb_bad, rb_exc, ra_ok, ra_bad, ra_exc, ft_nx, ft_rt, ft_bad, ft_xc, List.set_cons_zero, List.set_cons_succ, List.nil_append, List.cons_append, Bool.not_true, Bool.not_false, decide_true, decide_false, eq_self, Int.reduceEq, Bool.false_or, Bool.or_false, Bool.true_or, Bool.or_true, Bool.true_and, Bool.and_true, Bool.false_and, Bool.and_false, Bool.or_self, Bool.and_self, l, t2]
  · rw [if_neg t2] at l
    simp (disch := first | exact mulOk_bd | assumption | omega) only [evE_v0, evE_v1, evE_v2, evE_v3, evE_v4, evE_v5, evE_v6, evE_v7, evE_v8, evE_v9, evE_v10, evE_int, evE_bl, evE_non, evE_str, evE_bin, evE_neg, evE_not, evE_cmp, evE_tup, evE_lst, evE_ix, evE_call, evE_bi, evE_sl, evE_isi, andB_t, andB_f, orB_t, orB_f, andB_b, orB_b, evE_and, evE_or, evAnd_one, evOr_one, evAnd_two, evOr_two, evEs_nil, evEs_cons, evSs_nil, evSs_cons, evS_ex, evS_ret, ifB_t, ifB_f, evS_ife, evS_raise, evS_for, seq_t, seq_l, it_seq, ans_nx, ans_rt, ans_xc, forL_nil, forL_cons, ix_t0, ix_t1, ix_t2, ix_t3, o_add, o_sub, o_mul, o_fdiv, o_mod, o_neg, o_not, c_lt, c_le, c_gt, c_ge, c_eq, c_ne, c_eq2, c_ne2, c_eq3, c_ne3, c_is, c_isnot, isi_tt, isi_lt, isi_it, isi_ii, isi_ib, isi_ll, len_t1, len_t2, len_t3, len_t4, len_l, abs_i, tup_l, part_0, part_1, sl_l, call_0, call_1, call_2, call_3, call_4, call_5, call_6, call_7, glob_0, glob_1, glob_2, evE_v11, evE_v12, evE_v13, evE_v14, evE_v15, evE_v16, evE_v17, evE_v18, evE_v19, evE_v20, evS_set0, evS_setL0, evS_set1, evS_setL1, evS_set2, evS_setL2, evS_set3, evS_setL3, evS_set4, evS_setL4, evS_set5, evS_setL5, evS_set6, evS_setL6, evS_set7, evS_setL7, evS_set8, evS_setL8, evS_set9, evS_setL9, evS_set10, evS_setL10, evS_set11, evS_setL11, evS_set12, evS_setL12, evS_set13, evS_setL13, evS_set14, evS_setL14, evS_set15, evS_setL15, evS_set16, evS_setL16, evS_set17, evS_setL17, evS_set18, evS_setL18, evS_set19, evS_setL19, evS_set20, evS_setL20, evS_app0, evS_frz0, evS_frs0, evE_ixo0, evS_aug0, evS_app1, evS_frz1, evS_frs1, evE_ixo1, evS_aug1, evS_app2, evS_frz2, evS_frs2, evE_ixo2, evS_aug2, evS_app3, evS_frz3, evS_frs3, evE_ixo3, evS_aug3, evS_app4, evS_frz4, evS_frs4, evE_ixo4, evS_aug4, evS_app5, evS_frz5, evS_frs5, evE_ixo5, evS_aug5, evS_app6, evS_frz6, evS_frs6, evE_ixo6, evS_aug6, evS_app7, evS_frz7, evS_frs7, evE_ixo7, evS_aug7, evS_app8, evS_frz8, evS_frs8, evE_ixo8, evS_aug8, evS_app9, evS_frz9, evS_frs9, evE_ixo9, evS_aug9, evS_app10, evS_frz10, evS_frs10, evE_ixo10, evS_aug10, evS_app11, evS_frz11, evS_frs11, evE_ixo11, evS_aug11, evS_app12, evS_frz12, evS_frs12, evE_ixo12, evS_aug12, evS_app13, evS_frz13, evS_frs13, evE_ixo13, evS_aug13, evS_app14, evS_frz14, evS_frs14, evE_ixo14, evS_aug14, evS_app15, evS_frz15, evS_frs15, evE_ixo15, evS_aug15, evS_app16, evS_frz16, evS_frs16, evE_ixo16, evS_aug16, evS_pass, evE_ife, ifE_t, ifE_f, it_rng1, it_rng2, c_isnN, c_isnI, c_isN, c_isI, c_isnL, c_isnT, c_isL, c_isT, o_band, o_shr, len_t0, tup_t, call_8, call_9, call_10, call_11, call_12, rb_ok, rb_bad, rb_exc, ra_ok, ra_bad, ra_exc, ft_nx, ft_rt, ft_bad, ft_xc, List.set_cons_zero, List.set_cons_succ, List.nil_append, List.cons_append, Bool.not_true, Bool.not_false, decide_true, decide_false, eq_self, Int.reduceEq, Bool.false_or, Bool.or_false, Bool.true_or, Bool.or_true, Bool.true_and, Bool.and_true, Bool.false_and, Bool.and_false, Bool.or_self, Bool.and_self, l, Bool.eq_false_iff.mpr t2]
theorem w_middle (ps : List Int) (b : Int) {n : Nat} (Bb : Bd n b) : ∃ B, sem__law_middle [.list (ps.map .int), .int b] = .ok (.int B) ∧ (∀ p ∈ ps, Int.gcd p B = 1) ∧ Bd (max n 7 + 1) B := by
  have loop : ∀ (ks : List Nat) (y : Option Sl), (∀ k ∈ ks, k < 100) → (∃ B, forL (fun d ρ => evSs G__law_middle w1__law_middle (ρ.set 2 (some (.sh d)))) (ks.map fun (k : Nat) => PyData.int (k : Int)) [some (.sh (.list (ps.map .int))), some (.sh (.int b)), y] = .rt (.int B) ∧ (∀ p ∈ ps, Int.gcd p B = 1) ∧ Bd (max n 7 + 1) B) ∨
      (∃ y', forL (fun d ρ => evSs G__law_middle w1__law_middle (ρ.set 2 (some (.sh d)))) (ks.map fun (k : Nat) => PyData.int (k : Int)) [some (.sh (.list (ps.map .int))), some (.sh (.int b)), y] = .nx [some (.sh (.list (ps.map .int))), some (.sh (.int b)), y']) := by
    intro ks
    induction ks with
    | nil => intro y _; exact .inr ⟨y, rfl⟩
    | cons k ks ih =>
      intro y hk
      rw [List.map_cons, forL_cons]
      have f := w_fit (b + k) ps
      by_cases t2 : (ps.all fun p => decide (Int.gcd p (b + k) = 1)) = true
      · rw [t2] at f
        have e : evSs G__law_middle w1__law_middle [some (.sh (.list (ps.map .int))), some (.sh (.int b)), some (.sh (.int k))] = .rt (.int (b + k)) := by
          unfold w1__law_middle G__law_middle
          simp (disch := first | exact mulOk_bd | assumption | omega) only [evE_v0, evE_v1, evE_v2, evE_v3, evE_v4, evE_v5, evE_v6, evE_v7, evE_v8, evE_v9, evE_v10, evE_int, evE_bl, evE_non, evE_str, evE_bin, evE_neg, evE_not, evE_cmp, evE_tup, evE_lst, evE_ix, evE_call, evE_bi, evE_sl, evE_isi, andB_t, andB_f, orB_t, orB_f, andB_b, orB_b, evE_and, evE_or, evAnd_one, evOr_one, evAnd_two, evOr_two, evEs_nil, evEs_cons, evSs_nil, evSs_cons, evS_ex, evS_ret, ifB_t, ifB_f, evS_ife, evS_raise, evS_for, seq_t, seq_l, it_seq, ans_nx, ans_rt, ans_xc, forL_nil, forL_cons, ix_t0, ix_t1, ix_t2, ix_t3, o_add, o_sub, o_mul, o_fdiv, o_mod, o_neg, o_not, c_lt, c_le, c_gt, c_ge, c_eq, c_ne, c_eq2, c_ne2, c_eq3, c_ne3, c_is, c_isnot, isi_tt, isi_lt, isi_it, isi_ii, isi_ib, isi_ll, len_t1, len_t2, len_t3, len_t4, len_l, abs_i, tup_l, part_0, part_1, sl_l, call_0, call_1, call_2, call_3, call_4, call_5, call_6, call_7, glob_0, glob_1, glob_2, evE_v11, evE_v12, evE_v13, evE_v14, evE_v15, evE_v16, evE_v17, evE_v18, evE_v19, evE_v20, evS_set0, evS_setL0, evS_set1, evS_setL1, evS_set2, evS_setL2, evS_set3, evS_setL3, evS_set4, evS_setL4, evS_set5, evS_setL5, evS_set6, evS_setL6, evS_set7, evS_setL7, evS_set8, evS_setL8, evS_set9, evS_setL9, evS_set10, evS_setL10, evS_set11, evS_setL11, evS_set12, evS_setL12, evS_set13, evS_setL13, evS_set14, evS_setL14, evS_set15, evS_setL15, evS_set16, evS_setL16, evS_set17, evS_setL17, evS_set18, evS_setL18, evS_set19, evS_setL19, evS_set20, evS_setL20, evS_app0, evS_frz0, evS_frs0, evE_ixo0, evS_aug0, evS_app1, evS_frz1, evS_frs1, evE_ixo1, evS_aug1, evS_app2, evS_frz2, evS_frs2, evE_ixo2, evS_aug2, evS_app3, evS_frz3, evS_frs3, evE_ixo3, evS_aug3, evS_app4, evS_frz4, evS_frs4, evE_ixo4, evS_aug4, evS_app5, evS_frz5, evS_frs5, evE_ixo5, evS_aug5, evS_app6, evS_frz6, evS_frs6, evE_ixo6, evS_aug6, evS_app7, evS_frz7, evS_frs7, evE_ixo7, evS_aug7, evS_app8, evS_frz8, evS_frs8, evE_ixo8, evS_aug8, evS_app9, evS_frz9, evS_frs9, evE_ixo9, evS_aug9, evS_app10, evS_frz10, evS_frs10, evE_ixo10, evS_aug10, evS_app11, evS_frz11, evS_frs11, evE_ixo11, evS_aug11, evS_app12, evS_frz12, evS_frs12, evE_ixo12, evS_aug12, evS_app13, evS_frz13, evS_frs13, evE_ixo13, evS_aug13, evS_app14, evS_frz14, evS_frs14, evE_ixo14, evS_aug14, evS_app15, evS_frz15, evS_frs15, evE_ixo15, evS_aug15, evS_app16, evS_frz16, evS_frs16, evE_ixo16, evS_aug16, evS_pass, evE_ife, ifE_t, ifE_f, it_rng1, it_rng2, c_isnN, c_isnI, c_isN, c_isI, c_isnL, c_isnT, c_isL, c_isT, o_band, o_shr, len_t0, tup_t, call_8, call_9, call_10, call_11, call_12, rb_ok, rb_bad, rb_exc, ra_ok, ra_bad, ra_exc, ft_nx, ft_rt, ft_bad, ft_xc, List.set_cons_zero, List.set_cons_succ, List.nil_append, List.cons_append, Bool.not_true, Bool.not_false, decide_true, decide_false, eq_self, Int.reduceEq, Bool.false_or, Bool.or_false, Bool.true_or, Bool.or_true, Bool.true_and, Bool.and_true, Bool.false_and, Bool.and_false, Bool.or_self, Bool.and_self, f]
        refine .inl ⟨b + k, ?_, ?_, ?_⟩
        · show (evSs G__law_middle w1__law_middle [some (.sh (.list (ps.map .int))), some (.sh (.int b)), some (.sh (.int k))]).then _ = _
          rw [e]
          rfl
        · intro p hp
          exact of_decide_eq_true (List.all_eq_true.mp t2 p hp)
        · have l := hk k List.mem_cons_self
          have : Bd 7 (k : Int) := Bd.of_lt (by omega) (by omega)
          exact Bd.add
      · rw [Bool.eq_false_iff.mpr t2] at f
        have e : evSs G__law_middle w1__law_middle [some (.sh (.list (ps.map .int))), some (.sh (.int b)), some (.sh (.int k))] = .nx [some (.sh (.list (ps.map .int))), some (.sh (.int b)), some (.sh (.int k))] := by
          unfold w1__law_middle G__law_middle
          simp (disch := first | exact mulOk_bd | assumption | omega) only [evE_v0, evE_v1, evE_v2, evE_v3, evE_v4, evE_v5, evE_v6, evE_v7, evE_v8, evE_v9, evE_v10, evE_int, evE_bl, evE_non, evE_str, evE_bin, evE_neg, evE_not, evE_cmp, evE_tup, evE_lst, evE_ix, evE_call, evE_bi, evE_sl, evE_isi, andB_t, andB_f, orB_t, orB_f, andB_b, orB_b, evE_and, evE_or, evAnd_one, evOr_one, evAnd_two, evOr_two, evEs_nil, evEs_cons, evSs_nil, evSs_cons, evS_ex, evS_ret, ifB_t, ifB_f, evS_ife, evS_raise, evS_for, seq_t, seq_l, it_seq, ans_nx, ans_rt, ans_xc, forL_nil, forL_cons, ix_t0, ix_t1, ix_t2, ix_t3, o_add, o_sub, o_mul, o_fdiv, o_mod, o_neg, o_not, c_lt, c_le, c_gt, c_ge, c_eq, c_ne, c_eq2, c_ne2, c_eq3, c_ne3, c_is, c_isnot, isi_tt, isi_lt, isi_it, isi_ii, isi_ib, isi_ll, len_t1, len_t2, len_t3, len_t4, len_l, abs_i, tup_l, part_0, part_1, sl_l, call_0, call_1, call_2, call_3, call_4, call_5, call_6, call_7, glob_0, glob_1, glob_2, evE_v11, evE_v12, evE_v13, evE_v14, evE_v15, evE_v16, evE_v17, evE_v18, evE_v19, evE_v20, evS_set0, evS_setL0, evS_set1, evS_setL1, evS_set2, evS_setL2, evS_set3, evS_setL3, evS_set4, evS_setL4, evS_set5, evS_setL5, evS_set6, evS_setL6, evS_set7, evS_setL7, evS_set8, evS_setL8, evS_set9, evS_setL9, evS_set10, evS_setL10, evS_set11, evS_setL11, evS_set12, evS_setL12, evS_set13, evS_setL13, evS_set14, evS_setL14, evS_set15, evS_setL15, evS_set16, evS_setL16, evS_set17, evS_setL17, evS_set18, evS_setL18, evS_set19, evS_setL19, evS_set20, evS_setL20, evS_app0, evS_frz0, evS_frs0, evE_ixo0, evS_aug0, evS_app1, evS_frz1, evS_frs1, evE_ixo1, evS_aug1, evS_app2, evS_frz2, evS_frs2, evE_ixo2, evS_aug2, evS_app3, evS_frz3, evS_frs3, evE_ixo3, evS_aug3, evS_app4, evS_frz4, evS_frs4, evE_ixo4, evS_aug4, evS_app5, evS_frz5, evS_frs5, evE_ixo5, evS_aug5, evS_app6, evS_frz6, evS_frs6, evE_ixo6, evS_aug6, evS_app7, evS_frz7, evS_frs7, evE_ixo7, evS_aug7, evS_app8, evS_frz8, evS_frs8, evE_ixo8, evS_aug8, evS_app9, evS_frz9, evS_frs9, evE_ixo9, evS_aug9, evS_app10, evS_frz10, evS_frs10, evE_ixo10, evS_aug10, evS_app11, evS_frz11, evS_frs11, evE_ixo11, evS_aug11, evS_app12, evS_frz12, evS_frs12, evE_ixo12, evS_aug12, evS_app13, evS_frz13, evS_frs13, evE_ixo13, evS_aug13, evS_app14, evS_frz14, evS_frs14, evE_ixo14, evS_aug14, evS_app15, evS_frz15, evS_frs15, evE_ixo15, evS_aug15, evS_app16, evS_frz16, evS_frs16, evE_ixo16, evS_aug16, evS_pass, evE_ife, ifE_t, ifE_f, it_rng1, it_rng2, c_isnN, c_isnI, c_isN, c_isI, c_isnL, c_isnT, c_isL, c_isT, o_band, o_shr, len_t0, tup_t, call_8, call_9, call_10, call_11, call_12, rb_ok, rb_bad, rb_exc, ra_ok, ra_bad, ra_exc, ft_nx, ft_rt, ft_bad, ft_xc, List.set_cons_zero, List.set_cons_succ, List.nil_append, List.cons_append, Bool.not_true, Bool.not_false, decide_true, decide_false, eq_self, Int.reduceEq, Bool.false_or, Bool.or_false, Bool.true_or, Bool.or_true, Bool.true_and, Bool.and_true, Bool.false_and, Bool.and_false, Bool.or_self, Bool.and_self, f]
        have r := ih (some (.sh (.int k))) fun k' h => hk k' (List.mem_cons_of_mem _ h)
        show (∃ B, (evSs G__law_middle w1__law_middle [some (.sh (.list (ps.map .int))), some (.sh (.int b)), some (.sh (.int k))]).then _ = _ ∧ _) ∨ (∃ y', (evSs G__law_middle w1__law_middle [some (.sh (.list (ps.map .int))), some (.sh (.int b)), some (.sh (.int k))]).then _ = _)
        rw [e]
        exact r
  have r40 := rngD_ok (j := 40) (by decide) (by decide)
  show ∃ B, (evSs G__law_middle b__law_middle [some (.sh _), some (.sh _), none]).ans = _ ∧ _
  unfold b__law_middle
  have k40 : ∀ k ∈ List.range (40 : Int).toNat, k < 100 := fun k hk => by
    have := List.mem_range.mp hk
    have : (40 : Int).toNat = 40 := rfl
    omega
  rcases loop (List.range (40 : Int).toNat) none k40 with ⟨B, e, h1, h2⟩ | ⟨y', e⟩
  · refine ⟨B, ?_, h1, h2⟩
    simp (disch := first | exact mulOk_bd | assumption | omega) only [evE_v0, evE_v1, evE_v2, evE_v3, evE_v4, evE_v5, evE_v6, evE_v7, evE_v8, evE_v9, evE_v10, evE_int, evE_bl, evE_non, evE_str, evE_bin, evE_neg, evE_not, evE_cmp, evE_tup, evE_lst, evE_ix, evE_call, evE_bi, evE_sl, evE_isi, andB_t, andB_f, orB_t, orB_f, andB_b, orB_b, evE_and, evE_or, evAnd_one, evOr_one, evAnd_two, evOr_two, evEs_nil, evEs_cons, evSs_nil, evSs_cons, evS_ex, evS_ret, ifB_t, ifB_f, evS_ife, evS_raise, evS_for, seq_t, seq_l, it_seq, ans_nx, ans_rt, ans_xc, forL_nil, forL_cons, ix_t0, ix_t1, ix_t2, ix_t3, o_add, o_sub, o_mul, o_fdiv, o_mod, o_neg, o_not, c_lt, c_le, c_gt, c_ge, c_eq, c_ne, c_eq2, c_ne2, c_eq3, c_ne3, c_is, c_isnot, isi_tt, isi_lt, isi_it, isi_ii, isi_ib, isi_ll, len_t1, len_t2, len_t3, len_t4, len_l, abs_i, tup_l, part_0, part_1, sl_l, call_0, call_1, call_2, call_3, call_4, call_5, call_6, call_7, glob_0, glob_1, glob_2, evE_v11, evE_v12, evE_v13, evE_v14, evE_v15, evE_v16, evE_v17, evE_v18, evE_v19, evE_v20, evS_set0, evS_setL0, evS_set1, evS_setL1, evS_set2, evS_setL2, evS_set3, evS_setL3, evS_set4, evS_setL4, evS_set5, evS_setL5, evS_set6, evS_setL6, evS_set7, evS_setL7, evS_set8, evS_setL8, evS_set9, evS_setL9, evS_set10, evS_setL10, evS_set11, evS_setL11, evS_set12, evS_setL12, evS_set13, evS_setL13, evS_set14, evS_setL14, evS_set15, evS_setL15, evS_set16, evS_setL16, evS_set17, evS_setL17, evS_set18, evS_setL18, evS_set19, evS_setL19, evS_set20, evS_setL20, evS_app0, evS_frz0, evS_frs0, evE_ixo0, evS_aug0, evS_app1, evS_frz1, evS_frs1, evE_ixo1, evS_aug1, evS_app2, evS_frz2, evS_frs2, evE_ixo2, evS_aug2, evS_app3, evS_frz3, evS_frs3, evE_ixo3, evS_aug3, evS_app4, evS_frz4, evS_frs4, evE_ixo4, evS_aug4, evS_app5, evS_frz5, evS_frs5, evE_ixo5, evS_aug5, evS_app6, evS_frz6, evS_frs6, evE_ixo6, evS_aug6, evS_app7, evS_frz7, evS_frs7, evE_ixo7, evS_aug7, evS_app8, evS_frz8, evS_frs8, evE_ixo8, evS_aug8, evS_app9, evS_frz9, evS_frs9, evE_ixo9, evS_aug9, evS_app10, evS_frz10, evS_frs10, evE_ixo10, evS_aug10, evS_app11, evS_frz11, evS_frs11, evE_ixo11, evS_aug11, evS_app12, evS_frz12, evS_frs12, evE_ixo12, evS_aug12, evS_app13, evS_frz13, evS_frs13, evE_ixo13, evS_aug13, evS_app14, evS_frz14, evS_frs14, evE_ixo14, evS_aug14, evS_app15, evS_frz15, evS_frs15, evE_ixo15, evS_aug15, evS_app16, evS_frz16, evS_frs16, evE_ixo16, evS_aug16, evS_pass, evE_ife, ifE_t, ifE_f, it_rng1, it_rng2, c_isnN, c_isnI, c_isN, c_isI, c_isnL, c_isnT, c_isL, c_isT, o_band, o_shr, len_t0, tup_t, call_8, call_9, call_10, call_11, call_12, rb_ok, rb_bad, rb_exc, ra_ok, ra_bad, ra_exc, ft_nx, ft_rt, ft_bad, ft_xc, List.set_cons_zero, List.set_cons_succ, List.nil_append, List.cons_append, Bool.not_true, Bool.not_false, decide_true, decide_false, eq_self, Int.reduceEq, Bool.false_or, Bool.or_false, Bool.true_or, Bool.or_true, Bool.true_and, Bool.and_true, Bool.false_and, Bool.and_false, Bool.or_self, Bool.and_self, r40, e]
  · refine ⟨1, ?_, fun p _ => Int.gcd_one, Bd.get⟩
    simp (disch := first | exact mulOk_bd | assumption | omega) only [evE_v0, evE_v1, evE_v2, evE_v3, evE_v4, evE_v5, evE_v6, evE_v7, evE_v8, evE_v9, evE_v10, evE_int, evE_bl, evE_non, evE_str, evE_bin, evE_neg, evE_not, evE_cmp, evE_tup, evE_lst, evE_ix, evE_call, evE_bi, evE_sl, evE_isi, andB_t, andB_f, orB_t, orB_f, andB_b, orB_b, evE_and, evE_or, evAnd_one, evOr_one, evAnd_two, evOr_two, evEs_nil, evEs_cons, evSs_nil, evSs_cons, evS_ex, evS_ret, ifB_t, ifB_f, evS_ife, evS_raise, evS_for, seq_t, seq_l, it_seq, ans_nx, ans_rt, ans_xc, forL_nil, forL_cons, ix_t0, ix_t1, ix_t2, ix_t3, o_add, o_sub, o_mul, o_fdiv, o_mod, o_neg, o_not, c_lt, c_le, c_gt, c_ge, c_eq, c_ne, c_eq2, c_ne2, c_eq3, c_ne3, c_is, c_isnot, isi_tt, isi_lt, isi_it, isi_ii, isi_ib, isi_ll, len_t1, len_t2, len_t3, len_t4, len_l, abs_i, tup_l, part_0, part_1, sl_l, call_0, call_1, call_2, call_3, call_4, call_5, call_6, call_7, glob_0, glob_1, glob_2, evE_v11, evE_v12, evE_v13, evE_v14, evE_v15, evE_v16, evE_v17, evE_v18, evE_v19, evE_v20, evS_set0, evS_setL0, evS_set1, evS_setL1, evS_set2, evS_setL2, evS_set3, evS_setL3, evS_set4, evS_setL4, evS_set5, evS_setL5, evS_set6, evS_setL6, evS_set7, evS_setL7, evS_set8, evS_setL8, evS_set9, evS_setL9, evS_set10, evS_setL10, evS_set11, evS_setL11, evS_set12, evS_setL12, evS_set13, evS_setL13, evS_set14, evS_setL14, evS_set15, evS_setL15, evS_set16, evS_setL16, evS_set17, evS_setL17, evS_set18, evS_setL18, evS_set19, evS_setL19, evS_set20, evS_setL20, evS_app0, evS_frz0, evS_frs0, evE_ixo0, evS_aug0, evS_app1, evS_frz1, evS_frs1, evE_ixo1, evS_aug1, evS_app2, evS_frz2, evS_frs2, evE_ixo2, evS_aug2, evS_app3, evS_frz3, evS_frs3, evE_ixo3, evS_aug3, evS_app4, evS_frz4, evS_frs4, evE_ixo4, evS_aug4, evS_app5, evS_frz5, evS_frs5, evE_ixo5, evS_aug5, evS_app6, evS_frz6, evS_frs6, evE_ixo6, evS_aug6, evS_app7, evS_frz7, evS_frs7, evE_ixo7, evS_aug7, evS_app8, evS_frz8, evS_frs8, evE_ixo8, evS_aug8, evS_app9, evS_frz9, evS_frs9, evE_ixo9, evS_aug9, evS_app10, evS_frz10, evS_frs10, evE_ixo10, evS_aug10, evS_app11, evS_frz11, evS_frs11, evE_ixo11, evS_aug11, evS_app12, evS_frz12, evS_frs12, evE_ixo12, evS_aug12, evS_app13, evS_frz13, evS_frs13, evE_ixo13, evS_aug13, evS_app14, evS_frz14, evS_frs14, evE_ixo14, evS_aug14, evS_app15, evS_frz15, evS_frs15, evE_ixo15, evS_aug15, evS_app16, evS_frz16, evS_frs16, evE_ixo16, evS_aug16, evS_pass, evE_ife, ifE_t, ifE_f, it_rng1, it_rng2, c_isnN, c_isnI, c_isN, c_isI, c_isnL, c_isnT, c_isL, c_isT, o_band, o_shr, len_t0, tup_t, call_8, call_9, call_10, call_11, call_12, rb_ok, rb_bad, rb_exc, ra_ok, ra_bad, ra_exc, ft_nx, ft_rt, ft_bad, ft_xc, List.set_cons_zero, List.set_cons_succ, List.nil_append, List.cons_append, Bool.not_true, Bool.not_false, decide_true, decide_false, eq_self, Int.reduceEq, Bool.false_or, Bool.or_false, Bool.true_or, Bool.or_true, Bool.true_and, Bool.and_true, Bool.false_and, Bool.and_false, Bool.or_self, Bool.and_self, r40, e]
theorem w_last2 (a d b m : Int) {n1 n2 n3 : Nat} [Bd n1 a] [Bd n2 d] [Bd n3 b] (h : n1 + n2 + n3 ≤ 4000) (pa : 0 < a) (pd : 0 < d) : sem__law_last [.list [.int a, .int d], .int b, .int m] = .ok (.int (b * b / (4 * (1 * a * d)) + 1 + m)) := by
  show (evSs G__law_last b__law_last [some (.sh _), some (.sh _), some (.sh _), none, none]).ans = _
  unfold b__law_last w1__law_last
  have p : 0 < 1 * a * d := Int.mul_pos (by omega) pd
  have z : divOk (4 * (1 * a * d)) = true := divOk_bd (by omega)
  simp (disch := first | exact mulOk_bd | assumption | omega) only [evE_v0, evE_v1, evE_v2, evE_v3, evE_v4, evE_v5, evE_v6, evE_v7, evE_v8, evE_v9, evE_v10, evE_int, evE_bl, evE_non, evE_str, evE_bin, evE_neg, evE_not, evE_cmp, evE_tup, evE_lst, evE_ix, evE_call, evE_bi, evE_sl, evE_isi, andB_t, andB_f, orB_t, orB_f, andB_b, orB_b, evE_and, evE_or, evAnd_one, evOr_one, evAnd_two, evOr_two, evEs_nil, evEs_cons, evSs_nil, evSs_cons, evS_ex, evS_ret, ifB_t, ifB_f, evS_ife, evS_raise, evS_for, seq_t, seq_l, it_seq, ans_nx, ans_rt, ans_xc, forL_nil, forL_cons, ix_t0, ix_t1, ix_t2, ix_t3, o_add, o_sub, o_mul, o_fdiv, o_mod, o_neg, o_not, c_lt, c_le, c_gt, c_ge, c_eq, c_ne, c_eq2, c_ne2, c_eq3, c_ne3, c_is, c_isnot, isi_tt, isi_lt, isi_it, isi_ii, isi_ib, isi_ll, len_t1, len_t2, len_t3, len_t4, len_l, abs_i, tup_l, part_0, part_1, sl_l, call_0, call_1, call_2, call_3, call_4, call_5, call_6, call_7, glob_0, glob_1, glob_2, evE_v11, evE_v12, evE_v13, evE_v14, evE_v15, evE_v16, evE_v17, evE_v18, evE_v19, evE_v20, evS_set0, evS_setL0, evS_set1, evS_setL1, evS_set2, evS_setL2, evS_set3, evS_setL3, evS_set4, evS_setL4, evS_set5, evS_setL5, evS_set6, evS_setL6, evS_set7, evS_setL7, evS_set8, evS_setL8, evS_set9, evS_setL9, evS_set10, evS_setL10, evS_set11, evS_setL11, evS_set12, evS_setL12, evS_set13, evS_setL13, evS_set14, evS_setL14, evS_set15, evS_setL15, evS_set16, evS_setL16, evS_set17, evS_setL17, evS_set18, evS_setL18, evS_set19, evS_setL19, evS_set20, evS_setL20, evS_app0, evS_frz0, evS_frs0, evE_ixo0, evS_aug0, evS_app1, evS_frz1, evS_frs1, evE_ixo1, evS_aug1, evS_app2, evS_frz2, evS_frs2, evE_ixo2, evS_aug2, evS_app3, evS_frz3, evS_frs3, evE_ixo3, evS_aug3, evS_app4, evS_frz4, evS_frs4, evE_ixo4, evS_aug4, evS_app5, evS_frz5, evS_frs5, evE_ixo5, evS_aug5, evS_app6, evS_frz6, evS_frs6, evE_ixo6, evS_aug6, evS_app7, evS_frz7, evS_frs7, evE_ixo7, evS_aug7, evS_app8, evS_frz8, evS_frs8, evE_ixo8, evS_aug8, evS_app9, evS_frz9, evS_frs9, evE_ixo9, evS_aug9, evS_app10, evS_frz10, evS_frs10, evE_ixo10, evS_aug10, evS_app11, evS_frz11, evS_frs11, evE_ixo11, evS_aug11, evS_app12, evS_frz12, evS_frs12, evE_ixo12, evS_aug12, evS_app13, evS_frz13, evS_frs13, evE_ixo13, evS_aug13, evS_app14, evS_frz14, evS_frs14, evE_ixo14, evS_aug14, evS_app15, evS_frz15, evS_frs15, evE_ixo15, evS_aug15, evS_app16, evS_frz16, evS_frs16, evE_ixo16, evS_aug16, evS_pass, evE_ife, ifE_t, ifE_f, it_rng1, it_rng2, c_isnN, c_isnI, c_isN, c_isI, c_isnL, c_isnT, c_isL, c_isT, o_band, o_shr, len_t0, tup_t, call_8, call_9, call_10, call_11, call_12, rb_ok, rb_bad, rb_exc, ra_ok, ra_bad, ra_exc, ft_nx, ft_rt, ft_bad, ft_xc, List.set_cons_zero, List.set_cons_succ, List.nil_append, List.cons_append, Bool.not_true, Bool.not_false, decide_true, decide_false, eq_self, Int.reduceEq, Bool.false_or, Bool.or_false, Bool.true_or, Bool.or_true, Bool.true_and, Bool.and_true, Bool.false_and, Bool.and_false, Bool.or_self, Bool.and_self, o_fdiv z]
theorem w_last3 (a d c b m : Int) {n1 n2 n3 n4 : Nat} [Bd n1 a] [Bd n2 d] [Bd n3 b] [Bd n4 c] (h : n1 + n2 + n3 + n4 ≤ 4000) (pa : 0 < a) (pd : 0 < d) (pc : 0 < c) : sem__law_last [.list [.int a, .int d, .int c], .int b, .int m] = .ok (.int (b * b / (4 * (1 * a * d * c)) + 1 + m)) := by
  show (evSs G__law_last b__law_last [some (.sh _), some (.sh _), some (.sh _), none, none]).ans = _
  unfold b__law_last w1__law_last
  have p : 0 < 1 * a * d * c := Int.mul_pos (Int.mul_pos (by omega) pd) pc
  have z : divOk (4 * (1 * a * d * c)) = true := divOk_bd (by omega)
  simp (disch := first | exact mulOk_bd | assumption | omega) only [evE_v0, evE_v1, evE_v2, evE_v3, evE_v4, evE_v5, evE_v6, evE_v7, evE_v8, evE_v9, evE_v10, evE_int, evE_bl, evE_non, evE_str, evE_bin, evE_neg, evE_not, evE_cmp, evE_tup, evE_lst, evE_ix, evE_call, evE_bi, evE_sl, evE_isi, andB_t, andB_f, orB_t, orB_f, andB_b, orB_b, evE_and, evE_or, evAnd_one, evOr_one, evAnd_two, evOr_two, evEs_nil, evEs_cons, evSs_nil, evSs_cons, evS_ex, evS_ret, ifB_t, ifB_f, evS_ife, evS_raise, evS_for, seq_t, seq_l, it_seq, ans_nx, ans_rt, ans_xc, forL_nil, forL_cons, ix_t0, ix_t1, ix_t2, ix_t3, o_add, o_sub, o_mul, o_fdiv, o_mod, o_neg, o_not, c_lt, c_le, c_gt, c_ge, c_eq, c_ne, c_eq2, c_ne2, c_eq3, c_ne3, c_is, c_isnot, isi_tt, isi_lt, isi_it, isi_ii, isi_ib, isi_ll, len_t1, len_t2, len_t3, len_t4, len_l, abs_i, tup_l, part_0, part_1, sl_l, call_0, call_1, call_2, call_3, call_4, call_5, call_6, call_7, glob_0, glob_1, glob_2, evE_v11, evE_v12, evE_v13, evE_v14, evE_v15, evE_v16, evE_v17, evE_v18, evE_v19, evE_v20, evS_set0, evS_setL0, evS_set1, evS_setL1, evS_set2, evS_setL2, evS_set3, evS_setL3, evS_set4, evS_setL4, evS_set5, evS_setL5, evS_set6, evS_setL6, evS_set7, evS_setL7, evS_set8, evS_setL8, evS_set9, evS_setL9, evS_set10, evS_setL10, evS_set11, evS_setL11, evS_set12, evS_setL12, evS_set13, evS_setL13, evS_set14, evS_setL14, evS_set15, evS_setL15, evS_set16, evS_setL16, evS_set17, evS_setL17, evS_set18, evS_setL18, evS_set19, evS_setL19, evS_set20, evS_setL20, evS_app0, evS_frz0, evS_frs0, evE_ixo0, evS_aug0, evS_app1, evS_frz1, evS_frs1, evE_ixo1, evS_aug1, evS_app2, evS_frz2, evS_frs2, evE_ixo2, evS_aug2, evS_app3, evS_frz3, evS_frs3, evE_ixo3, evS_aug3, evS_app4, evS_frz4, evS_frs4, evE_ixo4, evS_aug4, evS_app5, evS_frz5, evS_frs5, evE_ixo5, evS_aug5, evS_app6, evS_frz6, evS_frs6, evE_ixo6, evS_aug6, evS_app7, evS_frz7, evS_frs7, evE_ixo7, evS_aug7, evS_app8, evS_frz8, evS_frs8, evE_ixo8, evS_aug8, evS_app9, evS_frz9, evS_frs9, evE_ixo9, evS_aug9, evS_app10, evS_frz10, evS_frs10, evE_ixo10, evS_aug10, evS_app11, evS_frz11, evS_frs11, evE_ixo11, evS_aug11, evS_app12, evS_frz12, evS_frs12, evE_ixo12, evS_aug12, evS_app13, evS_frz13, evS_frs13, evE_ixo13, evS_aug13, evS_app14, evS_frz14, evS_frs14, evE_ixo14, evS_aug14, evS_app15, evS_frz15, evS_frs15, evE_ixo15, evS_aug15, evS_app16, evS_frz16, evS_frs16, evE_ixo16, evS_aug16, evS_pass, evE_ife, ifE_t, ifE_f, it_rng1, it_rng2, c_isnN, c_isnI, c_isN, c_isI, c_isnL, c_isnT, c_isL, c_isT, o_band, o_shr, len_t0, tup_t, call_8, call_9, call_10, call_11, call_12, rb_ok, rb_bad, rb_exc, ra_ok, ra_bad, ra_exc, ft_nx, ft_rt, ft_bad, ft_xc, List.set_cons_zero, List.set_cons_succ, List.nil_append, List.cons_append, Bool.not_true, Bool.not_false, decide_true, decide_false, eq_self, Int.reduceEq, Bool.false_or, Bool.or_false, Bool.true_or, Bool.or_true, Bool.true_and, Bool.and_true, Bool.false_and, Bool.and_false, Bool.or_self, Bool.and_self, o_fdiv z]
/-- kept above nought -/
theorem last_ok {P b m : Int} (hP : 0 < P) (hm : 0 ≤ m) : b * b < 4 * P * (b * b / (4 * P) + 1 + m) := by
  have e1 := Int.emod_add_mul_ediv (b * b) (4 * P)
  have e2 := Int.emod_lt_of_pos (b * b) (show 0 < 4 * P by omega)
  have e3 : 0 ≤ 4 * P * m := Int.mul_nonneg (by omega) hm
  rw [Int.mul_add, Int.mul_add, Int.mul_one]
  omega
theorem cutN_le {ns : List Int} {lo : Option Int} {i : Int} (h : 0 ≤ i) : ((cutN ns lo (some i)).length : Int) ≤ i := by
  unfold cutN
  rw [List.length_take, List.length_drop]
  show ((min ((if i < 0 then (i + ns.length).toNat else min i.toNat ns.length) - _) _ : Nat) : Int) ≤ i
  rw [if_neg (by omega)]
  omega
theorem w_stepsN (ns : List Int) (m : Nat) (hs : ∀ z ∈ ns, Small z) (hl : ns.length ≤ m) (hm : m ≤ 63) : ∃ p q r s, sem__law_steps [.list (ns.map .int)] = .ok (PyData.tuple [PyData.int p, PyData.int q, PyData.int r, PyData.int s]) ∧ p * s - q * r = 1 ∧ Bd (1 + 22 * m) p ∧ Bd (1 + 22 * m) q ∧ Bd (1 + 22 * m) r ∧ Bd (1 + 22 * m) s := by
  obtain ⟨p, q, r, s, t2, t3, h, b1, b2, b3, b4, hd⟩ := steps_loop ns 1 1 0 0 1 (.list (ns.map .int)) none none hs (by omega) inferInstance (Bd.zero.up (by decide)) (Bd.zero.up (by decide)) inferInstance (by decide)
  refine ⟨p, q, r, s, ?_, hd, b1.up (by omega), b2.up (by omega), b3.up (by omega), b4.up (by omega)⟩
  show (evSs G__law_steps b__law_steps [some (.sh _), none, none, none]).ans = _
  unfold b__law_steps
  simp (disch := first | exact mulOk_bd | assumption | omega) only [evE_v0, evE_v1, evE_v2, evE_v3, evE_v4, evE_v5, evE_v6, evE_v7, evE_v8, evE_v9, evE_v10, evE_int, evE_bl, evE_non, evE_str, evE_bin, evE_neg, evE_not, evE_cmp, evE_tup, evE_lst, evE_ix, evE_call, evE_bi, evE_sl, evE_isi, andB_t, andB_f, orB_t, orB_f, andB_b, orB_b, evE_and, evE_or, evAnd_one, evOr_one, evAnd_two, evOr_two, evEs_nil, evEs_cons, evSs_nil, evSs_cons, evS_ex, evS_ret, ifB_t, ifB_f, evS_ife, evS_raise, evS_for, seq_t, seq_l, it_seq, ans_nx, ans_rt, ans_xc, forL_nil, forL_cons, ix_t0, ix_t1, ix_t2, ix_t3, o_add, o_sub, o_mul, o_fdiv, o_mod, o_neg, o_not, c_lt, c_le, c_gt, c_ge, c_eq, c_ne, c_eq2, c_ne2, c_eq3, c_ne3, c_is, c_isnot, isi_tt, isi_lt, isi_it, isi_ii, isi_ib, isi_ll, len_t1, len_t2, len_t3, len_t4, len_l, abs_i, tup_l, part_0, part_1, sl_l, call_0, call_1, call_2, call_3, call_4, call_5, call_6, call_7, glob_0, glob_1, glob_2, evE_v11, evE_v12, evE_v13, evE_v14, evE_v15, evE_v16, evE_v17, evE_v18, evE_v19, evE_v20, evS_set0, evS_setL0, evS_set1, evS_setL1, evS_set2, evS_setL2, evS_set3, evS_setL3, evS_set4, evS_setL4, evS_set5, evS_setL5, evS_set6, evS_setL6, evS_set7, evS_setL7, evS_set8, evS_setL8, evS_set9, evS_setL9, evS_set10, evS_setL10, evS_set11, evS_setL11, evS_set12, evS_setL12, evS_set13, evS_setL13, evS_set14, evS_setL14, evS_set15, evS_setL15, evS_set16, evS_setL16, evS_set17, evS_setL17, evS_set18, evS_setL18, evS_set19, evS_setL19, evS_set20, evS_setL20, evS_app0, evS_frz0, evS_frs0, evE_ixo0, evS_aug0, evS_app1, evS_frz1, evS_frs1, evE_ixo1, evS_aug1, evS_app2, evS_frz2, evS_frs2, evE_ixo2, evS_aug2, evS_app3, evS_frz3, evS_frs3, evE_ixo3, evS_aug3, evS_app4, evS_frz4, evS_frs4, evE_ixo4, evS_aug4, evS_app5, evS_frz5, evS_frs5, evE_ixo5, evS_aug5, evS_app6, evS_frz6, evS_frs6, evE_ixo6, evS_aug6, evS_app7, evS_frz7, evS_frs7, evE_ixo7, evS_aug7, evS_app8, evS_frz8, evS_frs8, evE_ixo8, evS_aug8, evS_app9, evS_frz9, evS_frs9, evE_ixo9, evS_aug9, evS_app10, evS_frz10, evS_frs10, evE_ixo10, evS_aug10, evS_app11, evS_frz11, evS_frs11, evE_ixo11, evS_aug11, evS_app12, evS_frz12, evS_frs12, evE_ixo12, evS_aug12, evS_app13, evS_frz13, evS_frs13, evE_ixo13, evS_aug13, evS_app14, evS_frz14, evS_frs14, evE_ixo14, evS_aug14, evS_app15, evS_frz15, evS_frs15, evE_ixo15, evS_aug15, evS_app16, evS_frz16, evS_frs16, evE_ixo16, evS_aug16, evS_pass, evE_ife, ifE_t, ifE_f, it_rng1, it_rng2, c_isnN, c_isnI, c_isN, c_isI, c_isnL, c_isnT, c_isL, c_isT, o_band, o_shr, len_t0, tup_t, call_8, call_9, call_10, call_11, call_12, rb_ok, rb_bad, rb_exc, ra_ok, ra_bad, ra_exc, ft_nx, ft_rt, ft_bad, ft_xc, List.set_cons_zero, List.set_cons_succ, List.nil_append, List.cons_append, Bool.not_true, Bool.not_false, decide_true, decide_false, eq_self, Int.reduceEq, Bool.false_or, Bool.or_false, Bool.true_or, Bool.or_true, Bool.true_and, Bool.and_true, Bool.false_and, Bool.and_false, Bool.or_self, Bool.and_self, h]
end FT

namespace FT
section
variable {p : Nat}
theorem solve (h : Prm p) {x a : Nat} (hx : 0 < x) (hx2 : x < p) (ha : a % p ≠ 0) : ∃ y, 0 < y ∧ y < p ∧ x * y % p = a % p := by
  obtain ⟨u, v, e⟩ := bez _ (x : Int) (p : Int) (Nat.le_refl _)
  have g : Int.gcd (x : Int) (p : Int) = 1 := by
    show Nat.gcd x p = 1
    rw [Nat.gcd_comm]
    exact h.cop hx hx2
  rw [g] at e
  have hp : (0 : Int) < p := by have := h.1; omega
  have m1 := Int.emod_nonneg (u * a) (show (p : Int) ≠ 0 by omega)
  have m2 := Int.emod_lt_of_pos (u * a) hp
  have m3 := Int.emod_add_mul_ediv (u * a) p
  obtain ⟨y, hy⟩ : ∃ y : Nat, (y : Int) = (u * a) % p := ⟨((u * a) % p).toNat, by omega⟩
  have key : ((x * y : Nat) : Int) % p = (a : Int) % p := by
    rw [Int.natCast_mul, hy]
    have : (x : Int) * (u * a % p) = a + p * (-(v * a) - x * (u * a / p)) := by
      have e1 : u * a % p = u * a - p * (u * a / p) := by omega
      have e2 : (a : Int) = (u * x + v * p) * a := by rw [e]; simp
      rw [e1]
      grind
    rw [this, Int.add_mul_emod_self_left]
  have key2 : x * y % p = a % p := by
    have : ((x * y % p : Nat) : Int) = ((a % p : Nat) : Int) := by
      rw [Int.natCast_emod, Int.natCast_emod]
      exact key
    omega
  refine ⟨y, ?_, by omega, key2⟩
  rcases Nat.eq_zero_or_pos y with t | t
  · rw [t, Nat.mul_zero, Nat.zero_mod] at key2
    exact absurd key2.symm ha
  · exact t
def units (p : Nat) : List Nat := List.range' 1 (p - 1)
theorem mem_units {x : Nat} (hp : 2 ≤ p) : x ∈ units p ↔ 0 < x ∧ x < p := by
  unfold units
  rw [List.mem_range'_1]
  omega
theorem units_len : (units p).length = p - 1 := List.length_range'
theorem units_nodup : (units p).Nodup := List.nodup_range'
theorem non_res (h : Prm p) {a : Nat} (ha : a % p ≠ 0) (hn : ∀ x, 0 < x → x < p → x * x % p ≠ a % p) : prodL (units p) % p = a ^ ((p - 1) / 2) % p := by
  have k := pairing h a _ (units p) (Nat.le_refl _) units_nodup (fun x hx => (mem_units h.1).mp hx) (fun x hx => by
    obtain ⟨r1, r2⟩ := (mem_units h.1).mp hx
    obtain ⟨y, y1, y2, e⟩ := solve h r1 r2 ha
    exact ⟨y, (mem_units h.1).mpr ⟨y1, y2⟩, fun t => hn x r1 r2 (t ▸ e), e⟩)
  rw [units_len] at k
  exact k
theorem is_res (h : Prm p) {a b n : Nat} (hp : p = 2 * n + 1) (ha : a % p ≠ 0) (b1 : 0 < b) (b2 : b < p) (hb : b * b % p = a % p) : (prodL (units p) + a ^ n) % p = 0 := by
  have hp2 := h.1
  have hbb : p - b ≠ b := by omega
  have m1 : b ∈ units p := (mem_units h.1).mpr ⟨b1, b2⟩
  have m2 : p - b ∈ (units p).erase b := (List.Nodup.mem_erase_iff units_nodup).mpr ⟨hbb, (mem_units h.1).mpr ⟨by omega, by omega⟩⟩
  have nd1 := (units_nodup (p := p)).erase b
  have nd2 := nd1.erase (p - b)
  have len : (((units p).erase b).erase (p - b)).length = p - 3 := by
    rw [List.length_erase_of_mem m2, List.length_erase_of_mem m1, units_len]
    omega
  have mem : ∀ z, z ∈ ((units p).erase b).erase (p - b) ↔ (z ≠ p - b ∧ z ≠ b ∧ 0 < z ∧ z < p) := fun z => by
    rw [List.Nodup.mem_erase_iff nd1, List.Nodup.mem_erase_iff units_nodup, mem_units h.1]
  have k := pairing h a _ (((units p).erase b).erase (p - b)) (Nat.le_refl _) nd2 (fun x hx => by
    have := (mem x).mp hx
    omega) (fun x hx => by
    obtain ⟨r0, r00, r1, r2⟩ := (mem x).mp hx
    obtain ⟨y, y1, y2, e⟩ := solve h r1 r2 ha
    have sq : ∀ z, 0 < z → z < p → z * z % p = a % p → z = b ∨ z = p - b := fun z z1 z2 ez => by
      have key : ∀ {u w : Nat}, u ≤ w → w < p → 0 < u → u * u % p = w * w % p → u = w ∨ w + u = p := by
        intro u w huw hw hu euw
        have hd : p ∣ w * w - u * u := Nat.dvd_of_mod_eq_zero (Nat.sub_mod_eq_zero_of_mod_eq euw.symm)
        have fac : w * w - u * u = (w + u) * (w - u) := by
          rw [Nat.mul_self_sub_mul_self_eq]
        rw [fac] at hd
        rcases h.dvd_mul hd with q | q
        · obtain ⟨c, hc⟩ := q
          have : c = 1 := by
            rcases Nat.lt_or_ge c 2 with t | t
            · rcases Nat.eq_zero_or_pos c with t0 | t0
              · rw [t0, Nat.mul_zero] at hc
                omega
              · omega
            · have : p * 2 ≤ p * c := Nat.mul_le_mul_left _ t
              omega
          rw [this] at hc
          omega
        · rcases Nat.eq_zero_or_pos (w - u) with t | t
          · omega
          · have := Nat.le_of_dvd t q
            omega
      rcases Nat.le_total z b with t | t
      · rcases key t b2 z1 (ez.trans hb.symm) with q | q <;> omega
      · rcases key t z2 b1 (hb.trans ez.symm) with q | q <;> omega
    have hyx : y ≠ x := fun t => by
      subst t
      rcases sq y y1 y2 e with q | q
      · exact r00 q
      · exact r0 q
    have hyb : y ≠ b := fun t => by
      subst t
      refine r00 (h.cancel y1 y2 r2 y2 ?_)
      rw [Nat.mul_comm, e, hb]
    have hpb : (p - b) * (p - b) % p = a % p := by
      have : (p - b) * (p - b) + p * (2 * b) = b * b + p * p := by
        obtain ⟨c, hc⟩ : ∃ c, p = b + c := ⟨p - b, by omega⟩
        rw [hc, Nat.add_sub_cancel_left]
        grind
      have e1 : ((p - b) * (p - b) + p * (2 * b)) % p = (b * b + p * p) % p := by rw [this]
      rw [Nat.add_mul_mod_self_left, Nat.add_mul_mod_self_left] at e1
      rw [e1, hb]
    have hypb : y ≠ p - b := fun t => by
      subst t
      refine r0 (h.cancel y1 y2 r2 y2 ?_)
      rw [Nat.mul_comm, e, hpb]
    exact ⟨y, (mem y).mpr ⟨hypb, hyb, y1, y2⟩, hyx, e⟩)
  rw [len, show (p - 3) / 2 = n - 1 by omega] at k
  have hn : a ^ n = a * a ^ (n - 1) := by
    obtain ⟨m, hm⟩ : ∃ m, n = m + 1 := ⟨n - 1, by omega⟩
    rw [hm, Nat.pow_succ, Nat.mul_comm]
    rfl
  rw [prodL_erase m1, prodL_erase m2, hn]
  generalize prodL (((units p).erase b).erase (p - b)) = P at *
  generalize a ^ (n - 1) = Q at *
  have step : (b * ((p - b) * P) + a * Q) % p = (b * ((p - b) * Q) + b * b * Q) % p := by
    have e1 : b * ((p - b) * P) % p = b * ((p - b) * Q) % p := by
      rw [← Nat.mul_assoc, ← Nat.mul_assoc, Nat.mul_mod, k, ← Nat.mul_mod]
    have e2 : a * Q % p = b * b * Q % p := by
      rw [Nat.mul_mod, ← hb, ← Nat.mul_mod]
    rw [Nat.add_mod, e1, e2, ← Nat.add_mod]
  rw [step]
  have : b * ((p - b) * Q) + b * b * Q = p * (b * Q) := by
    obtain ⟨c, hc⟩ : ∃ c, p = b + c := ⟨p - b, by omega⟩
    rw [hc, Nat.add_sub_cancel_left]
    grind
  rw [this, Nat.mul_mod_right]
/-- Euler's criterion -/
theorem euler (h : Prm p) {a n : Nat} (hp : p = 2 * n + 1) (ha : a % p ≠ 0) : (a ^ n % p = 1 ∧ ∃ b, 0 < b ∧ b < p ∧ b * b % p = a % p) ∨ (a ^ n % p = p - 1 ∧ ∀ b, 0 < b → b < p → b * b % p ≠ a % p) := by
  have hp2 := h.1
  have h1 : 1 % p = 1 := Nat.mod_eq_of_lt (by omega)
  have w := is_res h (a := 1) (b := 1) hp (by omega) (by decide) (by omega) rfl
  rw [Nat.one_pow] at w
  have hW : prodL (units p) % p = p - 1 := by
    rw [Nat.add_mod, h1] at w
    have l := Nat.mod_lt (prodL (units p)) (show 0 < p by omega)
    rcases Nat.lt_or_ge (prodL (units p) % p + 1) p with t | t
    · rw [Nat.mod_eq_of_lt t] at w
      omega
    · omega
  by_cases hr : ∃ b, 0 < b ∧ b < p ∧ b * b % p = a % p
  · left
    refine ⟨?_, hr⟩
    obtain ⟨b, b1, b2, hb⟩ := hr
    have e := is_res h hp ha b1 b2 hb
    rw [Nat.add_mod, hW] at e
    have l := Nat.mod_lt (a ^ n) (show 0 < p by omega)
    rcases Nat.lt_or_ge (p - 1 + a ^ n % p) p with t | t
    · rw [Nat.mod_eq_of_lt t] at e
      omega
    · have e2 : (p - 1 + a ^ n % p) % p = p - 1 + a ^ n % p - p := by
        rw [Nat.mod_eq_sub_mod t, Nat.mod_eq_of_lt (by omega)]
      omega
  · right
    have hn : ∀ x, 0 < x → x < p → x * x % p ≠ a % p := fun x x1 x2 e => hr ⟨x, x1, x2, e⟩
    have e := non_res h ha hn
    rw [show (p - 1) / 2 = n by omega] at e
    exact ⟨by rw [← e, hW], hn⟩
end
end FT

namespace FT
open PySem PySem.Spec PyProof.Rows L2
theorem w_sum (k1 k2 k3 k4 x y z w : Int) {n m : Nat} (K1 : Bd n k1) (K2 : Bd n k2) (K3 : Bd n k3) (K4 : Bd n k4) (X : Bd m x) (Y : Bd m y) (Z : Bd m z) (W : Bd m w) (hn : n ≤ 1000000) (hm : m ≤ 1000000) : sem__law_sum [(PyData.tuple [PyData.int k1, PyData.int k2, PyData.int k3, PyData.int k4]), (PyData.tuple [PyData.int x, PyData.int y]), (PyData.tuple [PyData.int z, PyData.int w])] = .ok (.int (k1 * x * z + k2 * x * w + k3 * y * z + k4 * y * w)) := by
  show (evSs G__law_sum b__law_sum [some (.sh _), some (.sh _), some (.sh _), none]).ans = _
  unfold b__law_sum G__law_sum
  simp (disch := first | exact mulOk_bd | assumption | omega) only [evE_v0, evE_v1, evE_v2, evE_v3, evE_v4, evE_v5, evE_v6, evE_v7, evE_v8, evE_v9, evE_v10, evE_int, evE_bl, evE_non, evE_str, evE_bin, evE_neg, evE_not, evE_cmp, evE_tup, evE_lst, evE_ix, evE_call, evE_bi, evE_sl, evE_isi, andB_t, andB_f, orB_t, orB_f, andB_b, orB_b, evE_and, evE_or, evAnd_one, evOr_one, evAnd_two, evOr_two, evEs_nil, evEs_cons, evSs_nil, evSs_cons, evS_ex, evS_ret, ifB_t, ifB_f, evS_ife, evS_raise, evS_for, seq_t, seq_l, it_seq, ans_nx, ans_rt, ans_xc, forL_nil, forL_cons, ix_t0, ix_t1, ix_t2, ix_t3, o_add, o_sub, o_mul, o_fdiv, o_mod, o_neg, o_not, c_lt, c_le, c_gt, c_ge, c_eq, c_ne, c_eq2, c_ne2, c_eq3, c_ne3, c_is, c_isnot, isi_tt, isi_lt, isi_it, isi_ii, isi_ib, isi_ll, len_t1, len_t2, len_t3, len_t4, len_l, abs_i, tup_l, part_0, part_1, sl_l, call_0, call_1, call_2, call_3, call_4, call_5, call_6, call_7, glob_0, glob_1, glob_2, evE_v11, evE_v12, evE_v13, evE_v14, evE_v15, evE_v16, evE_v17, evE_v18, evE_v19, evE_v20, evS_set0, evS_setL0, evS_set1, evS_setL1, evS_set2, evS_setL2, evS_set3, evS_setL3, evS_set4, evS_setL4, evS_set5, evS_setL5, evS_set6, evS_setL6, evS_set7, evS_setL7, evS_set8, evS_setL8, evS_set9, evS_setL9, evS_set10, evS_setL10, evS_set11, evS_setL11, evS_set12, evS_setL12, evS_set13, evS_setL13, evS_set14, evS_setL14, evS_set15, evS_setL15, evS_set16, evS_setL16, evS_set17, evS_setL17, evS_set18, evS_setL18, evS_set19, evS_setL19, evS_set20, evS_setL20, evS_app0, evS_frz0, evS_frs0, evE_ixo0, evS_aug0, evS_app1, evS_frz1, evS_frs1, evE_ixo1, evS_aug1, evS_app2, evS_frz2, evS_frs2, evE_ixo2, evS_aug2, evS_app3, evS_frz3, evS_frs3, evE_ixo3, evS_aug3, evS_app4, evS_frz4, evS_frs4, evE_ixo4, evS_aug4, evS_app5, evS_frz5, evS_frs5, evE_ixo5, evS_aug5, evS_app6, evS_frz6, evS_frs6, evE_ixo6, evS_aug6, evS_app7, evS_frz7, evS_frs7, evE_ixo7, evS_aug7, evS_app8, evS_frz8, evS_frs8, evE_ixo8, evS_aug8, evS_app9, evS_frz9, evS_frs9, evE_ixo9, evS_aug9, evS_app10, evS_frz10, evS_frs10, evE_ixo10, evS_aug10, evS_app11, evS_frz11, evS_frs11, evE_ixo11, evS_aug11, evS_app12, evS_frz12, evS_frs12, evE_ixo12, evS_aug12, evS_app13, evS_frz13, evS_frs13, evE_ixo13, evS_aug13, evS_app14, evS_frz14, evS_frs14, evE_ixo14, evS_aug14, evS_app15, evS_frz15, evS_frs15, evE_ixo15, evS_aug15, evS_app16, evS_frz16, evS_frs16, evE_ixo16, evS_aug16, evS_pass, evE_ife, ifE_t, ifE_f, it_rng1, it_rng2, c_isnN, c_isnI, c_isN, c_isI, c_isnL, c_isnT, c_isL, c_isT, o_band, o_shr, len_t0, tup_t, call_8, call_9, call_10, call_11, call_12, rb_ok, rb_bad, rb_exc, ra_ok, ra_bad, ra_exc, ft_nx, ft_rt, ft_bad, ft_xc, List.set_cons_zero, List.set_cons_succ, List.nil_append, List.cons_append, Bool.not_true, Bool.not_false, decide_true, decide_false, eq_self, Int.reduceEq, Bool.false_or, Bool.or_false, Bool.true_or, Bool.or_true, Bool.true_and, Bool.and_true, Bool.false_and, Bool.and_false, Bool.or_self, Bool.and_self]
/-- one place of the nine -/
theorem w_shown1 {a1 b1 c1 a2 b2 c2 A B C k1 k2 k3 k4 l1 l2 l3 l4 : Int} (J : Joins a1 b1 c1 a2 b2 c2 A B C k1 k2 k3 k4 l1 l2 l3 l4) (P1 : Bd 1522 a1) (P2 : Bd 1522 b1) (P3 : Bd 1522 c1) (Q1 : Bd 1522 a2) (Q2 : Bd 1522 b2) (Q3 : Bd 1522 c2) (E1 : Bd 40000 A) (E2 : Bd 40000 B) (E3 : Bd 40000 C)
    (K1 : Bd 30450 k1) (K2 : Bd 30450 k2) (K3 : Bd 30450 k3) (K4 : Bd 30450 k4) (K5 : Bd 30450 l1) (K6 : Bd 30450 l2) (K7 : Bd 30450 l3) (K8 : Bd 30450 l4) (x y z w : Int) (X : Bd 1 x) (Y : Bd 1 y) (Z : Bd 1 z) (W : Bd 1 w) (s5 : Option Sl) :
    ∃ d, evSs G__law_shown w1__law_shown [some (.sh (.tuple [(PyData.tuple [PyData.int A, PyData.int B, PyData.int C]), (PyData.tuple [PyData.int k1, PyData.int k2, PyData.int k3, PyData.int k4]), (PyData.tuple [PyData.int l1, PyData.int l2, PyData.int l3, PyData.int l4])])), some (.sh (PyData.tuple [PyData.int a1, PyData.int b1, PyData.int c1])), some (.sh (PyData.tuple [PyData.int a2, PyData.int b2, PyData.int c2])), some (.sh (PyData.tuple [PyData.int x, PyData.int y])), some (.sh (PyData.tuple [PyData.int z, PyData.int w])), s5] = .nx [some (.sh (.tuple [(PyData.tuple [PyData.int A, PyData.int B, PyData.int C]), (PyData.tuple [PyData.int k1, PyData.int k2, PyData.int k3, PyData.int k4]), (PyData.tuple [PyData.int l1, PyData.int l2, PyData.int l3, PyData.int l4])])), some (.sh (PyData.tuple [PyData.int a1, PyData.int b1, PyData.int c1])), some (.sh (PyData.tuple [PyData.int a2, PyData.int b2, PyData.int c2])), some (.sh (PyData.tuple [PyData.int x, PyData.int y])), some (.sh (PyData.tuple [PyData.int z, PyData.int w])), d] := by
  have f := J.f x y z w
  have u1 := w_sum k1 k2 k3 k4 x y z w K1 K2 K3 K4 X Y Z W (by omega) (by omega)
  have u2 := w_sum l1 l2 l3 l4 x y z w K5 K6 K7 K8 X Y Z W (by omega) (by omega)
  have v1 := w_worth a1 b1 c1 x y (by omega)
  have v2 := w_worth a2 b2 c2 z w (by omega)
  obtain ⟨S, hS, BS⟩ : ∃ S, k1 * x * z + k2 * x * w + k3 * y * z + k4 * y * w = S ∧ Bd 31000 S := ⟨_, rfl, Bd.get⟩
  obtain ⟨T, hT, BT⟩ : ∃ S, l1 * x * z + l2 * x * w + l3 * y * z + l4 * y * w = S ∧ Bd 31000 S := ⟨_, rfl, Bd.get⟩
  rw [hS, hT] at f
  rw [hS] at u1
  rw [hT] at u2
  have v3 := w_worth A B C S T (by omega)
  obtain ⟨F, hF, BF⟩ : ∃ S, a1 * x * x + b1 * x * y + c1 * y * y = S ∧ Bd 2000 S := ⟨_, rfl, Bd.get⟩
  obtain ⟨H, hH, BH⟩ : ∃ S, a2 * z * z + b2 * z * w + c2 * w * w = S ∧ Bd 2000 S := ⟨_, rfl, Bd.get⟩
  rw [hF, hH] at f
  rw [hF] at v1
  rw [hH] at v2
  rw [← f] at v3
  refine ⟨some (.sh (PyData.tuple [PyData.int S, PyData.int T])), ?_⟩
  unfold w1__law_shown G__law_shown
  simp (disch := first | exact mulOk_bd | assumption | omega) only [evE_v0, evE_v1, evE_v2, evE_v3, evE_v4, evE_v5, evE_v6, evE_v7, evE_v8, evE_v9, evE_v10, evE_int, evE_bl, evE_non, evE_str, evE_bin, evE_neg, evE_not, evE_cmp, evE_tup, evE_lst, evE_ix, evE_call, evE_bi, evE_sl, evE_isi, andB_t, andB_f, orB_t, orB_f, andB_b, orB_b, evE_and, evE_or, evAnd_one, evOr_one, evAnd_two, evOr_two, evEs_nil, evEs_cons, evSs_nil, evSs_cons, evS_ex, evS_ret, ifB_t, ifB_f, evS_ife, evS_raise, evS_for, seq_t, seq_l, it_seq, ans_nx, ans_rt, ans_xc, forL_nil, forL_cons, ix_t0, ix_t1, ix_t2, ix_t3, o_add, o_sub, o_mul, o_fdiv, o_mod, o_neg, o_not, c_lt, c_le, c_gt, c_ge, c_eq, c_ne, c_eq2, c_ne2, c_eq3, c_ne3, c_is, c_isnot, isi_tt, isi_lt, isi_it, isi_ii, isi_ib, isi_ll, len_t1, len_t2, len_t3, len_t4, len_l, abs_i, tup_l, part_0, part_1, sl_l, call_0, call_1, call_2, call_3, call_4, call_5, call_6, call_7, glob_0, glob_1, glob_2, evE_v11, evE_v12, evE_v13, evE_v14, evE_v15, evE_v16, evE_v17, evE_v18, evE_v19, evE_v20, evS_set0, evS_setL0, evS_set1, evS_setL1, evS_set2, evS_setL2, evS_set3, evS_setL3, evS_set4, evS_setL4, evS_set5, evS_setL5, evS_set6, evS_setL6, evS_set7, evS_setL7, evS_set8, evS_setL8, evS_set9, evS_setL9, evS_set10, evS_setL10, evS_set11, evS_setL11, evS_set12, evS_setL12, evS_set13, evS_setL13, evS_set14, evS_setL14, evS_set15, evS_setL15, evS_set16, evS_setL16, evS_set17, evS_setL17, evS_set18, evS_setL18, evS_set19, evS_setL19, evS_set20, evS_setL20, evS_app0, evS_frz0, evS_frs0, evE_ixo0, evS_aug0, evS_app1, evS_frz1, evS_frs1, evE_ixo1, evS_aug1, evS_app2, evS_frz2, evS_frs2, evE_ixo2, evS_aug2, evS_app3, evS_frz3, evS_frs3, evE_ixo3, evS_aug3, evS_app4, evS_frz4, evS_frs4, evE_ixo4, evS_aug4, evS_app5, evS_frz5, evS_frs5, evE_ixo5, evS_aug5, evS_app6, evS_frz6, evS_frs6, evE_ixo6, evS_aug6, evS_app7, evS_frz7, evS_frs7, evE_ixo7, evS_aug7, evS_app8, evS_frz8, evS_frs8, evE_ixo8, evS_aug8, evS_app9, evS_frz9, evS_frs9, evE_ixo9, evS_aug9, evS_app10, evS_frz10, evS_frs10, evE_ixo10, evS_aug10, evS_app11, evS_frz11, evS_frs11, evE_ixo11, evS_aug11, evS_app12, evS_frz12, evS_frs12, evE_ixo12, evS_aug12, evS_app13, evS_frz13, evS_frs13, evE_ixo13, evS_aug13, evS_app14, evS_frz14, evS_frs14, evE_ixo14, evS_aug14, evS_app15, evS_frz15, evS_frs15, evE_ixo15, evS_aug15, evS_app16, evS_frz16, evS_frs16, evE_ixo16, evS_aug16, evS_pass, evE_ife, ifE_t, ifE_f, it_rng1, it_rng2, c_isnN, c_isnI, c_isN, c_isI, c_isnL, c_isnT, c_isL, c_isT, o_band, o_shr, len_t0, tup_t, call_8, call_9, call_10, call_11, call_12, rb_ok, rb_bad, rb_exc, ra_ok, ra_bad, ra_exc, ft_nx, ft_rt, ft_bad, ft_xc, List.set_cons_zero, List.set_cons_succ, List.nil_append, List.cons_append, Bool.not_true, Bool.not_false, decide_true, decide_false, eq_self, Int.reduceEq, Bool.false_or, Bool.or_false, Bool.true_or, Bool.or_true, Bool.true_and, Bool.and_true, Bool.false_and, Bool.and_false, Bool.or_self, Bool.and_self, u1, u2, v1, v2, v3]
theorem w_shown {a1 b1 c1 a2 b2 c2 A B C k1 k2 k3 k4 l1 l2 l3 l4 : Int} (J : Joins a1 b1 c1 a2 b2 c2 A B C k1 k2 k3 k4 l1 l2 l3 l4) (P1 : Bd 1522 a1) (P2 : Bd 1522 b1) (P3 : Bd 1522 c1) (Q1 : Bd 1522 a2) (Q2 : Bd 1522 b2) (Q3 : Bd 1522 c2) (E1 : Bd 40000 A) (E2 : Bd 40000 B) (E3 : Bd 40000 C)
    (K1 : Bd 30450 k1) (K2 : Bd 30450 k2) (K3 : Bd 30450 k3) (K4 : Bd 30450 k4) (K5 : Bd 30450 l1) (K6 : Bd 30450 l2) (K7 : Bd 30450 l3) (K8 : Bd 30450 l4) :
    sem__law_shown [.tuple [(PyData.tuple [PyData.int A, PyData.int B, PyData.int C]), (PyData.tuple [PyData.int k1, PyData.int k2, PyData.int k3, PyData.int k4]), (PyData.tuple [PyData.int l1, PyData.int l2, PyData.int l3, PyData.int l4])], (PyData.tuple [PyData.int a1, PyData.int b1, PyData.int c1]), (PyData.tuple [PyData.int a2, PyData.int b2, PyData.int c2])] = .ok (.bool true) := by
  have one := fun x y z w X Y Z W s5 => w_shown1 J P1 P2 P3 Q1 Q2 Q3 E1 E2 E3 K1 K2 K3 K4 K5 K6 K7 K8 x y z w X Y Z W s5
  have B0 : Bd 1 0 := Bd.zero.up (by decide)
  have row : ∀ x y : Int, Bd 1 x → Bd 1 y → ∀ s4 s5, ∃ e4 e5, evSs G__law_shown w2__law_shown [some (.sh (.tuple [(PyData.tuple [PyData.int A, PyData.int B, PyData.int C]), (PyData.tuple [PyData.int k1, PyData.int k2, PyData.int k3, PyData.int k4]), (PyData.tuple [PyData.int l1, PyData.int l2, PyData.int l3, PyData.int l4])])), some (.sh (PyData.tuple [PyData.int a1, PyData.int b1, PyData.int c1])), some (.sh (PyData.tuple [PyData.int a2, PyData.int b2, PyData.int c2])), some (.sh (PyData.tuple [PyData.int x, PyData.int y])), s4, s5] = .nx [some (.sh (.tuple [(PyData.tuple [PyData.int A, PyData.int B, PyData.int C]), (PyData.tuple [PyData.int k1, PyData.int k2, PyData.int k3, PyData.int k4]), (PyData.tuple [PyData.int l1, PyData.int l2, PyData.int l3, PyData.int l4])])), some (.sh (PyData.tuple [PyData.int a1, PyData.int b1, PyData.int c1])), some (.sh (PyData.tuple [PyData.int a2, PyData.int b2, PyData.int c2])), some (.sh (PyData.tuple [PyData.int x, PyData.int y])), e4, e5] := by
    intro x y X Y s4 s5
    obtain ⟨d1, h1⟩ := one x y 1 0 X Y Bd.one B0 s5
    obtain ⟨d2, h2⟩ := one x y 0 1 X Y B0 Bd.one d1
    obtain ⟨d3, h3⟩ := one x y 1 1 X Y Bd.one Bd.one d2
    refine ⟨some (.sh (PyData.tuple [PyData.int 1, PyData.int 1])), d3, ?_⟩
    unfold w2__law_shown
    simp (disch := first | exact mulOk_bd | assumption | omega) only [evE_v0, evE_v1, evE_v2, evE_v3, evE_v4, evE_v5, evE_v6, evE_v7, evE_v8, evE_v9, evE_v10, evE_int, evE_bl, evE_non, evE_str, evE_bin, evE_neg, evE_not, evE_cmp, evE_tup, evE_lst, evE_ix, evE_call, evE_bi, evE_sl, evE_isi, andB_t, andB_f, orB_t, orB_f, andB_b, orB_b, evE_and, evE_or, evAnd_one, evOr_one, evAnd_two, evOr_two, evEs_nil, evEs_cons, evSs_nil, evSs_cons, evS_ex, evS_ret, ifB_t, ifB_f, evS_ife, evS_raise, evS_for, seq_t, seq_l, it_seq, ans_nx, ans_rt, ans_xc, forL_nil, forL_cons, ix_t0, ix_t1, ix_t2, ix_t3, o_add, o_sub, o_mul, o_fdiv, o_mod, o_neg, o_not, c_lt, c_le, c_gt, c_ge, c_eq, c_ne, c_eq2, c_ne2, c_eq3, c_ne3, c_is, c_isnot, isi_tt, isi_lt, isi_it, isi_ii, isi_ib, isi_ll, len_t1, len_t2, len_t3, len_t4, len_l, abs_i, tup_l, part_0, part_1, sl_l, call_0, call_1, call_2, call_3, call_4, call_5, call_6, call_7, glob_0, glob_1, glob_2, evE_v11, evE_v12, evE_v13, evE_v14, evE_v15, evE_v16, evE_v17, evE_v18, evE_v19, evE_v20, evS_set0, evS_setL0, evS_set1, evS_setL1, evS_set2, evS_setL2, evS_set3, evS_setL3, evS_set4, evS_setL4, evS_set5, evS_setL5, evS_set6, evS_setL6, evS_set7, evS_setL7, evS_set8, evS_setL8, evS_set9, evS_setL9, evS_set10, evS_setL10, evS_set11, evS_setL11, evS_set12, evS_setL12, evS_set13, evS_setL13, evS_set14, evS_setL14, evS_set15, evS_setL15, evS_set16, evS_setL16, evS_set17, evS_setL17, evS_set18, evS_setL18, evS_set19, evS_setL19, evS_set20, evS_setL20, evS_app0, evS_frz0, evS_frs0, evE_ixo0, evS_aug0, evS_app1, evS_frz1, evS_frs1, evE_ixo1, evS_aug1, evS_app2, evS_frz2, evS_frs2, evE_ixo2, evS_aug2, evS_app3, evS_frz3, evS_frs3, evE_ixo3, evS_aug3, evS_app4, evS_frz4, evS_frs4, evE_ixo4, evS_aug4, evS_app5, evS_frz5, evS_frs5, evE_ixo5, evS_aug5, evS_app6, evS_frz6, evS_frs6, evE_ixo6, evS_aug6, evS_app7, evS_frz7, evS_frs7, evE_ixo7, evS_aug7, evS_app8, evS_frz8, evS_frs8, evE_ixo8, evS_aug8, evS_app9, evS_frz9, evS_frs9, evE_ixo9, evS_aug9, evS_app10, evS_frz10, evS_frs10, evE_ixo10, evS_aug10, evS_app11, evS_frz11, evS_frs11, evE_ixo11, evS_aug11, evS_app12, evS_frz12, evS_frs12, evE_ixo12, evS_aug12, evS_app13, evS_frz13, evS_frs13, evE_ixo13, evS_aug13, evS_app14, evS_frz14, evS_frs14, evE_ixo14, evS_aug14, evS_app15, evS_frz15, evS_frs15, evE_ixo15, evS_aug15, evS_app16, evS_frz16, evS_frs16, evE_ixo16, evS_aug16, evS_pass, evE_ife, ifE_t, ifE_f, it_rng1, it_rng2, c_isnN, c_isnI, c_isN, c_isI, c_isnL, c_isnT, c_isL, c_isT, o_band, o_shr, len_t0, tup_t, call_8, call_9, call_10, call_11, call_12, rb_ok, rb_bad, rb_exc, ra_ok, ra_bad, ra_exc, ft_nx, ft_rt, ft_bad, ft_xc, List.set_cons_zero, List.set_cons_succ, List.nil_append, List.cons_append, Bool.not_true, Bool.not_false, decide_true, decide_false, eq_self, Int.reduceEq, Bool.false_or, Bool.or_false, Bool.true_or, Bool.or_true, Bool.true_and, Bool.and_true, Bool.false_and, Bool.and_false, Bool.or_self, Bool.and_self, h1, h2, h3]
  obtain ⟨f1, g1, h1⟩ := row 1 0 Bd.one B0 none none
  obtain ⟨f2, g2, h2⟩ := row 0 1 B0 Bd.one f1 g1
  obtain ⟨f3, g3, h3⟩ := row 1 1 Bd.one Bd.one f2 g2
  show (evSs G__law_shown b__law_shown [some (.sh _), some (.sh _), some (.sh _), none, none, none]).ans = _
  have m1 := J.m12
  have m2 := J.m13
  have e1 : k1 * l3 - k3 * l1 = a2 := m2
  unfold b__law_shown
  simp (disch := first | exact mulOk_bd | assumption | omega) only [evE_v0, evE_v1, evE_v2, evE_v3, evE_v4, evE_v5, evE_v6, evE_v7, evE_v8, evE_v9, evE_v10, evE_int, evE_bl, evE_non, evE_str, evE_bin, evE_neg, evE_not, evE_cmp, evE_tup, evE_lst, evE_ix, evE_call, evE_bi, evE_sl, evE_isi, andB_t, andB_f, orB_t, orB_f, andB_b, orB_b, evE_and, evE_or, evAnd_one, evOr_one, evAnd_two, evOr_two, evEs_nil, evEs_cons, evSs_nil, evSs_cons, evS_ex, evS_ret, ifB_t, ifB_f, evS_ife, evS_raise, evS_for, seq_t, seq_l, it_seq, ans_nx, ans_rt, ans_xc, forL_nil, forL_cons, ix_t0, ix_t1, ix_t2, ix_t3, o_add, o_sub, o_mul, o_fdiv, o_mod, o_neg, o_not, c_lt, c_le, c_gt, c_ge, c_eq, c_ne, c_eq2, c_ne2, c_eq3, c_ne3, c_is, c_isnot, isi_tt, isi_lt, isi_it, isi_ii, isi_ib, isi_ll, len_t1, len_t2, len_t3, len_t4, len_l, abs_i, tup_l, part_0, part_1, sl_l, call_0, call_1, call_2, call_3, call_4, call_5, call_6, call_7, glob_0, glob_1, glob_2, evE_v11, evE_v12, evE_v13, evE_v14, evE_v15, evE_v16, evE_v17, evE_v18, evE_v19, evE_v20, evS_set0, evS_setL0, evS_set1, evS_setL1, evS_set2, evS_setL2, evS_set3, evS_setL3, evS_set4, evS_setL4, evS_set5, evS_setL5, evS_set6, evS_setL6, evS_set7, evS_setL7, evS_set8, evS_setL8, evS_set9, evS_setL9, evS_set10, evS_setL10, evS_set11, evS_setL11, evS_set12, evS_setL12, evS_set13, evS_setL13, evS_set14, evS_setL14, evS_set15, evS_setL15, evS_set16, evS_setL16, evS_set17, evS_setL17, evS_set18, evS_setL18, evS_set19, evS_setL19, evS_set20, evS_setL20, evS_app0, evS_frz0, evS_frs0, evE_ixo0, evS_aug0, evS_app1, evS_frz1, evS_frs1, evE_ixo1, evS_aug1, evS_app2, evS_frz2, evS_frs2, evE_ixo2, evS_aug2, evS_app3, evS_frz3, evS_frs3, evE_ixo3, evS_aug3, evS_app4, evS_frz4, evS_frs4, evE_ixo4, evS_aug4, evS_app5, evS_frz5, evS_frs5, evE_ixo5, evS_aug5, evS_app6, evS_frz6, evS_frs6, evE_ixo6, evS_aug6, evS_app7, evS_frz7, evS_frs7, evE_ixo7, evS_aug7, evS_app8, evS_frz8, evS_frs8, evE_ixo8, evS_aug8, evS_app9, evS_frz9, evS_frs9, evE_ixo9, evS_aug9, evS_app10, evS_frz10, evS_frs10, evE_ixo10, evS_aug10, evS_app11, evS_frz11, evS_frs11, evE_ixo11, evS_aug11, evS_app12, evS_frz12, evS_frs12, evE_ixo12, evS_aug12, evS_app13, evS_frz13, evS_frs13, evE_ixo13, evS_aug13, evS_app14, evS_frz14, evS_frs14, evE_ixo14, evS_aug14, evS_app15, evS_frz15, evS_frs15, evE_ixo15, evS_aug15, evS_app16, evS_frz16, evS_frs16, evE_ixo16, evS_aug16, evS_pass, evE_ife, ifE_t, ifE_f, it_rng1, it_rng2, c_isnN, c_isnI, c_isN, c_isI, c_isnL, c_isnT, c_isL, c_isT, o_band, o_shr, len_t0, tup_t, call_8, call_9, call_10, call_11, call_12, rb_ok, rb_bad, rb_exc, ra_ok, ra_bad, ra_exc, ft_nx, ft_rt, ft_bad, ft_xc, List.set_cons_zero, List.set_cons_succ, List.nil_append, List.cons_append, Bool.not_true, Bool.not_false, decide_true, decide_false, eq_self, Int.reduceEq, Bool.false_or, Bool.or_false, Bool.true_or, Bool.or_true, Bool.true_and, Bool.and_true, Bool.false_and, Bool.and_false, Bool.or_self, Bool.and_self, h1, h2, h3, m1, m2]
end FT

namespace FT
open PySem PySem.Spec PyProof.Rows L2
/-! ### bars -/
theorem v_asked_bar (Dd : Int) (h1 : Dd < 0) (h2 : Dd % 4 ≤ 1) : sem_asked_bar [.int Dd, .none] = .ok (.int Dd) := by
  show (evSs G_asked_bar b_asked_bar [some (.sh _), some (.sh _)]).ans = _
  unfold b_asked_bar G_asked_bar
  simp (disch := first | exact mulOk_bd | assumption | omega) only [evE_v0, evE_v1, evE_v2, evE_v3, evE_v4, evE_v5, evE_v6, evE_v7, evE_v8, evE_v9, evE_v10, evE_int, evE_bl, evE_non, evE_str, evE_bin, evE_neg, evE_not, evE_cmp, evE_tup, evE_lst, evE_ix, evE_call, evE_bi, evE_sl, evE_isi, andB_t, andB_f, orB_t, orB_f, andB_b, orB_b, evE_and, evE_or, evAnd_one, evOr_one, evAnd_two, evOr_two, evEs_nil, evEs_cons, evSs_nil, evSs_cons, evS_ex, evS_ret, ifB_t, ifB_f, evS_ife, evS_raise, evS_for, seq_t, seq_l, it_seq, ans_nx, ans_rt, ans_xc, forL_nil, forL_cons, ix_t0, ix_t1, ix_t2, ix_t3, o_add, o_sub, o_mul, o_fdiv, o_mod, o_neg, o_not, c_lt, c_le, c_gt, c_ge, c_eq, c_ne, c_eq2, c_ne2, c_eq3, c_ne3, c_is, c_isnot, isi_tt, isi_lt, isi_it, isi_ii, isi_ib, isi_ll, len_t1, len_t2, len_t3, len_t4, len_l, abs_i, tup_l, part_0, part_1, sl_l, call_0, call_1, call_2, call_3, call_4, call_5, call_6, call_7, glob_0, glob_1, glob_2, evE_v11, evE_v12, evE_v13, evE_v14, evE_v15, evE_v16, evE_v17, evE_v18, evE_v19, evE_v20, evS_set0, evS_setL0, evS_set1, evS_setL1, evS_set2, evS_setL2, evS_set3, evS_setL3, evS_set4, evS_setL4, evS_set5, evS_setL5, evS_set6, evS_setL6, evS_set7, evS_setL7, evS_set8, evS_setL8, evS_set9, evS_setL9, evS_set10, evS_setL10, evS_set11, evS_setL11, evS_set12, evS_setL12, evS_set13, evS_setL13, evS_set14, evS_setL14, evS_set15, evS_setL15, evS_set16, evS_setL16, evS_set17, evS_setL17, evS_set18, evS_setL18, evS_set19, evS_setL19, evS_set20, evS_setL20, evS_app0, evS_frz0, evS_frs0, evE_ixo0, evS_aug0, evS_app1, evS_frz1, evS_frs1, evE_ixo1, evS_aug1, evS_app2, evS_frz2, evS_frs2, evE_ixo2, evS_aug2, evS_app3, evS_frz3, evS_frs3, evE_ixo3, evS_aug3, evS_app4, evS_frz4, evS_frs4, evE_ixo4, evS_aug4, evS_app5, evS_frz5, evS_frs5, evE_ixo5, evS_aug5, evS_app6, evS_frz6, evS_frs6, evE_ixo6, evS_aug6, evS_app7, evS_frz7, evS_frs7, evE_ixo7, evS_aug7, evS_app8, evS_frz8, evS_frs8, evE_ixo8, evS_aug8, evS_app9, evS_frz9, evS_frs9, evE_ixo9, evS_aug9, evS_app10, evS_frz10, evS_frs10, evE_ixo10, evS_aug10, evS_app11, evS_frz11, evS_frs11, evE_ixo11, evS_aug11, evS_app12, evS_frz12, evS_frs12, evE_ixo12, evS_aug12, evS_app13, evS_frz13, evS_frs13, evE_ixo13, evS_aug13, evS_app14, evS_frz14, evS_frs14, evE_ixo14, evS_aug14, evS_app15, evS_frz15, evS_frs15, evE_ixo15, evS_aug15, evS_app16, evS_frz16, evS_frs16, evE_ixo16, evS_aug16, evS_pass, evE_ife, ifE_t, ifE_f, it_rng1, it_rng2, c_isnN, c_isnI, c_isN, c_isI, c_isnL, c_isnT, c_isL, c_isT, o_band, o_shr, len_t0, tup_t, call_8, call_9, call_10, call_11, call_12, rb_ok, rb_bad, rb_exc, ra_ok, ra_bad, ra_exc, ft_nx, ft_rt, ft_bad, ft_xc, List.set_cons_zero, List.set_cons_succ, List.nil_append, List.cons_append, Bool.not_true, Bool.not_false, decide_true, decide_false, eq_self, Int.reduceEq, Bool.false_or, Bool.or_false, Bool.true_or, Bool.or_true, Bool.true_and, Bool.and_true, Bool.false_and, Bool.and_false, Bool.or_self, Bool.and_self, v_is_whole Dd, bitAnd_m2, decide_eq_false (show ¬ 0 ≤ Dd by omega), decide_eq_false (show ¬ 1 < Dd % 4 by omega)]
theorem v_neutral (Dd : Int) (h1 : Dd < 0) (h2 : Dd % 4 ≤ 1) : sem_neutral [.int Dd] = .ok (PyData.tuple [PyData.int 1, PyData.int (Dd % 2), PyData.int ((Dd % 2 - Dd) / 4)]) := by
  show (evSs G_neutral b_neutral [some (.sh _)]).ans = _
  unfold b_neutral G_neutral
  simp (disch := first | exact mulOk_bd | assumption | omega) only [evE_v0, evE_v1, evE_v2, evE_v3, evE_v4, evE_v5, evE_v6, evE_v7, evE_v8, evE_v9, evE_v10, evE_int, evE_bl, evE_non, evE_str, evE_bin, evE_neg, evE_not, evE_cmp, evE_tup, evE_lst, evE_ix, evE_call, evE_bi, evE_sl, evE_isi, andB_t, andB_f, orB_t, orB_f, andB_b, orB_b, evE_and, evE_or, evAnd_one, evOr_one, evAnd_two, evOr_two, evEs_nil, evEs_cons, evSs_nil, evSs_cons, evS_ex, evS_ret, ifB_t, ifB_f, evS_ife, evS_raise, evS_for, seq_t, seq_l, it_seq, ans_nx, ans_rt, ans_xc, forL_nil, forL_cons, ix_t0, ix_t1, ix_t2, ix_t3, o_add, o_sub, o_mul, o_fdiv, o_mod, o_neg, o_not, c_lt, c_le, c_gt, c_ge, c_eq, c_ne, c_eq2, c_ne2, c_eq3, c_ne3, c_is, c_isnot, isi_tt, isi_lt, isi_it, isi_ii, isi_ib, isi_ll, len_t1, len_t2, len_t3, len_t4, len_l, abs_i, tup_l, part_0, part_1, sl_l, call_0, call_1, call_2, call_3, call_4, call_5, call_6, call_7, glob_0, glob_1, glob_2, evE_v11, evE_v12, evE_v13, evE_v14, evE_v15, evE_v16, evE_v17, evE_v18, evE_v19, evE_v20, evS_set0, evS_setL0, evS_set1, evS_setL1, evS_set2, evS_setL2, evS_set3, evS_setL3, evS_set4, evS_setL4, evS_set5, evS_setL5, evS_set6, evS_setL6, evS_set7, evS_setL7, evS_set8, evS_setL8, evS_set9, evS_setL9, evS_set10, evS_setL10, evS_set11, evS_setL11, evS_set12, evS_setL12, evS_set13, evS_setL13, evS_set14, evS_setL14, evS_set15, evS_setL15, evS_set16, evS_setL16, evS_set17, evS_setL17, evS_set18, evS_setL18, evS_set19, evS_setL19, evS_set20, evS_setL20, evS_app0, evS_frz0, evS_frs0, evE_ixo0, evS_aug0, evS_app1, evS_frz1, evS_frs1, evE_ixo1, evS_aug1, evS_app2, evS_frz2, evS_frs2, evE_ixo2, evS_aug2, evS_app3, evS_frz3, evS_frs3, evE_ixo3, evS_aug3, evS_app4, evS_frz4, evS_frs4, evE_ixo4, evS_aug4, evS_app5, evS_frz5, evS_frs5, evE_ixo5, evS_aug5, evS_app6, evS_frz6, evS_frs6, evE_ixo6, evS_aug6, evS_app7, evS_frz7, evS_frs7, evE_ixo7, evS_aug7, evS_app8, evS_frz8, evS_frs8, evE_ixo8, evS_aug8, evS_app9, evS_frz9, evS_frs9, evE_ixo9, evS_aug9, evS_app10, evS_frz10, evS_frs10, evE_ixo10, evS_aug10, evS_app11, evS_frz11, evS_frs11, evE_ixo11, evS_aug11, evS_app12, evS_frz12, evS_frs12, evE_ixo12, evS_aug12, evS_app13, evS_frz13, evS_frs13, evE_ixo13, evS_aug13, evS_app14, evS_frz14, evS_frs14, evE_ixo14, evS_aug14, evS_app15, evS_frz15, evS_frs15, evE_ixo15, evS_aug15, evS_app16, evS_frz16, evS_frs16, evE_ixo16, evS_aug16, evS_pass, evE_ife, ifE_t, ifE_f, it_rng1, it_rng2, c_isnN, c_isnI, c_isN, c_isI, c_isnL, c_isnT, c_isL, c_isT, o_band, o_shr, len_t0, tup_t, call_8, call_9, call_10, call_11, call_12, rb_ok, rb_bad, rb_exc, ra_ok, ra_bad, ra_exc, ft_nx, ft_rt, ft_bad, ft_xc, List.set_cons_zero, List.set_cons_succ, List.nil_append, List.cons_append, Bool.not_true, Bool.not_false, decide_true, decide_false, eq_self, Int.reduceEq, Bool.false_or, Bool.or_false, Bool.true_or, Bool.or_true, Bool.true_and, Bool.and_true, Bool.false_and, Bool.and_false, Bool.or_self, Bool.and_self, v_asked_bar Dd h1 h2, o_mod (show (0 : Int) < 2 by decide), o_fdiv (show divOk 4 = true by decide +kernel)]
theorem bar_mod (a b c : Int) : (b * b - 4 * a * c) % 4 ≤ 1 ∧ (b * b - 4 * a * c) % 2 = b % 2 := by
  have e : 4 * a * c = 4 * (a * c) := by grind
  rw [e]
  obtain ⟨q, r, hb, hr⟩ : ∃ q r, b = 2 * q + r ∧ (r = 0 ∨ r = 1) := ⟨b / 2, b % 2, by omega, by omega⟩
  have sq : b * b = 4 * (q * q + q * r) + r * r := by rw [hb]; grind
  rcases hr with hr | hr <;> subst hr <;> rw [sq] <;> omega
/-- the neutral form -/
theorem neutral_ok {Dd : Int} (h1 : Dd < 0) (h2 : Dd % 4 ≤ 1) : ∃ t c, Dd % 2 = t ∧ (Dd % 2 - Dd) / 4 = c ∧ Least 1 t c ∧ t * t - 4 * 1 * c = Dd ∧ t - 4 * c = Dd ∧ (t = 0 ∨ t = 1) := by
  refine ⟨_, _, rfl, rfl, ⟨by omega, by omega, by omega, by omega⟩, ?_, by omega, by omega⟩
  rcases Int.emod_two_eq Dd with e | e <;> rw [e] <;> omega
/-- a form that starts with 1 is one with the neutral form -/
theorem neutral_lead {b m Dd t c : Int} (hD : b * b - 4 * m = Dd) (ht : Dd % 2 = t) (hc : t * t - 4 * 1 * c = Dd) : ∃ p q r s, Leads 1 b m p q r s 1 t c := by
  have e := (bar_mod 1 b m).2
  have e2 : b * b - 4 * 1 * m = Dd := by omega
  rw [e2, ht] at e
  obtain ⟨x, hx⟩ : ∃ x, t = b + 2 * x := ⟨(t - b) / 2, by omega⟩
  refine ⟨1, x, 0, 1, by grind, by grind, ?_, ?_⟩
  · rw [hx]; grind
  · have : 4 * (1 * x * x + b * x * 1 + m * 1 * 1) = (b + 2 * x) * (b + 2 * x) - (b * b - 4 * m) := by grind
    rw [hD, ← hx] at this
    omega
theorem swap_lead (a b c : Int) : Leads a b c 0 (-1) 1 0 c (-b) a := ⟨by decide, by grind, by grind, by grind⟩
theorem gcd_mul {a d b : Int} (h1 : Int.gcd a b = 1) (h2 : Int.gcd d b = 1) : Int.gcd (a * d) b = 1 := by
  unfold Int.gcd at *
  rw [Int.natAbs_mul]
  exact Nat.Coprime.mul_left h1 h2
/-- joined, in short: a least form of the class -/
theorem v_join_class {a b d k p q r s p' q' r' s' a1 b1 c1 a2 b2 c2 : Int} (L1 : Leads a b (d * k) p q r s a1 b1 c1) (L2 : Leads d b (a * k) p' q' r' s' a2 b2 c2) (pa : 0 < a) (pd : 0 < d) (v1 : b * b < 4 * a * (d * k)) (g1 : gcd3 a b (d * k) = 1) (g2 : gcd3 d b (a * k) = 1)
    (B1 : Bd 1900 a1) (B2 : Bd 1900 b1) (B3 : Bd 1900 c1) (B4 : Bd 1900 a2) (B5 : Bd 1900 b2) (B6 : Bd 1900 c2) :
    ∃ A B C r1 r2 p q r s, sem_joined [(PyData.tuple [PyData.int a1, PyData.int b1, PyData.int c1]), (PyData.tuple [PyData.int a2, PyData.int b2, PyData.int c2])] = .ok (.tuple [(PyData.tuple [PyData.int A, PyData.int B, PyData.int C]), r1, r2]) ∧ Least A B C ∧ 0 < A ∧ B * B - 4 * A * C = b1 * b1 - 4 * a1 * c1 ∧ Leads (a * d) b k p q r s A B C := by
  have bars : b * b - 4 * a * (d * k) = b * b - 4 * d * (a * k) := by grind
  have v2 : b * b < 4 * d * (a * k) := by omega
  obtain ⟨P1, P2⟩ := L1.pos pa v1
  obtain ⟨P1', P2'⟩ := L2.pos pd v2
  have q1 := L1.bar
  have q2 := L2.bar
  have w1 := bare_lead L1 g1
  have w2 := bare_lead L2 g2
  obtain ⟨M1, M2, M3, k1, k2, k3, k4, l1, l2, l3, l4, ej, J, hle, hM, hbar, _⟩ := v_joined a1 b1 c1 a2 b2 c2 B1 B2 B3 B4 B5 B6 (by omega) P1 P2 P1' P2' (by omega) w1 w2
  obtain ⟨_, _, _, _, T⟩ := joined_class L1 L2 J (by omega) w1
  exact ⟨M1, M2, M3, _, _, _, _, _, _, ej, hle, hM, hbar, T⟩
theorem v_join_class' {a b d k p q r s p' q' r' s' a1 b1 c1 a2 b2 c2 : Int} (L1 : Leads a b (d * k) p q r s a1 b1 c1) (L2 : Leads d b (a * k) p' q' r' s' a2 b2 c2) (pa : 0 < a) (pd : 0 < d) (v1 : b * b < 4 * a * (d * k)) (g1 : gcd3 a b (d * k) = 1) (g2 : gcd3 d b (a * k) = 1)
    (B1 : Bd 1900 a1) (B2 : Bd 1900 b1) (B3 : Bd 1900 c1) (B4 : Bd 1900 a2) (B5 : Bd 1900 b2) (B6 : Bd 1900 c2) :
    ∃ A B C r1 r2 p q r s, sem_joined [(PyData.tuple [PyData.int a2, PyData.int b2, PyData.int c2]), (PyData.tuple [PyData.int a1, PyData.int b1, PyData.int c1])] = .ok (.tuple [(PyData.tuple [PyData.int A, PyData.int B, PyData.int C]), r1, r2]) ∧ Least A B C ∧ 0 < A ∧ B * B - 4 * A * C = b1 * b1 - 4 * a1 * c1 ∧ Leads (a * d) b k p q r s A B C := by
  have bars : b * b - 4 * a * (d * k) = b * b - 4 * d * (a * k) := by grind
  have q1 := L1.bar
  have q2 := L2.bar
  obtain ⟨A, B, C, r1, r2, p, q, r, s, e, h1, h2, h3, h4⟩ := v_join_class L2 L1 pd pa (by omega) g2 g1 B4 B5 B6 B1 B2 B3
  rw [Int.mul_comm d a] at h4
  exact ⟨A, B, C, r1, r2, p, q, r, s, e, h1, h2, by omega, h4⟩
theorem v_opposite (a b c : Int) {n : Nat} (Ba : Bd n a) (Bb : Bd n b) (Bc : Bd n c) (hn : n ≤ 8000) (h1 : 0 < a) (h2 : b * b < 4 * a * c) (g : gcd3 a b c = 1) :
    ∃ A B C p q r s, sem_opposite [(PyData.tuple [PyData.int a, PyData.int b, PyData.int c])] = .ok (PyData.tuple [PyData.int A, PyData.int B, PyData.int C]) ∧ Leads a (-b) c p q r s A B C ∧ Least A B C ∧ Bd n A ∧ Bd n B ∧ Bd n C := by
  have h3 : -b * -b < 4 * a * c := by rw [Int.neg_mul_neg]; exact h2
  obtain ⟨A, B, C, p, q, r, s, e, L, hl, T1, T2, T3, _⟩ := v_least_of a (-b) c h1 h3 Ba Bd.neg Bc hn
  refine ⟨A, B, C, p, q, r, s, ?_, L, hl, T1, T2, T3⟩
  have i := v_is_bare a b c Ba Bb Bc (by omega) h1 h2
  rw [decide_eq_true g] at i
  show (evSs G_opposite b_opposite [some (.sh _)]).ans = _
  unfold b_opposite G_opposite
  simp (disch := first | exact mulOk_bd | assumption | omega) only [evE_v0, evE_v1, evE_v2, evE_v3, evE_v4, evE_v5, evE_v6, evE_v7, evE_v8, evE_v9, evE_v10, evE_int, evE_bl, evE_non, evE_str, evE_bin, evE_neg, evE_not, evE_cmp, evE_tup, evE_lst, evE_ix, evE_call, evE_bi, evE_sl, evE_isi, andB_t, andB_f, orB_t, orB_f, andB_b, orB_b, evE_and, evE_or, evAnd_one, evOr_one, evAnd_two, evOr_two, evEs_nil, evEs_cons, evSs_nil, evSs_cons, evS_ex, evS_ret, ifB_t, ifB_f, evS_ife, evS_raise, evS_for, seq_t, seq_l, it_seq, ans_nx, ans_rt, ans_xc, forL_nil, forL_cons, ix_t0, ix_t1, ix_t2, ix_t3, o_add, o_sub, o_mul, o_fdiv, o_mod, o_neg, o_not, c_lt, c_le, c_gt, c_ge, c_eq, c_ne, c_eq2, c_ne2, c_eq3, c_ne3, c_is, c_isnot, isi_tt, isi_lt, isi_it, isi_ii, isi_ib, isi_ll, len_t1, len_t2, len_t3, len_t4, len_l, abs_i, tup_l, part_0, part_1, sl_l, call_0, call_1, call_2, call_3, call_4, call_5, call_6, call_7, glob_0, glob_1, glob_2, evE_v11, evE_v12, evE_v13, evE_v14, evE_v15, evE_v16, evE_v17, evE_v18, evE_v19, evE_v20, evS_set0, evS_setL0, evS_set1, evS_setL1, evS_set2, evS_setL2, evS_set3, evS_setL3, evS_set4, evS_setL4, evS_set5, evS_setL5, evS_set6, evS_setL6, evS_set7, evS_setL7, evS_set8, evS_setL8, evS_set9, evS_setL9, evS_set10, evS_setL10, evS_set11, evS_setL11, evS_set12, evS_setL12, evS_set13, evS_setL13, evS_set14, evS_setL14, evS_set15, evS_setL15, evS_set16, evS_setL16, evS_set17, evS_setL17, evS_set18, evS_setL18, evS_set19, evS_setL19, evS_set20, evS_setL20, evS_app0, evS_frz0, evS_frs0, evE_ixo0, evS_aug0, evS_app1, evS_frz1, evS_frs1, evE_ixo1, evS_aug1, evS_app2, evS_frz2, evS_frs2, evE_ixo2, evS_aug2, evS_app3, evS_frz3, evS_frs3, evE_ixo3, evS_aug3, evS_app4, evS_frz4, evS_frs4, evE_ixo4, evS_aug4, evS_app5, evS_frz5, evS_frs5, evE_ixo5, evS_aug5, evS_app6, evS_frz6, evS_frs6, evE_ixo6, evS_aug6, evS_app7, evS_frz7, evS_frs7, evE_ixo7, evS_aug7, evS_app8, evS_frz8, evS_frs8, evE_ixo8, evS_aug8, evS_app9, evS_frz9, evS_frs9, evE_ixo9, evS_aug9, evS_app10, evS_frz10, evS_frs10, evE_ixo10, evS_aug10, evS_app11, evS_frz11, evS_frs11, evE_ixo11, evS_aug11, evS_app12, evS_frz12, evS_frs12, evE_ixo12, evS_aug12, evS_app13, evS_frz13, evS_frs13, evE_ixo13, evS_aug13, evS_app14, evS_frz14, evS_frs14, evE_ixo14, evS_aug14, evS_app15, evS_frz15, evS_frs15, evE_ixo15, evS_aug15, evS_app16, evS_frz16, evS_frs16, evE_ixo16, evS_aug16, evS_pass, evE_ife, ifE_t, ifE_f, it_rng1, it_rng2, c_isnN, c_isnI, c_isN, c_isI, c_isnL, c_isnT, c_isL, c_isT, o_band, o_shr, len_t0, tup_t, call_8, call_9, call_10, call_11, call_12, rb_ok, rb_bad, rb_exc, ra_ok, ra_bad, ra_exc, ft_nx, ft_rt, ft_bad, ft_xc, List.set_cons_zero, List.set_cons_succ, List.nil_append, List.cons_append, Bool.not_true, Bool.not_false, decide_true, decide_false, eq_self, Int.reduceEq, Bool.false_or, Bool.or_false, Bool.true_or, Bool.or_true, Bool.true_and, Bool.and_true, Bool.false_and, Bool.and_false, Bool.or_self, Bool.and_self, i, e]
theorem w_stays {a b K A B C p q r s : Int} (L : Leads a b K p q r s A B C) (pa : 0 < a) (v1 : b * b < 4 * a * K) (g : gcd3 a b K = 1) (B1 : Bd 1900 A) (B2 : Bd 1900 B) (B3 : Bd 1900 C) (BD : Bd 1900 (b * b - 4 * a * K)) (Ba : Bd 1900 a) :
    sem__law_stays [(PyData.tuple [PyData.int A, PyData.int B, PyData.int C]), .int (b * b - 4 * a * K)] = .ok (.bool true) := by
  obtain ⟨P1, P2⟩ := L.pos pa v1
  have q1 := L.bar
  have gA := bare_lead L g
  obtain ⟨m1, m2⟩ := bar_mod a b K
  obtain ⟨Dd, hD⟩ : ∃ Dd, b * b - 4 * a * K = Dd := ⟨_, rfl⟩
  have hneg : Dd < 0 := by omega
  rw [hD] at BD q1 m1 m2 ⊢
  have en := v_neutral Dd hneg m1
  obtain ⟨t, c, ht, hc, hl, hbar, hb2, t01⟩ := neutral_ok hneg m1
  rw [hc, ht] at en
  have BN := least_bd hl (by decide) (by rw [hbar]; exact BD)
  -- the neutral form
  have e1 : b * b - 4 * (a * K) = Dd := by rw [← hD]; grind
  obtain ⟨_, _, _, _, N⟩ := neutral_lead (m := a * K) e1 ht hbar
  have L' : Leads a b (1 * K) p q r s A B C := by rw [Int.one_mul]; exact L
  have v1' : b * b < 4 * a * (1 * K) := by rw [Int.one_mul]; exact v1
  have g' : gcd3 a b (1 * K) = 1 := by rw [Int.one_mul]; exact g
  have g1 : gcd3 1 b (a * K) = 1 := bare_of _ Int.one_gcd
  obtain ⟨X1, X2, X3, r1, r2, _, _, _, _, j1, x1, x2, x3, x4⟩ := v_join_class L' N pa (by decide) v1' g' g1 B1 B2 B3 BN.1 BN.2.1 BN.2.2
  obtain ⟨Y1, Y2, Y3, r3, r4, _, _, _, _, j2, y1, y2, y3, y4⟩ := v_join_class' L' N pa (by decide) v1' g' g1 B1 B2 B3 BN.1 BN.2.1 BN.2.2
  obtain ⟨Z1, Z2, Z3, z1, z2, z3, z4, e, M, z5, _⟩ := v_least_of A B C P1 P2 B1 B2 B3 (by omega)
  have LM := L.then M
  rw [Int.mul_one] at x4 y4
  obtain ⟨u1, u2, u3⟩ := least_one x4 LM x1 z5 x2
  obtain ⟨w1, w2, w3⟩ := least_one x4 y4 x1 y1 x2
  subst u1 u2 u3 w1 w2 w3
  -- the opposite
  obtain ⟨O1, O2, O3, _, _, _, _, eo, oL, ol, o1, o2, o3⟩ := v_opposite A B C B1 B2 B3 (by omega) P1 P2 gA
  have sw := (swap_lead A (-B) C).back
  rw [Int.neg_neg] at sw
  have S2 := sw.then oL
  have hC := form_pos P1 P2
  have LA : Leads A B (C * 1) 1 0 0 1 A B C := by rw [Int.mul_one]; exact Leads.id A B C
  obtain ⟨_, _, _, _, SA⟩ : ∃ p q r s, Leads C B (A * 1) p q r s O1 O2 O3 := ⟨_, _, _, _, by rw [Int.mul_one]; exact S2⟩
  have gC : gcd3 C B (A * 1) = 1 := by
    rw [Int.mul_one]
    have := bare_lead (swap_lead A B C) gA
    have k : gcd3 C B A = gcd3 C (-B) A := by
      unfold gcd3
      rw [Int.gcd_neg]
    rw [k]
    exact this
  obtain ⟨W1, W2, W3, r5, r6, _, _, _, _, j3, w1, w2, w3, w4⟩ := v_join_class LA SA P1 hC (by rw [Int.mul_one]; exact P2) (by rw [Int.mul_one]; exact gA) gC B1 B2 B3 o1 o2 o3
  have sw2 := (swap_lead (A * C) B 1)
  obtain ⟨_, _, _, _, N2⟩ := neutral_lead (b := -B) (m := A * C) (by rw [Int.neg_mul_neg, ← q1]; grind) ht hbar
  obtain ⟨i1, i2, i3⟩ := least_one w4 (sw2.then N2) w1 hl w2
  subst i1 i2 i3
  show (evSs G__law_stays b__law_stays [some (.sh _), some (.sh _), none]).ans = _
  unfold b__law_stays G__law_stays
  have nb := BN.2.2
  clear BN B1 B2 B3 o1 o2 o3 BD Ba
  simp (disch := first | exact mulOk_bd | assumption | omega) only [evE_v0, evE_v1, evE_v2, evE_v3, evE_v4, evE_v5, evE_v6, evE_v7, evE_v8, evE_v9, evE_v10, evE_int, evE_bl, evE_non, evE_str, evE_bin, evE_neg, evE_not, evE_cmp, evE_tup, evE_lst, evE_ix, evE_call, evE_bi, evE_sl, evE_isi, andB_t, andB_f, orB_t, orB_f, andB_b, orB_b, evE_and, evE_or, evAnd_one, evOr_one, evAnd_two, evOr_two, evEs_nil, evEs_cons, evSs_nil, evSs_cons, evS_ex, evS_ret, ifB_t, ifB_f, evS_ife, evS_raise, evS_for, seq_t, seq_l, it_seq, ans_nx, ans_rt, ans_xc, forL_nil, forL_cons, ix_t0, ix_t1, ix_t2, ix_t3, o_add, o_sub, o_mul, o_fdiv, o_mod, o_neg, o_not, c_lt, c_le, c_gt, c_ge, c_eq, c_ne, c_eq2, c_ne2, c_eq3, c_ne3, c_is, c_isnot, isi_tt, isi_lt, isi_it, isi_ii, isi_ib, isi_ll, len_t1, len_t2, len_t3, len_t4, len_l, abs_i, tup_l, part_0, part_1, sl_l, call_0, call_1, call_2, call_3, call_4, call_5, call_6, call_7, glob_0, glob_1, glob_2, evE_v11, evE_v12, evE_v13, evE_v14, evE_v15, evE_v16, evE_v17, evE_v18, evE_v19, evE_v20, evS_set0, evS_setL0, evS_set1, evS_setL1, evS_set2, evS_setL2, evS_set3, evS_setL3, evS_set4, evS_setL4, evS_set5, evS_setL5, evS_set6, evS_setL6, evS_set7, evS_setL7, evS_set8, evS_setL8, evS_set9, evS_setL9, evS_set10, evS_setL10, evS_set11, evS_setL11, evS_set12, evS_setL12, evS_set13, evS_setL13, evS_set14, evS_setL14, evS_set15, evS_setL15, evS_set16, evS_setL16, evS_set17, evS_setL17, evS_set18, evS_setL18, evS_set19, evS_setL19, evS_set20, evS_setL20, evS_app0, evS_frz0, evS_frs0, evE_ixo0, evS_aug0, evS_app1, evS_frz1, evS_frs1, evE_ixo1, evS_aug1, evS_app2, evS_frz2, evS_frs2, evE_ixo2, evS_aug2, evS_app3, evS_frz3, evS_frs3, evE_ixo3, evS_aug3, evS_app4, evS_frz4, evS_frs4, evE_ixo4, evS_aug4, evS_app5, evS_frz5, evS_frs5, evE_ixo5, evS_aug5, evS_app6, evS_frz6, evS_frs6, evE_ixo6, evS_aug6, evS_app7, evS_frz7, evS_frs7, evE_ixo7, evS_aug7, evS_app8, evS_frz8, evS_frs8, evE_ixo8, evS_aug8, evS_app9, evS_frz9, evS_frs9, evE_ixo9, evS_aug9, evS_app10, evS_frz10, evS_frs10, evE_ixo10, evS_aug10, evS_app11, evS_frz11, evS_frs11, evE_ixo11, evS_aug11, evS_app12, evS_frz12, evS_frs12, evE_ixo12, evS_aug12, evS_app13, evS_frz13, evS_frs13, evE_ixo13, evS_aug13, evS_app14, evS_frz14, evS_frs14, evE_ixo14, evS_aug14, evS_app15, evS_frz15, evS_frs15, evE_ixo15, evS_aug15, evS_app16, evS_frz16, evS_frs16, evE_ixo16, evS_aug16, evS_pass, evE_ife, ifE_t, ifE_f, it_rng1, it_rng2, c_isnN, c_isnI, c_isN, c_isI, c_isnL, c_isnT, c_isL, c_isT, o_band, o_shr, len_t0, tup_t, call_8, call_9, call_10, call_11, call_12, rb_ok, rb_bad, rb_exc, ra_ok, ra_bad, ra_exc, ft_nx, ft_rt, ft_bad, ft_xc, List.set_cons_zero, List.set_cons_succ, List.nil_append, List.cons_append, Bool.not_true, Bool.not_false, decide_true, decide_false, eq_self, Int.reduceEq, Bool.false_or, Bool.or_false, Bool.true_or, Bool.or_true, Bool.true_and, Bool.and_true, Bool.false_and, Bool.and_false, Bool.or_self, Bool.and_self, en, w_ints3, o_mod (show (0 : Int) < 2 by decide), ht, hb2, j1, j2, e, eo, j3, decide_true]
end FT

namespace FT
open PySem PySem.Spec PyProof.Rows L2
/-! ### powers of a class: (a ^ i, B, a ^ (N - i) k) -/
theorem gcd_powi {a b : Int} (h : Int.gcd a b = 1) : ∀ i : Nat, Int.gcd (a ^ i) b = 1
  | 0 => by rw [Int.pow_zero]; exact Int.one_gcd
  | i + 1 => by rw [Int.pow_succ]; exact gcd_mul (gcd_powi h i) h
structure Base (a B k : Int) (N : Nat) (Dd : Int) : Prop where
  pa : 0 < a
  g : Int.gcd a B = 1
  bar : B * B - 4 * (a ^ N * k) = Dd
  neg : Dd < 0
  bd : Bd 1900 Dd
structure Pw (a B k : Int) (N : Nat) (Dd : Int) (i : Nat) (A1 A2 A3 : Int) : Prop where
  cl : ∃ p q r s, Leads (a ^ i) B (a ^ (N - i) * k) p q r s A1 A2 A3
  least : Least A1 A2 A3
  pos : 0 < A1
  bar : A2 * A2 - 4 * A1 * A3 = Dd
section
variable {a B k Dd : Int} {N : Nat}
theorem Base.flip (b : Base a B k N Dd) : Base a (-B) k N Dd := ⟨b.pa, by rw [Int.gcd_neg]; exact b.g, by rw [Int.neg_mul_neg]; exact b.bar, b.neg, b.bd⟩
theorem Base.pk (b : Base a B k N Dd) : 0 < k := by
  have h := b.bar
  have n := b.neg
  have s := sq_nonneg B
  have p : 0 < a ^ N := Int.pow_pos b.pa
  rcases Int.lt_or_le 0 k with t | t
  · exact t
  · have : a ^ N * k ≤ 0 := Int.mul_nonpos_of_nonneg_of_nonpos (by omega) t
    omega
theorem pw_split (a k : Int) {N i j : Nat} (h : i + j ≤ N) : a ^ (N - i) * k = a ^ j * (a ^ (N - i - j) * k) := by
  rw [← Int.mul_assoc, ← Int.pow_add, show j + (N - i - j) = N - i by omega]
theorem Base.v (b : Base a B k N Dd) {i : Nat} (h : i ≤ N) : B * B < 4 * a ^ i * (a ^ (N - i) * k) := by
  have e : 4 * a ^ i * (a ^ (N - i) * k) = 4 * (a ^ N * k) := by
    have : a ^ N = a ^ i * a ^ (N - i) := by rw [← Int.pow_add, show i + (N - i) = N by omega]
    rw [this]; grind
  have := b.bar
  have := b.neg
  omega
theorem Pw.bd {i : Nat} {A1 A2 A3 : Int} (b : Base a B k N Dd) (f : Pw a B k N Dd i A1 A2 A3) : Bd 1900 A1 ∧ Bd 1900 A2 ∧ Bd 1900 A3 := least_bd f.least f.pos (by rw [f.bar]; exact b.bd)
theorem Pw.one {i : Nat} {A1 A2 A3 C1 C2 C3 : Int} (f : Pw a B k N Dd i A1 A2 A3) (g : Pw a B k N Dd i C1 C2 C3) : A1 = C1 ∧ A2 = C2 ∧ A3 = C3 := by
  obtain ⟨_, _, _, _, L⟩ := f.cl
  obtain ⟨_, _, _, _, M⟩ := g.cl
  exact least_one L M f.least g.least f.pos
theorem pw_mul {i j : Nat} {A1 A2 A3 C1 C2 C3 : Int} (b : Base a B k N Dd) (f : Pw a B k N Dd i A1 A2 A3) (g : Pw a B k N Dd j C1 C2 C3) (h : i + j ≤ N) :
    ∃ E1 E2 E3 r1 r2, sem_joined [(PyData.tuple [PyData.int A1, PyData.int A2, PyData.int A3]), (PyData.tuple [PyData.int C1, PyData.int C2, PyData.int C3])] = .ok (.tuple [(PyData.tuple [PyData.int E1, PyData.int E2, PyData.int E3]), r1, r2]) ∧ Pw a B k N Dd (i + j) E1 E2 E3 := by
  obtain ⟨_, _, _, _, L⟩ := f.cl
  obtain ⟨_, _, _, _, M⟩ := g.cl
  obtain ⟨B1, B2, B3⟩ := f.bd b
  obtain ⟨B4, B5, B6⟩ := g.bd b
  have v1 := b.v (i := i) (by omega)
  rw [pw_split a k h] at L v1
  rw [pw_split a k (show j + i ≤ N by omega), show N - j - i = N - i - j by omega] at M
  obtain ⟨E1, E2, E3, r1, r2, _, _, _, _, e, h1, h2, h3, h4⟩ := v_join_class L M (Int.pow_pos b.pa) (Int.pow_pos b.pa) v1 (bare_of _ (gcd_powi b.g i)) (bare_of _ (gcd_powi b.g j)) B1 B2 B3 B4 B5 B6
  rw [← Int.pow_add, show N - i - j = N - (i + j) by omega] at h4
  exact ⟨E1, E2, E3, r1, r2, e, ⟨_, _, _, _, h4⟩, h1, h2, h3.trans f.bar⟩
theorem pw_mix {i j : Nat} {A1 A2 A3 C1 C2 C3 : Int} (b : Base a B k N Dd) (f : Pw a B k N Dd i A1 A2 A3) (g : Pw a (-B) k N Dd j C1 C2 C3) (h : i ≤ j) (hj : j ≤ N) :
    (∃ E1 E2 E3 r1 r2, sem_joined [(PyData.tuple [PyData.int A1, PyData.int A2, PyData.int A3]), (PyData.tuple [PyData.int C1, PyData.int C2, PyData.int C3])] = .ok (.tuple [(PyData.tuple [PyData.int E1, PyData.int E2, PyData.int E3]), r1, r2]) ∧ Pw a (-B) k N Dd (j - i) E1 E2 E3) ∧
    (∃ E1 E2 E3 r1 r2, sem_joined [(PyData.tuple [PyData.int C1, PyData.int C2, PyData.int C3]), (PyData.tuple [PyData.int A1, PyData.int A2, PyData.int A3])] = .ok (.tuple [(PyData.tuple [PyData.int E1, PyData.int E2, PyData.int E3]), r1, r2]) ∧ Pw a (-B) k N Dd (j - i) E1 E2 E3) := by
  obtain ⟨_, _, _, _, L⟩ := f.cl
  obtain ⟨_, _, _, _, M⟩ := g.cl
  obtain ⟨B1, B2, B3⟩ := f.bd b
  obtain ⟨B4, B5, B6⟩ := g.bd b.flip
  have v1 := b.v (i := i) (by omega)
  have e1 : a ^ (N - i) * k = a ^ (N - j) * k * a ^ (j - i) := by
    have : a ^ (N - i) = a ^ (N - j) * a ^ (j - i) := by rw [← Int.pow_add, show N - j + (j - i) = N - i by omega]
    rw [this]; grind
  have e2 : a ^ j = a ^ i * a ^ (j - i) := by rw [← Int.pow_add, show i + (j - i) = j by omega]
  have sw := (swap_lead (a ^ j) (-B) (a ^ (N - j) * k)).back
  have g3 : gcd3 (a ^ (N - j) * k) (- -B) (a ^ j) = 1 := bare_lead (swap_lead (a ^ j) (-B) (a ^ (N - j) * k)) (bare_of _ (by rw [Int.gcd_neg]; exact gcd_powi b.g j))
  have M2 := sw.then M
  rw [Int.neg_neg] at M2 g3
  rw [e2] at M2 g3
  rw [e1] at L v1
  have pX : 0 < a ^ (N - j) * k := Int.mul_pos (Int.pow_pos b.pa) b.pk
  have e3 : a ^ i * (a ^ (N - j) * k) = a ^ (N - (j - i)) * k := by rw [← Int.mul_assoc, ← Int.pow_add, show i + (N - j) = N - (j - i) by omega]
  have fin : ∀ {E1 E2 E3 p q r s : Int}, Least E1 E2 E3 → 0 < E1 → E2 * E2 - 4 * E1 * E3 = A2 * A2 - 4 * A1 * A3 → Leads (a ^ i * (a ^ (N - j) * k)) B (a ^ (j - i)) p q r s E1 E2 E3 → Pw a (-B) k N Dd (j - i) E1 E2 E3 := by
    intro E1 E2 E3 p q r s h1 h2 h3 h4
    rw [e3] at h4
    exact ⟨⟨_, _, _, _, (swap_lead (a ^ (N - (j - i)) * k) B (a ^ (j - i))).back.then h4⟩, h1, h2, h3.trans f.bar⟩
  obtain ⟨E1, E2, E3, r1, r2, _, _, _, _, e, h1, h2, h3, h4⟩ := v_join_class L M2 (Int.pow_pos b.pa) pX v1 (bare_of _ (gcd_powi b.g i)) g3 B1 B2 B3 B4 B5 B6
  obtain ⟨E1', E2', E3', r1', r2', _, _, _, _, e', h1', h2', h3', h4'⟩ := v_join_class' L M2 (Int.pow_pos b.pa) pX v1 (bare_of _ (gcd_powi b.g i)) g3 B1 B2 B3 B4 B5 B6
  exact ⟨⟨E1, E2, E3, r1, r2, e, fin h1 h2 h3 h4⟩, ⟨E1', E2', E3', r1', r2', e', fin h1' h2' h3' h4'⟩⟩
/-- the neutral form is the power nought -/
theorem pw_zero (b : Base a B k N Dd) : ∃ t c, sem_neutral [.int Dd] = .ok (PyData.tuple [PyData.int 1, PyData.int t, PyData.int c]) ∧ Pw a B k N Dd 0 1 t c := by
  obtain ⟨m1, m2⟩ := bar_mod (a ^ N) B k
  have hb : B * B - 4 * a ^ N * k = Dd := by rw [← b.bar]; grind
  rw [hb] at m1 m2
  have en := v_neutral Dd b.neg m1
  obtain ⟨t, c, ht, hc, hl, hbar, hb2, t01⟩ := neutral_ok b.neg m1
  rw [hc, ht] at en
  obtain ⟨_, _, _, _, L⟩ := neutral_lead (b := B) (m := a ^ N * k) b.bar ht hbar
  exact ⟨t, c, en, ⟨_, _, _, _, by rw [Int.pow_zero]; exact L⟩, hl, by decide, hbar⟩
end
/-! ### lifting -/
theorem lift {a b c : Int} (pa : 0 < a) (h : Int.gcd a b = 1) : ∀ N : Nat, ∃ B k x, B = b + 2 * a * x ∧ B * B - 4 * (a ^ (N + 1) * k) = b * b - 4 * a * c ∧ Int.gcd a B = 1
  | 0 => ⟨b, c, 0, by omega, by rw [Int.pow_succ, Int.pow_zero]; grind, h⟩
  | N + 1 => by
    obtain ⟨B, k, x, h1, h2, h3⟩ := lift (c := c) pa h N
    obtain ⟨u, v, e⟩ := bez _ a B (Nat.le_refl _)
    rw [h3] at e
    have e : u * a + v * B = 1 := e
    refine ⟨B + 2 * a ^ (N + 1) * (-(k * v)), u * k + a ^ N * (k * v) * (k * v), x + a ^ N * (-(k * v)), ?_, ?_, ?_⟩
    · rw [h1, Int.pow_succ]; grind
    · have p1 : a ^ (N + 1 + 1) = a ^ N * a * a := by rw [Int.pow_succ, Int.pow_succ]
      have p2 : a ^ (N + 1) = a ^ N * a := Int.pow_succ a N
      rw [p1, p2]
      rw [p2] at h2
      have key : k = k * (u * a + v * B) := by rw [e, Int.mul_one]
      have : (B + 2 * (a ^ N * a) * -(k * v)) * (B + 2 * (a ^ N * a) * -(k * v)) - 4 * (a ^ N * a * a * (u * k + a ^ N * (k * v) * (k * v))) = B * B - 4 * (a ^ N * a * (k * (u * a + v * B))) := by grind
      rw [this, ← key]
      exact h2
    · have p2 : a ^ (N + 1) = a ^ N * a := Int.pow_succ a N
      rw [p2]
      have : B + 2 * (a ^ N * a) * -(k * v) = B + (2 * a ^ N * -(k * v)) * a := by grind
      rw [this, Int.gcd_add_mul_right_right]
      exact h3
/-- the form itself is the power one -/
theorem lift_lead {a b c B k x : Int} {N : Nat} (h1 : B = b + 2 * a * x) (h2 : B * B - 4 * (a ^ (N + 1) * k) = b * b - 4 * a * c) (pa : 0 < a) : Leads a b c 1 x 0 1 (a ^ 1) B (a ^ (N + 1 - 1) * k) := by
  refine ⟨by grind, by rw [Int.pow_succ, Int.pow_zero]; grind, by rw [h1]; grind, ?_⟩
  have : 4 * a * (a * x * x + b * x * 1 + c * 1 * 1) = 4 * a * (a ^ N * k) := by
    have p2 : a ^ (N + 1) = a ^ N * a := Int.pow_succ a N
    rw [p2] at h2
    rw [h1] at h2
    grind
  exact Int.eq_of_mul_eq_mul_left (by omega) this
/-- turned about -/
theorem Leads.mirror {a b c p q r s A B C : Int} (L : Leads a b c p q r s A B C) : Leads a (-b) c p (-q) (-r) s A (-B) C := by
  obtain ⟨d, e1, e2, e3⟩ := L
  exact ⟨by grind, by grind, by grind, by grind⟩
end FT

namespace FT
open PySem PySem.Spec PyProof.Rows L2
noncomputable abbrev rpc : En → R D := fun ρ => evE G_repeated (.cmp .gt (.v 4) (.int 0)) ρ
noncomputable abbrev rpb : En → Fl := fun ρ => evSs G_repeated w1_repeated ρ
section
variable {a B k Dd : Int} {N : Nat}
theorem rp_loop (b : Base a B k N Dd) {d1 d2 : D} : ∀ (fuel left e r : Nat) (S1 S2 S3 F1 F2 F3' : Int), left ≤ fuel → Pw a B k N Dd e S1 S2 S3 → Pw a B k N Dd r F1 F2 F3' → r + 2 * (e * left) ≤ N → 2 * e * (min left 1) ≤ N →
    ∃ E1 E2 E3 s2 s4, whileL rpc rpb [some (.sh d1), some (.sh d2), some (.sh (PyData.tuple [PyData.int S1, PyData.int S2, PyData.int S3])), some (.sh (PyData.tuple [PyData.int F1, PyData.int F2, PyData.int F3'])), some (.sh (.int left))] = .nx [some (.sh d1), some (.sh d2), s2, some (.sh (PyData.tuple [PyData.int E1, PyData.int E2, PyData.int E3])), s4] ∧ Pw a B k N Dd (r + e * left) E1 E2 E3
  | fuel, left, e, r, S1, S2, S3, F1, F2, F3', hf, hS, hF, hN, hM => by
    by_cases h0 : left = 0
    · subst h0
      refine ⟨F1, F2, F3', some (.sh (PyData.tuple [PyData.int S1, PyData.int S2, PyData.int S3])), some (.sh (.int 0)), ?_, by rw [Nat.mul_zero, Nat.add_zero]; exact hF⟩
      rw [whileL_eq]
      have : rpc [some (.sh d1), some (.sh d2), some (.sh (PyData.tuple [PyData.int S1, PyData.int S2, PyData.int S3])), some (.sh (PyData.tuple [PyData.int F1, PyData.int F2, PyData.int F3'])), some (.sh (.int (0 : Nat)))] = .ok (.bool false) := by
        show evE G_repeated _ _ = _
        unfold G_repeated
        simp (disch := first | exact mulOk_bd | assumption | omega) only [evE_v0, evE_v1, evE_v2, evE_v3, evE_v4, evE_v5, evE_v6, evE_v7, evE_v8, evE_v9, evE_v10, evE_int, evE_bl, evE_non, evE_str, evE_bin, evE_neg, evE_not, evE_cmp, evE_tup, evE_lst, evE_ix, evE_call, evE_bi, evE_sl, evE_isi, andB_t, andB_f, orB_t, orB_f, andB_b, orB_b, evE_and, evE_or, evAnd_one, evOr_one, evAnd_two, evOr_two, evEs_nil, evEs_cons, evSs_nil, evSs_cons, evS_ex, evS_ret, ifB_t, ifB_f, evS_ife, evS_raise, evS_for, seq_t, seq_l, it_seq, ans_nx, ans_rt, ans_xc, forL_nil, forL_cons, ix_t0, ix_t1, ix_t2, ix_t3, o_add, o_sub, o_mul, o_fdiv, o_mod, o_neg, o_not, c_lt, c_le, c_gt, c_ge, c_eq, c_ne, c_eq2, c_ne2, c_eq3, c_ne3, c_is, c_isnot, isi_tt, isi_lt, isi_it, isi_ii, isi_ib, isi_ll, len_t1, len_t2, len_t3, len_t4, len_l, abs_i, tup_l, part_0, part_1, sl_l, call_0, call_1, call_2, call_3, call_4, call_5, call_6, call_7, glob_0, glob_1, glob_2, evE_v11, evE_v12, evE_v13, evE_v14, evE_v15, evE_v16, evE_v17, evE_v18, evE_v19, evE_v20, evS_set0, evS_setL0, evS_set1, evS_setL1, evS_set2, evS_setL2, evS_set3, evS_setL3, evS_set4, evS_setL4, evS_set5, evS_setL5, evS_set6, evS_setL6, evS_set7, evS_setL7, evS_set8, evS_setL8, evS_set9, evS_setL9, evS_set10, evS_setL10, evS_set11, evS_setL11, evS_set12, evS_setL12, evS_set13, evS_setL13, evS_set14, evS_setL14, evS_set15, evS_setL15, evS_set16, evS_setL16, evS_set17, evS_setL17, evS_set18, evS_setL18, evS_set19, evS_setL19, evS_set20, evS_setL20, evS_app0, evS_frz0, evS_frs0, evE_ixo0, evS_aug0, evS_app1, evS_frz1, evS_frs1, evE_ixo1, evS_aug1, evS_app2, evS_frz2, evS_frs2, evE_ixo2, evS_aug2, evS_app3, evS_frz3, evS_frs3, evE_ixo3, evS_aug3, evS_app4, evS_frz4, evS_frs4, evE_ixo4, evS_aug4, evS_app5, evS_frz5, evS_frs5, evE_ixo5, evS_aug5, evS_app6, evS_frz6, evS_frs6, evE_ixo6, evS_aug6, evS_app7, evS_frz7, evS_frs7, evE_ixo7, evS_aug7, evS_app8, evS_frz8, evS_frs8, evE_ixo8, evS_aug8, evS_app9, evS_frz9, evS_frs9, evE_ixo9, evS_aug9, evS_app10, evS_frz10, evS_frs10, evE_ixo10, evS_aug10, evS_app11, evS_frz11, evS_frs11, evE_ixo11, evS_aug11, evS_app12, evS_frz12, evS_frs12, evE_ixo12, evS_aug12, evS_app13, evS_frz13, evS_frs13, evE_ixo13, evS_aug13, evS_app14, evS_frz14, evS_frs14, evE_ixo14, evS_aug14, evS_app15, evS_frz15, evS_frs15, evE_ixo15, evS_aug15, evS_app16, evS_frz16, evS_frs16, evE_ixo16, evS_aug16, evS_pass, evE_ife, ifE_t, ifE_f, it_rng1, it_rng2, c_isnN, c_isnI, c_isN, c_isI, c_isnL, c_isnT, c_isL, c_isT, o_band, o_shr, len_t0, tup_t, call_8, call_9, call_10, call_11, call_12, rb_ok, rb_bad, rb_exc, ra_ok, ra_bad, ra_exc, ft_nx, ft_rt, ft_bad, ft_xc, List.set_cons_zero, List.set_cons_succ, List.nil_append, List.cons_append, Bool.not_true, Bool.not_false, decide_true, decide_false, eq_self, Int.reduceEq, Bool.false_or, Bool.or_false, Bool.true_or, Bool.or_true, Bool.true_and, Bool.and_true, Bool.false_and, Bool.and_false, Bool.or_self, Bool.and_self, decide_eq_false (show ¬ (0 : Int) < ((0 : Nat) : Int) by omega)]
      rw [this]
      rfl
    · match fuel, hf with
      | 0, hf => exact absurd hf (by omega)
      | fuel + 1, hf =>
        have hm1 : min left 1 = 1 := by omega
        rw [hm1, Nat.mul_one] at hM
        have hcc : rpc [some (.sh d1), some (.sh d2), some (.sh (PyData.tuple [PyData.int S1, PyData.int S2, PyData.int S3])), some (.sh (PyData.tuple [PyData.int F1, PyData.int F2, PyData.int F3'])), some (.sh (.int left))] = .ok (.bool true) := by
          show evE G_repeated _ _ = _
          unfold G_repeated
          simp (disch := first | exact mulOk_bd | assumption | omega) only [evE_v0, evE_v1, evE_v2, evE_v3, evE_v4, evE_v5, evE_v6, evE_v7, evE_v8, evE_v9, evE_v10, evE_int, evE_bl, evE_non, evE_str, evE_bin, evE_neg, evE_not, evE_cmp, evE_tup, evE_lst, evE_ix, evE_call, evE_bi, evE_sl, evE_isi, andB_t, andB_f, orB_t, orB_f, andB_b, orB_b, evE_and, evE_or, evAnd_one, evOr_one, evAnd_two, evOr_two, evEs_nil, evEs_cons, evSs_nil, evSs_cons, evS_ex, evS_ret, ifB_t, ifB_f, evS_ife, evS_raise, evS_for, seq_t, seq_l, it_seq, ans_nx, ans_rt, ans_xc, forL_nil, forL_cons, ix_t0, ix_t1, ix_t2, ix_t3, o_add, o_sub, o_mul, o_fdiv, o_mod, o_neg, o_not, c_lt, c_le, c_gt, c_ge, c_eq, c_ne, c_eq2, c_ne2, c_eq3, c_ne3, c_is, c_isnot, isi_tt, isi_lt, isi_it, isi_ii, isi_ib, isi_ll, len_t1, len_t2, len_t3, len_t4, len_l, abs_i, tup_l, part_0, part_1, sl_l, call_0, call_1, call_2, call_3, call_4, call_5, call_6, call_7, glob_0, glob_1, glob_2, evE_v11, evE_v12, evE_v13, evE_v14, evE_v15, evE_v16, evE_v17, evE_v18, evE_v19, evE_v20, evS_set0, evS_setL0, evS_set1, evS_setL1, evS_set2, evS_setL2, evS_set3, evS_setL3, evS_set4, evS_setL4, evS_set5, evS_setL5, evS_set6, evS_setL6, evS_set7, evS_setL7, evS_set8, evS_setL8, evS_set9, evS_setL9, evS_set10, evS_setL10, evS_set11, evS_setL11, evS_set12, evS_setL12, evS_set13, evS_setL13, evS_set14, evS_setL14, evS_set15, evS_setL15, evS_set16, evS_setL16, evS_set17, evS_setL17, evS_set18, evS_setL18, evS_set19, evS_setL19, evS_set20, evS_setL20, evS_app0, evS_frz0, evS_frs0, evE_ixo0, evS_aug0, evS_app1, evS_frz1, evS_frs1, evE_ixo1, evS_aug1, evS_app2, evS_frz2, evS_frs2, evE_ixo2, evS_aug2, evS_app3, evS_frz3, evS_frs3, evE_ixo3, evS_aug3, evS_app4, evS_frz4, evS_frs4, evE_ixo4, evS_aug4, evS_app5, evS_frz5, evS_frs5, evE_ixo5, evS_aug5, evS_app6, evS_frz6, evS_frs6, evE_ixo6, evS_aug6, evS_app7, evS_frz7, evS_frs7, evE_ixo7, evS_aug7, evS_app8, evS_frz8, evS_frs8, evE_ixo8, evS_aug8, evS_app9, evS_frz9, evS_frs9, evE_ixo9, evS_aug9, evS_app10, evS_frz10, evS_frs10, evE_ixo10, evS_aug10, evS_app11, evS_frz11, evS_frs11, evE_ixo11, evS_aug11, evS_app12, evS_frz12, evS_frs12, evE_ixo12, evS_aug12, evS_app13, evS_frz13, evS_frs13, evE_ixo13, evS_aug13, evS_app14, evS_frz14, evS_frs14, evE_ixo14, evS_aug14, evS_app15, evS_frz15, evS_frs15, evE_ixo15, evS_aug15, evS_app16, evS_frz16, evS_frs16, evE_ixo16, evS_aug16, evS_pass, evE_ife, ifE_t, ifE_f, it_rng1, it_rng2, c_isnN, c_isnI, c_isN, c_isI, c_isnL, c_isnT, c_isL, c_isT, o_band, o_shr, len_t0, tup_t, call_8, call_9, call_10, call_11, call_12, rb_ok, rb_bad, rb_exc, ra_ok, ra_bad, ra_exc, ft_nx, ft_rt, ft_bad, ft_xc, List.set_cons_zero, List.set_cons_succ, List.nil_append, List.cons_append, Bool.not_true, Bool.not_false, decide_true, decide_false, eq_self, Int.reduceEq, Bool.false_or, Bool.or_false, Bool.true_or, Bool.or_true, Bool.true_and, Bool.and_true, Bool.false_and, Bool.and_false, Bool.or_self, Bool.and_self, decide_eq_true (show (0 : Int) < (left : Int) by omega)]
        obtain ⟨T1, T2, T3, r3, r4, je, hT⟩ := pw_mul b hS hS (by omega)
        have hsh : ((left : Int)) / 2 ^ (1 : Int).toNat = ((left / 2 : Nat) : Int) := by
          show (left : Int) / (2 ^ 1) = _
          omega
        have hdiv : e * left = e * (left % 2) + (e + e) * (left / 2) := by
          have : left = left % 2 + 2 * (left / 2) := by omega
          have e2 : e * left = e * (left % 2 + 2 * (left / 2)) := by rw [← this]
          rw [e2, Nat.mul_add]
          have : e * (2 * (left / 2)) = (e + e) * (left / 2) := by rw [← Nat.mul_assoc, Nat.mul_comm e 2, Nat.two_mul]
          omega
        have hge : left / 2 ≠ 0 → e + e ≤ (e + e) * (left / 2) := fun h => Nat.le_mul_of_pos_right _ (by omega)
        rw [whileL_eq, hcc]
        show ∃ E1 E2 E3 s2 s4, (evSs G_repeated w1_repeated _).then (whileL rpc rpb) = _ ∧ _
        by_cases hod : left % 2 = 1
        · have hel : e ≤ e * left := Nat.le_mul_of_pos_right _ (by omega)
          obtain ⟨U1, U2, U3, r5, r6, jf, hU⟩ := pw_mul b hF hS (by omega)
          have hb : evSs G_repeated w1_repeated [some (.sh d1), some (.sh d2), some (.sh (PyData.tuple [PyData.int S1, PyData.int S2, PyData.int S3])), some (.sh (PyData.tuple [PyData.int F1, PyData.int F2, PyData.int F3'])), some (.sh (.int left))] = .nx [some (.sh d1), some (.sh d2), some (.sh (PyData.tuple [PyData.int T1, PyData.int T2, PyData.int T3])), some (.sh (PyData.tuple [PyData.int U1, PyData.int U2, PyData.int U3])), some (.sh (.int (left / 2 : Nat)))] := by
            unfold G_repeated w1_repeated
            simp (disch := first | exact mulOk_bd | assumption | omega) only [evE_v0, evE_v1, evE_v2, evE_v3, evE_v4, evE_v5, evE_v6, evE_v7, evE_v8, evE_v9, evE_v10, evE_int, evE_bl, evE_non, evE_str, evE_bin, evE_neg, evE_not, evE_cmp, evE_tup, evE_lst, evE_ix, evE_call, evE_bi, evE_sl, evE_isi, andB_t, andB_f, orB_t, orB_f, andB_b, orB_b, evE_and, evE_or, evAnd_one, evOr_one, evAnd_two, evOr_two, evEs_nil, evEs_cons, evSs_nil, evSs_cons, evS_ex, evS_ret, ifB_t, ifB_f, evS_ife, evS_raise, evS_for, seq_t, seq_l, it_seq, ans_nx, ans_rt, ans_xc, forL_nil, forL_cons, ix_t0, ix_t1, ix_t2, ix_t3, o_add, o_sub, o_mul, o_fdiv, o_mod, o_neg, o_not, c_lt, c_le, c_gt, c_ge, c_eq, c_ne, c_eq2, c_ne2, c_eq3, c_ne3, c_is, c_isnot, isi_tt, isi_lt, isi_it, isi_ii, isi_ib, isi_ll, len_t1, len_t2, len_t3, len_t4, len_l, abs_i, tup_l, part_0, part_1, sl_l, call_0, call_1, call_2, call_3, call_4, call_5, call_6, call_7, glob_0, glob_1, glob_2, evE_v11, evE_v12, evE_v13, evE_v14, evE_v15, evE_v16, evE_v17, evE_v18, evE_v19, evE_v20, evS_set0, evS_setL0, evS_set1, evS_setL1, evS_set2, evS_setL2, evS_set3, evS_setL3, evS_set4, evS_setL4, evS_set5, evS_setL5, evS_set6, evS_setL6, evS_set7, evS_setL7, evS_set8, evS_setL8, evS_set9, evS_setL9, evS_set10, evS_setL10, evS_set11, evS_setL11, evS_set12, evS_setL12, evS_set13, evS_setL13, evS_set14, evS_setL14, evS_set15, evS_setL15, evS_set16, evS_setL16, evS_set17, evS_setL17, evS_set18, evS_setL18, evS_set19, evS_setL19, evS_set20, evS_setL20, evS_app0, evS_frz0, evS_frs0, evE_ixo0, evS_aug0, evS_app1, evS_frz1, evS_frs1, evE_ixo1, evS_aug1, evS_app2, evS_frz2, evS_frs2, evE_ixo2, evS_aug2, evS_app3, evS_frz3, evS_frs3, evE_ixo3, evS_aug3, evS_app4, evS_frz4, evS_frs4, evE_ixo4, evS_aug4, evS_app5, evS_frz5, evS_frs5, evE_ixo5, evS_aug5, evS_app6, evS_frz6, evS_frs6, evE_ixo6, evS_aug6, evS_app7, evS_frz7, evS_frs7, evE_ixo7, evS_aug7, evS_app8, evS_frz8, evS_frs8, evE_ixo8, evS_aug8, evS_app9, evS_frz9, evS_frs9, evE_ixo9, evS_aug9, evS_app10, evS_frz10, evS_frs10, evE_ixo10, evS_aug10, evS_app11, evS_frz11, evS_frs11, evE_ixo11, evS_aug11, evS_app12, evS_frz12, evS_frs12, evE_ixo12, evS_aug12, evS_app13, evS_frz13, evS_frs13, evE_ixo13, evS_aug13, evS_app14, evS_frz14, evS_frs14, evE_ixo14, evS_aug14, evS_app15, evS_frz15, evS_frs15, evE_ixo15, evS_aug15, evS_app16, evS_frz16, evS_frs16, evE_ixo16, evS_aug16, evS_pass, evE_ife, ifE_t, ifE_f, it_rng1, it_rng2, c_isnN, c_isnI, c_isN, c_isI, c_isnL, c_isnT, c_isL, c_isT, o_band, o_shr, len_t0, tup_t, call_8, call_9, call_10, call_11, call_12, rb_ok, rb_bad, rb_exc, ra_ok, ra_bad, ra_exc, ft_nx, ft_rt, ft_bad, ft_xc, List.set_cons_zero, List.set_cons_succ, List.nil_append, List.cons_append, Bool.not_true, Bool.not_false, decide_true, decide_false, eq_self, Int.reduceEq, Bool.false_or, Bool.or_false, Bool.true_or, Bool.or_true, Bool.true_and, Bool.and_true, Bool.false_and, Bool.and_false, Bool.or_self, Bool.and_self, bitAnd_m1, show ((left : Int) % 2) = 1 by omega, jf, je, o_shr (show (0 : Int) ≤ 1 by decide), hsh]
          rw [hb, ft_nx]
          rw [hod, Nat.mul_one] at hdiv
          obtain ⟨E1, E2, E3, s2, s4, x1, x2⟩ := rp_loop b fuel (left / 2) (e + e) (r + e) T1 T2 T3 U1 U2 U3 (by omega) hT hU (by omega) (by
            by_cases hz : left / 2 = 0
            · rw [hz]; simp
            · have := hge hz
              have : min (left / 2) 1 = 1 := by omega
              rw [this]
              omega)
          exact ⟨E1, E2, E3, s2, s4, x1, by rw [hdiv, ← Nat.add_assoc]; exact x2⟩
        · have hb : evSs G_repeated w1_repeated [some (.sh d1), some (.sh d2), some (.sh (PyData.tuple [PyData.int S1, PyData.int S2, PyData.int S3])), some (.sh (PyData.tuple [PyData.int F1, PyData.int F2, PyData.int F3'])), some (.sh (.int left))] = .nx [some (.sh d1), some (.sh d2), some (.sh (PyData.tuple [PyData.int T1, PyData.int T2, PyData.int T3])), some (.sh (PyData.tuple [PyData.int F1, PyData.int F2, PyData.int F3'])), some (.sh (.int (left / 2 : Nat)))] := by
            unfold G_repeated w1_repeated
            simp (disch := first | exact mulOk_bd | assumption | omega) only [evE_v0, evE_v1, evE_v2, evE_v3, evE_v4, evE_v5, evE_v6, evE_v7, evE_v8, evE_v9, evE_v10, evE_int, evE_bl, evE_non, evE_str, evE_bin, evE_neg, evE_not, evE_cmp, evE_tup, evE_lst, evE_ix, evE_call, evE_bi, evE_sl, evE_isi, andB_t, andB_f, orB_t, orB_f, andB_b, orB_b, evE_and, evE_or, evAnd_one, evOr_one, evAnd_two, evOr_two, evEs_nil, evEs_cons, evSs_nil, evSs_cons, evS_ex, evS_ret, ifB_t, ifB_f, evS_ife, evS_raise, evS_for, seq_t, seq_l, it_seq, ans_nx, ans_rt, ans_xc, forL_nil, forL_cons, ix_t0, ix_t1, ix_t2, ix_t3, o_add, o_sub, o_mul, o_fdiv, o_mod, o_neg, o_not, c_lt, c_le, c_gt, c_ge, c_eq, c_ne, c_eq2, c_ne2, c_eq3, c_ne3, c_is, c_isnot, isi_tt, isi_lt, isi_it, isi_ii, isi_ib, isi_ll, len_t1, len_t2, len_t3, len_t4, len_l, abs_i, tup_l, part_0, part_1, sl_l, call_0, call_1, call_2, call_3, call_4, call_5, call_6, call_7, glob_0, glob_1, glob_2, evE_v11, evE_v12, evE_v13, evE_v14, evE_v15, evE_v16, evE_v17, evE_v18, evE_v19, evE_v20, evS_set0, evS_setL0, evS_set1, evS_setL1, evS_set2, evS_setL2, evS_set3, evS_setL3, evS_set4, evS_setL4, evS_set5, evS_setL5, evS_set6, evS_setL6, evS_set7, evS_setL7, evS_set8, evS_setL8, evS_set9, evS_setL9, evS_set10, evS_setL10, evS_set11, evS_setL11, evS_set12, evS_setL12, evS_set13, evS_setL13, evS_set14, evS_setL14, evS_set15, evS_setL15, evS_set16, evS_setL16, evS_set17, evS_setL17, evS_set18, evS_setL18, evS_set19, evS_setL19, evS_set20, evS_setL20, evS_app0, evS_frz0, evS_frs0, evE_ixo0, evS_aug0, evS_app1, evS_frz1, evS_frs1, evE_ixo1, evS_aug1, evS_app2, evS_frz2, evS_frs2, evE_ixo2, evS_aug2, evS_app3, evS_frz3, evS_frs3, evE_ixo3, evS_aug3, evS_app4, evS_frz4, evS_frs4, evE_ixo4, evS_aug4, evS_app5, evS_frz5, evS_frs5, evE_ixo5, evS_aug5, evS_app6, evS_frz6, evS_frs6, evE_ixo6, evS_aug6, evS_app7, evS_frz7, evS_frs7, evE_ixo7, evS_aug7, evS_app8, evS_frz8, evS_frs8, evE_ixo8, evS_aug8, evS_app9, evS_frz9, evS_frs9, evE_ixo9, evS_aug9, evS_app10, evS_frz10, evS_frs10, evE_ixo10, evS_aug10, evS_app11, evS_frz11, evS_frs11, evE_ixo11, evS_aug11, evS_app12, evS_frz12, evS_frs12, evE_ixo12, evS_aug12, evS_app13, evS_frz13, evS_frs13, evE_ixo13, evS_aug13, evS_app14, evS_frz14, evS_frs14, evE_ixo14, evS_aug14, evS_app15, evS_frz15, evS_frs15, evE_ixo15, evS_aug15, evS_app16, evS_frz16, evS_frs16, evE_ixo16, evS_aug16, evS_pass, evE_ife, ifE_t, ifE_f, it_rng1, it_rng2, c_isnN, c_isnI, c_isN, c_isI, c_isnL, c_isnT, c_isL, c_isT, o_band, o_shr, len_t0, tup_t, call_8, call_9, call_10, call_11, call_12, rb_ok, rb_bad, rb_exc, ra_ok, ra_bad, ra_exc, ft_nx, ft_rt, ft_bad, ft_xc, List.set_cons_zero, List.set_cons_succ, List.nil_append, List.cons_append, Bool.not_true, Bool.not_false, decide_true, decide_false, eq_self, Int.reduceEq, Bool.false_or, Bool.or_false, Bool.true_or, Bool.or_true, Bool.true_and, Bool.and_true, Bool.false_and, Bool.and_false, Bool.or_self, Bool.and_self, bitAnd_m1, show ((left : Int) % 2) = 0 by omega, show decide ((0 : Int) = 1) = false from rfl, je, o_shr (show (0 : Int) ≤ 1 by decide), hsh]
          rw [hb, ft_nx]
          rw [show left % 2 = 0 by omega, Nat.mul_zero, Nat.zero_add] at hdiv
          obtain ⟨E1, E2, E3, s2, s4, x1, x2⟩ := rp_loop b fuel (left / 2) (e + e) r T1 T2 T3 F1 F2 F3' (by omega) hT hF (by omega) (by
            by_cases hz : left / 2 = 0
            · rw [hz]; simp
            · have := hge hz
              have : min (left / 2) 1 = 1 := by omega
              rw [this]
              omega)
          exact ⟨E1, E2, E3, s2, s4, x1, by rw [hdiv]; exact x2⟩
/-- repeated -/
theorem v_repeated (b : Base a B k N Dd) (hN : 2100 ≤ N) {A1 A2 A3 : Int} (hA : ∃ p q r s, Leads (a ^ 1) B (a ^ (N - 1) * k) p q r s A1 A2 A3) (p1 : 0 < A1) (hb : A2 * A2 - 4 * A1 * A3 = Dd) (hg : gcd3 A1 A2 A3 = 1) (B1 : Bd 1900 A1) (B2 : Bd 1900 A2) (B3 : Bd 1900 A3) (n : Nat) (hn : n ≤ 1000) :
    (∃ E1 E2 E3, sem_repeated [(PyData.tuple [PyData.int A1, PyData.int A2, PyData.int A3]), .int n] = .ok (PyData.tuple [PyData.int E1, PyData.int E2, PyData.int E3]) ∧ Pw a B k N Dd n E1 E2 E3) ∧ (0 < n → ∃ E1 E2 E3, sem_repeated [(PyData.tuple [PyData.int A1, PyData.int A2, PyData.int A3]), .int (-(n : Int))] = .ok (PyData.tuple [PyData.int E1, PyData.int E2, PyData.int E3]) ∧ Pw a (-B) k N Dd n E1 E2 E3) := by
  have neg := b.neg
  have p2 : A2 * A2 < 4 * A1 * A3 := by omega
  have ib := v_is_bare A1 A2 A3 B1 B2 B3 (by omega) p1 p2
  rw [decide_eq_true hg] at ib
  have eb := v_bar_of A1 A2 A3 (by omega) p1 p2
  rw [hb] at eb
  obtain ⟨p, q, r, s, L⟩ := hA
  obtain ⟨S1, S2, S3, x, y, z, w, el, M, hle, T1, T2, T3, _⟩ := v_least_of A1 A2 A3 p1 p2 B1 B2 B3 (by omega)
  have pS : Pw a B k N Dd 1 S1 S2 S3 := ⟨⟨_, _, _, _, L.then M⟩, hle, (M.pos p1 p2).1, M.bar.trans hb⟩
  obtain ⟨O1, O2, O3, _, _, _, _, eo, oL, ol, o1, o2, o3⟩ := v_opposite A1 A2 A3 B1 B2 B3 (by omega) p1 p2 hg
  have p2' : -A2 * -A2 < 4 * A1 * A3 := by rw [Int.neg_mul_neg]; exact p2
  have pO : Pw a (-B) k N Dd 1 O1 O2 O3 := ⟨⟨_, _, _, _, L.mirror.then oL⟩, ol, (oL.pos p1 p2').1, oL.bar.trans (by rw [Int.neg_mul_neg]; exact hb)⟩
  obtain ⟨t, c, en, pz⟩ := pw_zero b
  obtain ⟨t', c', en', pz'⟩ := pw_zero b.flip
  refine ⟨?_, fun hn0 => ?_⟩
  · obtain ⟨E1, E2, E3, s2, s4, hw, hE⟩ := rp_loop b (d1 := (PyData.tuple [PyData.int A1, PyData.int A2, PyData.int A3])) (d2 := .int n) n n 1 0 S1 S2 S3 1 t c (Nat.le_refl _) pS pz (by omega) (by omega)
    have hw2 : evS G_repeated (.while_ (.cmp .gt (.v 4) (.int 0)) w1_repeated) [some (.sh (PyData.tuple [PyData.int A1, PyData.int A2, PyData.int A3])), some (.sh (.int n)), some (.sh (PyData.tuple [PyData.int S1, PyData.int S2, PyData.int S3])), some (.sh (PyData.tuple [PyData.int 1, PyData.int t, PyData.int c])), some (.sh (.int n))] = _ := evS_while.trans hw
    rw [Nat.zero_add, Nat.one_mul] at hE
    refine ⟨E1, E2, E3, ?_, hE⟩
    show (evSs G_repeated b_repeated [some (.sh _), some (.sh _), none, none, none]).ans = _
    unfold b_repeated
    unfold G_repeated at hw2 ⊢
    simp (disch := first | exact mulOk_bd | assumption | omega) only [evE_v0, evE_v1, evE_v2, evE_v3, evE_v4, evE_v5, evE_v6, evE_v7, evE_v8, evE_v9, evE_v10, evE_int, evE_bl, evE_non, evE_str, evE_bin, evE_neg, evE_not, evE_cmp, evE_tup, evE_lst, evE_ix, evE_call, evE_bi, evE_sl, evE_isi, andB_t, andB_f, orB_t, orB_f, andB_b, orB_b, evE_and, evE_or, evAnd_one, evOr_one, evAnd_two, evOr_two, evEs_nil, evEs_cons, evSs_nil, evSs_cons, evS_ex, evS_ret, ifB_t, ifB_f, evS_ife, evS_raise, evS_for, seq_t, seq_l, it_seq, ans_nx, ans_rt, ans_xc, forL_nil, forL_cons, ix_t0, ix_t1, ix_t2, ix_t3, o_add, o_sub, o_mul, o_fdiv, o_mod, o_neg, o_not, c_lt, c_le, c_gt, c_ge, c_eq, c_ne, c_eq2, c_ne2, c_eq3, c_ne3, c_is, c_isnot, isi_tt, isi_lt, isi_it, isi_ii, isi_ib, isi_ll, len_t1, len_t2, len_t3, len_t4, len_l, abs_i, tup_l, part_0, part_1, sl_l, call_0, call_1, call_2, call_3, call_4, call_5, call_6, call_7, glob_0, glob_1, glob_2, evE_v11, evE_v12, evE_v13, evE_v14, evE_v15, evE_v16, evE_v17, evE_v18, evE_v19, evE_v20, evS_set0, evS_setL0, evS_set1, evS_setL1, evS_set2, evS_setL2, evS_set3, evS_setL3, evS_set4, evS_setL4, evS_set5, evS_setL5, evS_set6, evS_setL6, evS_set7, evS_setL7, evS_set8, evS_setL8, evS_set9, evS_setL9, evS_set10, evS_setL10, evS_set11, evS_setL11, evS_set12, evS_setL12, evS_set13, evS_setL13, evS_set14, evS_setL14, evS_set15, evS_setL15, evS_set16, evS_setL16, evS_set17, evS_setL17, evS_set18, evS_setL18, evS_set19, evS_setL19, evS_set20, evS_setL20, evS_app0, evS_frz0, evS_frs0, evE_ixo0, evS_aug0, evS_app1, evS_frz1, evS_frs1, evE_ixo1, evS_aug1, evS_app2, evS_frz2, evS_frs2, evE_ixo2, evS_aug2, evS_app3, evS_frz3, evS_frs3, evE_ixo3, evS_aug3, evS_app4, evS_frz4, evS_frs4, evE_ixo4, evS_aug4, evS_app5, evS_frz5, evS_frs5, evE_ixo5, evS_aug5, evS_app6, evS_frz6, evS_frs6, evE_ixo6, evS_aug6, evS_app7, evS_frz7, evS_frs7, evE_ixo7, evS_aug7, evS_app8, evS_frz8, evS_frs8, evE_ixo8, evS_aug8, evS_app9, evS_frz9, evS_frs9, evE_ixo9, evS_aug9, evS_app10, evS_frz10, evS_frs10, evE_ixo10, evS_aug10, evS_app11, evS_frz11, evS_frs11, evE_ixo11, evS_aug11, evS_app12, evS_frz12, evS_frs12, evE_ixo12, evS_aug12, evS_app13, evS_frz13, evS_frs13, evE_ixo13, evS_aug13, evS_app14, evS_frz14, evS_frs14, evE_ixo14, evS_aug14, evS_app15, evS_frz15, evS_frs15, evE_ixo15, evS_aug15, evS_app16, evS_frz16, evS_frs16, evE_ixo16, evS_aug16, evS_pass, evE_ife, ifE_t, ifE_f, it_rng1, it_rng2, c_isnN, c_isnI, c_isN, c_isI, c_isnL, c_isnT, c_isL, c_isT, o_band, o_shr, len_t0, tup_t, call_8, call_9, call_10, call_11, call_12, rb_ok, rb_bad, rb_exc, ra_ok, ra_bad, ra_exc, ft_nx, ft_rt, ft_bad, ft_xc, List.set_cons_zero, List.set_cons_succ, List.nil_append, List.cons_append, Bool.not_true, Bool.not_false, decide_true, decide_false, eq_self, Int.reduceEq, Bool.false_or, Bool.or_false, Bool.true_or, Bool.or_true, Bool.true_and, Bool.and_true, Bool.false_and, Bool.and_false, Bool.or_self, Bool.and_self, ib, v_is_whole (n : Int), decide_eq_false (show ¬ (n : Int) < -1000 by omega), decide_eq_false (show ¬ (1000 : Int) < (n : Int) by omega), el, eb, en, decide_eq_false (show ¬ (n : Int) < 0 by omega), show ((n : Int).natAbs : Int) = n by omega, hw2]
  · obtain ⟨E1, E2, E3, s2, s4, hw, hE⟩ := rp_loop b.flip (d1 := (PyData.tuple [PyData.int A1, PyData.int A2, PyData.int A3])) (d2 := .int (-(n : Int))) n n 1 0 O1 O2 O3 1 t' c' (Nat.le_refl _) pO pz' (by omega) (by omega)
    have hw2 : evS G_repeated (.while_ (.cmp .gt (.v 4) (.int 0)) w1_repeated) [some (.sh (PyData.tuple [PyData.int A1, PyData.int A2, PyData.int A3])), some (.sh (.int (-(n : Int)))), some (.sh (PyData.tuple [PyData.int O1, PyData.int O2, PyData.int O3])), some (.sh (PyData.tuple [PyData.int 1, PyData.int t', PyData.int c'])), some (.sh (.int n))] = _ := evS_while.trans hw
    rw [Nat.zero_add, Nat.one_mul] at hE
    refine ⟨E1, E2, E3, ?_, hE⟩
    show (evSs G_repeated b_repeated [some (.sh _), some (.sh _), none, none, none]).ans = _
    unfold b_repeated
    unfold G_repeated at hw2 ⊢
    simp (disch := first | exact mulOk_bd | assumption | omega) only [evE_v0, evE_v1, evE_v2, evE_v3, evE_v4, evE_v5, evE_v6, evE_v7, evE_v8, evE_v9, evE_v10, evE_int, evE_bl, evE_non, evE_str, evE_bin, evE_neg, evE_not, evE_cmp, evE_tup, evE_lst, evE_ix, evE_call, evE_bi, evE_sl, evE_isi, andB_t, andB_f, orB_t, orB_f, andB_b, orB_b, evE_and, evE_or, evAnd_one, evOr_one, evAnd_two, evOr_two, evEs_nil, evEs_cons, evSs_nil, evSs_cons, evS_ex, evS_ret, ifB_t, ifB_f, evS_ife, evS_raise, evS_for, seq_t, seq_l, it_seq, ans_nx, ans_rt, ans_xc, forL_nil, forL_cons, ix_t0, ix_t1, ix_t2, ix_t3, o_add, o_sub, o_mul, o_fdiv, o_mod, o_neg, o_not, c_lt, c_le, c_gt, c_ge, c_eq, c_ne, c_eq2, c_ne2, c_eq3, c_ne3, c_is, c_isnot, isi_tt, isi_lt, isi_it, isi_ii, isi_ib, isi_ll, len_t1, len_t2, len_t3, len_t4, len_l, abs_i, tup_l, part_0, part_1, sl_l, call_0, call_1, call_2, call_3, call_4, call_5, call_6, call_7, glob_0, glob_1, glob_2, evE_v11, evE_v12, evE_v13, evE_v14, evE_v15, evE_v16, evE_v17, evE_v18, evE_v19, evE_v20, evS_set0, evS_setL0, evS_set1, evS_setL1, evS_set2, evS_setL2, evS_set3, evS_setL3, evS_set4, evS_setL4, evS_set5, evS_setL5, evS_set6, evS_setL6, evS_set7, evS_setL7, evS_set8, evS_setL8, evS_set9, evS_setL9, evS_set10, evS_setL10, evS_set11, evS_setL11, evS_set12, evS_setL12, evS_set13, evS_setL13, evS_set14, evS_setL14, evS_set15, evS_setL15, evS_set16, evS_setL16, evS_set17, evS_setL17, evS_set18, evS_setL18, evS_set19, evS_setL19, evS_set20, evS_setL20, evS_app0, evS_frz0, evS_frs0, evE_ixo0, evS_aug0, evS_app1, evS_frz1, evS_frs1, evE_ixo1, evS_aug1, evS_app2, evS_frz2, evS_frs2, evE_ixo2, evS_aug2, evS_app3, evS_frz3, evS_frs3, evE_ixo3, evS_aug3, evS_app4, evS_frz4, evS_frs4, evE_ixo4, evS_aug4, evS_app5, evS_frz5, evS_frs5, evE_ixo5, evS_aug5, evS_app6, evS_frz6, evS_frs6, evE_ixo6, evS_aug6, evS_app7, evS_frz7, evS_frs7, evE_ixo7, evS_aug7, evS_app8, evS_frz8, evS_frs8, evE_ixo8, evS_aug8, evS_app9, evS_frz9, evS_frs9, evE_ixo9, evS_aug9, evS_app10, evS_frz10, evS_frs10, evE_ixo10, evS_aug10, evS_app11, evS_frz11, evS_frs11, evE_ixo11, evS_aug11, evS_app12, evS_frz12, evS_frs12, evE_ixo12, evS_aug12, evS_app13, evS_frz13, evS_frs13, evE_ixo13, evS_aug13, evS_app14, evS_frz14, evS_frs14, evE_ixo14, evS_aug14, evS_app15, evS_frz15, evS_frs15, evE_ixo15, evS_aug15, evS_app16, evS_frz16, evS_frs16, evE_ixo16, evS_aug16, evS_pass, evE_ife, ifE_t, ifE_f, it_rng1, it_rng2, c_isnN, c_isnI, c_isN, c_isI, c_isnL, c_isnT, c_isL, c_isT, o_band, o_shr, len_t0, tup_t, call_8, call_9, call_10, call_11, call_12, rb_ok, rb_bad, rb_exc, ra_ok, ra_bad, ra_exc, ft_nx, ft_rt, ft_bad, ft_xc, List.set_cons_zero, List.set_cons_succ, List.nil_append, List.cons_append, Bool.not_true, Bool.not_false, decide_true, decide_false, eq_self, Int.reduceEq, Bool.false_or, Bool.or_false, Bool.true_or, Bool.or_true, Bool.true_and, Bool.and_true, Bool.false_and, Bool.and_false, Bool.or_self, Bool.and_self, ib, v_is_whole (-(n : Int)), decide_eq_false (show ¬ -(n : Int) < -1000 by omega), decide_eq_false (show ¬ (1000 : Int) < -(n : Int) by omega), el, eb, en', decide_eq_true (show -(n : Int) < 0 by omega), eo, show ((-(n : Int)).natAbs : Int) = n by omega, hw2]
end
end FT

namespace FT
open PySem PySem.Spec PyProof.Rows L2
section
variable {a B k Dd : Int} {N : Nat}
theorem pw_zero_flip {A1 A2 A3 : Int} (b : Base a B k N Dd) (f : Pw a (-B) k N Dd 0 A1 A2 A3) : Pw a B k N Dd 0 A1 A2 A3 := by
  obtain ⟨t, c, en, pz⟩ := pw_zero b
  obtain ⟨t', c', en', pz'⟩ := pw_zero b.flip
  have e := en.symm.trans en'
  injection e with e
  injection e with e
  injection e with _ e
  injection e with e1 e
  injection e with e2 _
  injection e1 with e1
  injection e2 with e2
  subst e1 e2
  obtain ⟨u1, u2, u3⟩ := f.one pz'
  subst u1 u2 u3
  exact pz
/-- the power z, of either sign -/
structure SP (a B k : Int) (N : Nat) (Dd z A1 A2 A3 : Int) : Prop where
  up : 0 ≤ z → Pw a B k N Dd z.toNat A1 A2 A3
  dn : z ≤ 0 → Pw a (-B) k N Dd (-z).toNat A1 A2 A3
theorem SP.ofP {A1 A2 A3 : Int} {n : Nat} (b : Base a B k N Dd) (f : Pw a B k N Dd n A1 A2 A3) : SP a B k N Dd n A1 A2 A3 := by
  refine ⟨fun _ => f, fun h => ?_⟩
  have : n = 0 := by omega
  subst this
  exact pw_zero_flip b.flip (by rw [Int.neg_neg]; exact f)
theorem SP.ofN {A1 A2 A3 : Int} {n : Nat} (b : Base a B k N Dd) (f : Pw a (-B) k N Dd n A1 A2 A3) : SP a B k N Dd (-(n : Int)) A1 A2 A3 := by
  refine ⟨fun h => ?_, fun _ => by rw [Int.neg_neg]; exact f⟩
  have : n = 0 := by omega
  subst this
  exact pw_zero_flip b f
theorem SP.one {z A1 A2 A3 C1 C2 C3 : Int} (f : SP a B k N Dd z A1 A2 A3) (g : SP a B k N Dd z C1 C2 C3) : A1 = C1 ∧ A2 = C2 ∧ A3 = C3 := by
  rcases Int.le_total 0 z with h | h
  · exact (f.up h).one (g.up h)
  · exact (f.dn h).one (g.dn h)
theorem sp_mul {i j A1 A2 A3 C1 C2 C3 : Int} (b : Base a B k N Dd) (hN : 2100 ≤ N) (f : SP a B k N Dd i A1 A2 A3) (g : SP a B k N Dd j C1 C2 C3) (hi : i.natAbs ≤ 1000) (hj : j.natAbs ≤ 1000) :
    ∃ E1 E2 E3 r1 r2, sem_joined [(PyData.tuple [PyData.int A1, PyData.int A2, PyData.int A3]), (PyData.tuple [PyData.int C1, PyData.int C2, PyData.int C3])] = .ok (.tuple [(PyData.tuple [PyData.int E1, PyData.int E2, PyData.int E3]), r1, r2]) ∧ SP a B k N Dd (i + j) E1 E2 E3 := by
  rcases Int.le_total 0 i with hi0 | hi0 <;> rcases Int.le_total 0 j with hj0 | hj0
  · obtain ⟨E1, E2, E3, r1, r2, e, p⟩ := pw_mul b (f.up hi0) (g.up hj0) (by omega)
    have q := SP.ofP b p
    rw [show ((i.toNat + j.toNat : Nat) : Int) = i + j by omega] at q
    exact ⟨E1, E2, E3, r1, r2, e, q⟩
  · by_cases h : i.toNat ≤ (-j).toNat
    · obtain ⟨⟨E1, E2, E3, r1, r2, e, p⟩, _⟩ := pw_mix b (f.up hi0) (g.dn hj0) h (by omega)
      have q := SP.ofN b p
      rw [show -(((-j).toNat - i.toNat : Nat) : Int) = i + j by omega] at q
      exact ⟨E1, E2, E3, r1, r2, e, q⟩
    · obtain ⟨_, ⟨E1, E2, E3, r1, r2, e, p⟩⟩ := pw_mix b.flip (g.dn hj0) (by rw [Int.neg_neg]; exact f.up hi0) (by omega) (by omega)
      rw [Int.neg_neg] at p
      have q := SP.ofP b p
      rw [show ((i.toNat - (-j).toNat : Nat) : Int) = i + j by omega] at q
      exact ⟨E1, E2, E3, r1, r2, e, q⟩
  · by_cases h : j.toNat ≤ (-i).toNat
    · obtain ⟨_, ⟨E1, E2, E3, r1, r2, e, p⟩⟩ := pw_mix b (g.up hj0) (f.dn hi0) h (by omega)
      have q := SP.ofN b p
      rw [show -(((-i).toNat - j.toNat : Nat) : Int) = i + j by omega] at q
      exact ⟨E1, E2, E3, r1, r2, e, q⟩
    · obtain ⟨⟨E1, E2, E3, r1, r2, e, p⟩, _⟩ := pw_mix b.flip (f.dn hi0) (by rw [Int.neg_neg]; exact g.up hj0) (by omega) (by omega)
      rw [Int.neg_neg] at p
      have q := SP.ofP b p
      rw [show ((j.toNat - (-i).toNat : Nat) : Int) = i + j by omega] at q
      exact ⟨E1, E2, E3, r1, r2, e, q⟩
  · obtain ⟨E1, E2, E3, r1, r2, e, p⟩ := pw_mul b.flip (f.dn hi0) (g.dn hj0) (by omega)
    have q := SP.ofN b p
    rw [show -(((-i).toNat + (-j).toNat : Nat) : Int) = i + j by omega] at q
    exact ⟨E1, E2, E3, r1, r2, e, q⟩
theorem v_rep (b : Base a B k N Dd) (hN : 2100 ≤ N) {A1 A2 A3 : Int} (hA : ∃ p q r s, Leads (a ^ 1) B (a ^ (N - 1) * k) p q r s A1 A2 A3) (p1 : 0 < A1) (hb : A2 * A2 - 4 * A1 * A3 = Dd) (hg : gcd3 A1 A2 A3 = 1) (B1 : Bd 1900 A1) (B2 : Bd 1900 A2) (B3 : Bd 1900 A3) (z : Int) (hz : z.natAbs ≤ 1000) :
    ∃ E1 E2 E3, sem_repeated [(PyData.tuple [PyData.int A1, PyData.int A2, PyData.int A3]), .int z] = .ok (PyData.tuple [PyData.int E1, PyData.int E2, PyData.int E3]) ∧ SP a B k N Dd z E1 E2 E3 := by
  obtain ⟨⟨E1, E2, E3, e, p⟩, neg⟩ := v_repeated b hN hA p1 hb hg B1 B2 B3 z.natAbs hz
  rcases Int.lt_or_le z 0 with h | h
  · obtain ⟨E1, E2, E3, e, p⟩ := neg (by omega)
    have q := SP.ofN b p
    rw [show -(z.natAbs : Int) = z by omega] at q e
    exact ⟨E1, E2, E3, e, q⟩
  · have q := SP.ofP b p
    rw [show (z.natAbs : Int) = z by omega] at q e
    exact ⟨E1, E2, E3, e, q⟩
end
theorem w_last1 (a b m : Int) {n1 n3 : Nat} [Bd n1 a] [Bd n3 b] (h : n1 + n3 ≤ 4000) (pa : 0 < a) : sem__law_last [.list [.int a], .int b, .int m] = .ok (.int (b * b / (4 * (1 * a)) + 1 + m)) := by
  show (evSs G__law_last b__law_last [some (.sh _), some (.sh _), some (.sh _), none, none]).ans = _
  unfold b__law_last w1__law_last
  have p : 0 < 1 * a := by omega
  have z : divOk (4 * (1 * a)) = true := divOk_bd (by omega)
  simp (disch := first | exact mulOk_bd | assumption | omega) only [evE_v0, evE_v1, evE_v2, evE_v3, evE_v4, evE_v5, evE_v6, evE_v7, evE_v8, evE_v9, evE_v10, evE_int, evE_bl, evE_non, evE_str, evE_bin, evE_neg, evE_not, evE_cmp, evE_tup, evE_lst, evE_ix, evE_call, evE_bi, evE_sl, evE_isi, andB_t, andB_f, orB_t, orB_f, andB_b, orB_b, evE_and, evE_or, evAnd_one, evOr_one, evAnd_two, evOr_two, evEs_nil, evEs_cons, evSs_nil, evSs_cons, evS_ex, evS_ret, ifB_t, ifB_f, evS_ife, evS_raise, evS_for, seq_t, seq_l, it_seq, ans_nx, ans_rt, ans_xc, forL_nil, forL_cons, ix_t0, ix_t1, ix_t2, ix_t3, o_add, o_sub, o_mul, o_fdiv, o_mod, o_neg, o_not, c_lt, c_le, c_gt, c_ge, c_eq, c_ne, c_eq2, c_ne2, c_eq3, c_ne3, c_is, c_isnot, isi_tt, isi_lt, isi_it, isi_ii, isi_ib, isi_ll, len_t1, len_t2, len_t3, len_t4, len_l, abs_i, tup_l, part_0, part_1, sl_l, call_0, call_1, call_2, call_3, call_4, call_5, call_6, call_7, glob_0, glob_1, glob_2, evE_v11, evE_v12, evE_v13, evE_v14, evE_v15, evE_v16, evE_v17, evE_v18, evE_v19, evE_v20, evS_set0, evS_setL0, evS_set1, evS_setL1, evS_set2, evS_setL2, evS_set3, evS_setL3, evS_set4, evS_setL4, evS_set5, evS_setL5, evS_set6, evS_setL6, evS_set7, evS_setL7, evS_set8, evS_setL8, evS_set9, evS_setL9, evS_set10, evS_setL10, evS_set11, evS_setL11, evS_set12, evS_setL12, evS_set13, evS_setL13, evS_set14, evS_setL14, evS_set15, evS_setL15, evS_set16, evS_setL16, evS_set17, evS_setL17, evS_set18, evS_setL18, evS_set19, evS_setL19, evS_set20, evS_setL20, evS_app0, evS_frz0, evS_frs0, evE_ixo0, evS_aug0, evS_app1, evS_frz1, evS_frs1, evE_ixo1, evS_aug1, evS_app2, evS_frz2, evS_frs2, evE_ixo2, evS_aug2, evS_app3, evS_frz3, evS_frs3, evE_ixo3, evS_aug3, evS_app4, evS_frz4, evS_frs4, evE_ixo4, evS_aug4, evS_app5, evS_frz5, evS_frs5, evE_ixo5, evS_aug5, evS_app6, evS_frz6, evS_frs6, evE_ixo6, evS_aug6, evS_app7, evS_frz7, evS_frs7, evE_ixo7, evS_aug7, evS_app8, evS_frz8, evS_frs8, evE_ixo8, evS_aug8, evS_app9, evS_frz9, evS_frs9, evE_ixo9, evS_aug9, evS_app10, evS_frz10, evS_frs10, evE_ixo10, evS_aug10, evS_app11, evS_frz11, evS_frs11, evE_ixo11, evS_aug11, evS_app12, evS_frz12, evS_frs12, evE_ixo12, evS_aug12, evS_app13, evS_frz13, evS_frs13, evE_ixo13, evS_aug13, evS_app14, evS_frz14, evS_frs14, evE_ixo14, evS_aug14, evS_app15, evS_frz15, evS_frs15, evE_ixo15, evS_aug15, evS_app16, evS_frz16, evS_frs16, evE_ixo16, evS_aug16, evS_pass, evE_ife, ifE_t, ifE_f, it_rng1, it_rng2, c_isnN, c_isnI, c_isN, c_isI, c_isnL, c_isnT, c_isL, c_isT, o_band, o_shr, len_t0, tup_t, call_8, call_9, call_10, call_11, call_12, rb_ok, rb_bad, rb_exc, ra_ok, ra_bad, ra_exc, ft_nx, ft_rt, ft_bad, ft_xc, List.set_cons_zero, List.set_cons_succ, List.nil_append, List.cons_append, Bool.not_true, Bool.not_false, decide_true, decide_false, eq_self, Int.reduceEq, Bool.false_or, Bool.or_false, Bool.true_or, Bool.or_true, Bool.true_and, Bool.and_true, Bool.false_and, Bool.and_false, Bool.or_self, Bool.and_self, o_fdiv z]
theorem w_times (x m : Int) : ∃ z, sem__law_times [.int x, .int m] = .ok (.int z) ∧ z.natAbs ≤ 500 := by
  show ∃ z, (evSs G__law_times b__law_times [some (.sh _), some (.sh _)]).ans = _ ∧ _
  unfold b__law_times G__law_times
  have m16 := o_mod (i := m) (show (0 : Int) < 16 by decide)
  have m8 := o_mod (i := m) (show (0 : Int) < 8 by decide)
  have m2 := o_mod (i := x) (show (0 : Int) < 2 by decide)
  have m201 := o_mod (i := x) (show (0 : Int) < 201 by decide)
  have m19 := o_mod (i := x) (show (0 : Int) < 19 by decide)
  by_cases h1 : m % 16 = 1
  · refine ⟨500 - x % 2, ?_, by omega⟩
    simp (disch := first | exact mulOk_bd | assumption | omega) only [evE_v0, evE_v1, evE_v2, evE_v3, evE_v4, evE_v5, evE_v6, evE_v7, evE_v8, evE_v9, evE_v10, evE_int, evE_bl, evE_non, evE_str, evE_bin, evE_neg, evE_not, evE_cmp, evE_tup, evE_lst, evE_ix, evE_call, evE_bi, evE_sl, evE_isi, andB_t, andB_f, orB_t, orB_f, andB_b, orB_b, evE_and, evE_or, evAnd_one, evOr_one, evAnd_two, evOr_two, evEs_nil, evEs_cons, evSs_nil, evSs_cons, evS_ex, evS_ret, ifB_t, ifB_f, evS_ife, evS_raise, evS_for, seq_t, seq_l, it_seq, ans_nx, ans_rt, ans_xc, forL_nil, forL_cons, ix_t0, ix_t1, ix_t2, ix_t3, o_add, o_sub, o_mul, o_fdiv, o_mod, o_neg, o_not, c_lt, c_le, c_gt, c_ge, c_eq, c_ne, c_eq2, c_ne2, c_eq3, c_ne3, c_is, c_isnot, isi_tt, isi_lt, isi_it, isi_ii, isi_ib, isi_ll, len_t1, len_t2, len_t3, len_t4, len_l, abs_i, tup_l, part_0, part_1, sl_l, call_0, call_1, call_2, call_3, call_4, call_5, call_6, call_7, glob_0, glob_1, glob_2, evE_v11, evE_v12, evE_v13, evE_v14, evE_v15, evE_v16, evE_v17, evE_v18, evE_v19, evE_v20, evS_set0, evS_setL0, evS_set1, evS_setL1, evS_set2, evS_setL2, evS_set3, evS_setL3, evS_set4, evS_setL4, evS_set5, evS_setL5, evS_set6, evS_setL6, evS_set7, evS_setL7, evS_set8, evS_setL8, evS_set9, evS_setL9, evS_set10, evS_setL10, evS_set11, evS_setL11, evS_set12, evS_setL12, evS_set13, evS_setL13, evS_set14, evS_setL14, evS_set15, evS_setL15, evS_set16, evS_setL16, evS_set17, evS_setL17, evS_set18, evS_setL18, evS_set19, evS_setL19, evS_set20, evS_setL20, evS_app0, evS_frz0, evS_frs0, evE_ixo0, evS_aug0, evS_app1, evS_frz1, evS_frs1, evE_ixo1, evS_aug1, evS_app2, evS_frz2, evS_frs2, evE_ixo2, evS_aug2, evS_app3, evS_frz3, evS_frs3, evE_ixo3, evS_aug3, evS_app4, evS_frz4, evS_frs4, evE_ixo4, evS_aug4, evS_app5, evS_frz5, evS_frs5, evE_ixo5, evS_aug5, evS_app6, evS_frz6, evS_frs6, evE_ixo6, evS_aug6, evS_app7, evS_frz7, evS_frs7, evE_ixo7, evS_aug7, evS_app8, evS_frz8, evS_frs8, evE_ixo8, evS_aug8, evS_app9, evS_frz9, evS_frs9, evE_ixo9, evS_aug9, evS_app10, evS_frz10, evS_frs10, evE_ixo10, evS_aug10, evS_app11, evS_frz11, evS_frs11, evE_ixo11, evS_aug11, evS_app12, evS_frz12, evS_frs12, evE_ixo12, evS_aug12, evS_app13, evS_frz13, evS_frs13, evE_ixo13, evS_aug13, evS_app14, evS_frz14, evS_frs14, evE_ixo14, evS_aug14, evS_app15, evS_frz15, evS_frs15, evE_ixo15, evS_aug15, evS_app16, evS_frz16, evS_frs16, evE_ixo16, evS_aug16, evS_pass, evE_ife, ifE_t, ifE_f, it_rng1, it_rng2, c_isnN, c_isnI, c_isN, c_isI, c_isnL, c_isnT, c_isL, c_isT, o_band, o_shr, len_t0, tup_t, call_8, call_9, call_10, call_11, call_12, rb_ok, rb_bad, rb_exc, ra_ok, ra_bad, ra_exc, ft_nx, ft_rt, ft_bad, ft_xc, List.set_cons_zero, List.set_cons_succ, List.nil_append, List.cons_append, Bool.not_true, Bool.not_false, decide_true, decide_false, eq_self, Int.reduceEq, Bool.false_or, Bool.or_false, Bool.true_or, Bool.or_true, Bool.true_and, Bool.and_true, Bool.false_and, Bool.and_false, Bool.or_self, Bool.and_self, m16, m2, h1]
  · by_cases h3 : m % 16 = 3
    · refine ⟨x % 2 - 500, ?_, by omega⟩
      simp (disch := first | exact mulOk_bd | assumption | omega) only [evE_v0, evE_v1, evE_v2, evE_v3, evE_v4, evE_v5, evE_v6, evE_v7, evE_v8, evE_v9, evE_v10, evE_int, evE_bl, evE_non, evE_str, evE_bin, evE_neg, evE_not, evE_cmp, evE_tup, evE_lst, evE_ix, evE_call, evE_bi, evE_sl, evE_isi, andB_t, andB_f, orB_t, orB_f, andB_b, orB_b, evE_and, evE_or, evAnd_one, evOr_one, evAnd_two, evOr_two, evEs_nil, evEs_cons, evSs_nil, evSs_cons, evS_ex, evS_ret, ifB_t, ifB_f, evS_ife, evS_raise, evS_for, seq_t, seq_l, it_seq, ans_nx, ans_rt, ans_xc, forL_nil, forL_cons, ix_t0, ix_t1, ix_t2, ix_t3, o_add, o_sub, o_mul, o_fdiv, o_mod, o_neg, o_not, c_lt, c_le, c_gt, c_ge, c_eq, c_ne, c_eq2, c_ne2, c_eq3, c_ne3, c_is, c_isnot, isi_tt, isi_lt, isi_it, isi_ii, isi_ib, isi_ll, len_t1, len_t2, len_t3, len_t4, len_l, abs_i, tup_l, part_0, part_1, sl_l, call_0, call_1, call_2, call_3, call_4, call_5, call_6, call_7, glob_0, glob_1, glob_2, evE_v11, evE_v12, evE_v13, evE_v14, evE_v15, evE_v16, evE_v17, evE_v18, evE_v19, evE_v20, evS_set0, evS_setL0, evS_set1, evS_setL1, evS_set2, evS_setL2, evS_set3, evS_setL3, evS_set4, evS_setL4, evS_set5, evS_setL5, evS_set6, evS_setL6, evS_set7, evS_setL7, evS_set8, evS_setL8, evS_set9, evS_setL9, evS_set10, evS_setL10, evS_set11, evS_setL11, evS_set12, evS_setL12, evS_set13, evS_setL13, evS_set14, evS_setL14, evS_set15, evS_setL15, evS_set16, evS_setL16, evS_set17, evS_setL17, evS_set18, evS_setL18, evS_set19, evS_setL19, evS_set20, evS_setL20, evS_app0, evS_frz0, evS_frs0, evE_ixo0, evS_aug0, evS_app1, evS_frz1, evS_frs1, evE_ixo1, evS_aug1, evS_app2, evS_frz2, evS_frs2, evE_ixo2, evS_aug2, evS_app3, evS_frz3, evS_frs3, evE_ixo3, evS_aug3, evS_app4, evS_frz4, evS_frs4, evE_ixo4, evS_aug4, evS_app5, evS_frz5, evS_frs5, evE_ixo5, evS_aug5, evS_app6, evS_frz6, evS_frs6, evE_ixo6, evS_aug6, evS_app7, evS_frz7, evS_frs7, evE_ixo7, evS_aug7, evS_app8, evS_frz8, evS_frs8, evE_ixo8, evS_aug8, evS_app9, evS_frz9, evS_frs9, evE_ixo9, evS_aug9, evS_app10, evS_frz10, evS_frs10, evE_ixo10, evS_aug10, evS_app11, evS_frz11, evS_frs11, evE_ixo11, evS_aug11, evS_app12, evS_frz12, evS_frs12, evE_ixo12, evS_aug12, evS_app13, evS_frz13, evS_frs13, evE_ixo13, evS_aug13, evS_app14, evS_frz14, evS_frs14, evE_ixo14, evS_aug14, evS_app15, evS_frz15, evS_frs15, evE_ixo15, evS_aug15, evS_app16, evS_frz16, evS_frs16, evE_ixo16, evS_aug16, evS_pass, evE_ife, ifE_t, ifE_f, it_rng1, it_rng2, c_isnN, c_isnI, c_isN, c_isI, c_isnL, c_isnT, c_isL, c_isT, o_band, o_shr, len_t0, tup_t, call_8, call_9, call_10, call_11, call_12, rb_ok, rb_bad, rb_exc, ra_ok, ra_bad, ra_exc, ft_nx, ft_rt, ft_bad, ft_xc, List.set_cons_zero, List.set_cons_succ, List.nil_append, List.cons_append, Bool.not_true, Bool.not_false, decide_true, decide_false, eq_self, Int.reduceEq, Bool.false_or, Bool.or_false, Bool.true_or, Bool.or_true, Bool.true_and, Bool.and_true, Bool.false_and, Bool.and_false, Bool.or_self, Bool.and_self, m16, m2, h3, show decide ((3 : Int) = 1) = false from rfl]
    · by_cases h5 : m % 8 = 5
      · refine ⟨x % 201 - 100, ?_, by omega⟩
        simp (disch := first | exact mulOk_bd | assumption | omega) only [evE_v0, evE_v1, evE_v2, evE_v3, evE_v4, evE_v5, evE_v6, evE_v7, evE_v8, evE_v9, evE_v10, evE_int, evE_bl, evE_non, evE_str, evE_bin, evE_neg, evE_not, evE_cmp, evE_tup, evE_lst, evE_ix, evE_call, evE_bi, evE_sl, evE_isi, andB_t, andB_f, orB_t, orB_f, andB_b, orB_b, evE_and, evE_or, evAnd_one, evOr_one, evAnd_two, evOr_two, evEs_nil, evEs_cons, evSs_nil, evSs_cons, evS_ex, evS_ret, ifB_t, ifB_f, evS_ife, evS_raise, evS_for, seq_t, seq_l, it_seq, ans_nx, ans_rt, ans_xc, forL_nil, forL_cons, ix_t0, ix_t1, ix_t2, ix_t3, o_add, o_sub, o_mul, o_fdiv, o_mod, o_neg, o_not, c_lt, c_le, c_gt, c_ge, c_eq, c_ne, c_eq2, c_ne2, c_eq3, c_ne3, c_is, c_isnot, isi_tt, isi_lt, isi_it, isi_ii, isi_ib, isi_ll, len_t1, len_t2, len_t3, len_t4, len_l, abs_i, tup_l, part_0, part_1, sl_l, call_0, call_1, call_2, call_3, call_4, call_5, call_6, call_7, glob_0, glob_1, glob_2, evE_v11, evE_v12, evE_v13, evE_v14, evE_v15, evE_v16, evE_v17, evE_v18, evE_v19, evE_v20, evS_set0, evS_setL0, evS_set1, evS_setL1, evS_set2, evS_setL2, evS_set3, evS_setL3, evS_set4, evS_setL4, evS_set5, evS_setL5, evS_set6, evS_setL6, evS_set7, evS_setL7, evS_set8, evS_setL8, evS_set9, evS_setL9, evS_set10, evS_setL10, evS_set11, evS_setL11, evS_set12, evS_setL12, evS_set13, evS_setL13, evS_set14, evS_setL14, evS_set15, evS_setL15, evS_set16, evS_setL16, evS_set17, evS_setL17, evS_set18, evS_setL18, evS_set19, evS_setL19, evS_set20, evS_setL20, evS_app0, evS_frz0, evS_frs0, evE_ixo0, evS_aug0, evS_app1, evS_frz1, evS_frs1, evE_ixo1, evS_aug1, evS_app2, evS_frz2, evS_frs2, evE_ixo2, evS_aug2, evS_app3, evS_frz3, evS_frs3, evE_ixo3, evS_aug3, evS_app4, evS_frz4, evS_frs4, evE_ixo4, evS_aug4, evS_app5, evS_frz5, evS_frs5, evE_ixo5, evS_aug5, evS_app6, evS_frz6, evS_frs6, evE_ixo6, evS_aug6, evS_app7, evS_frz7, evS_frs7, evE_ixo7, evS_aug7, evS_app8, evS_frz8, evS_frs8, evE_ixo8, evS_aug8, evS_app9, evS_frz9, evS_frs9, evE_ixo9, evS_aug9, evS_app10, evS_frz10, evS_frs10, evE_ixo10, evS_aug10, evS_app11, evS_frz11, evS_frs11, evE_ixo11, evS_aug11, evS_app12, evS_frz12, evS_frs12, evE_ixo12, evS_aug12, evS_app13, evS_frz13, evS_frs13, evE_ixo13, evS_aug13, evS_app14, evS_frz14, evS_frs14, evE_ixo14, evS_aug14, evS_app15, evS_frz15, evS_frs15, evE_ixo15, evS_aug15, evS_app16, evS_frz16, evS_frs16, evE_ixo16, evS_aug16, evS_pass, evE_ife, ifE_t, ifE_f, it_rng1, it_rng2, c_isnN, c_isnI, c_isN, c_isI, c_isnL, c_isnT, c_isL, c_isT, o_band, o_shr, len_t0, tup_t, call_8, call_9, call_10, call_11, call_12, rb_ok, rb_bad, rb_exc, ra_ok, ra_bad, ra_exc, ft_nx, ft_rt, ft_bad, ft_xc, List.set_cons_zero, List.set_cons_succ, List.nil_append, List.cons_append, Bool.not_true, Bool.not_false, decide_true, decide_false, eq_self, Int.reduceEq, Bool.false_or, Bool.or_false, Bool.true_or, Bool.or_true, Bool.true_and, Bool.and_true, Bool.false_and, Bool.and_false, Bool.or_self, Bool.and_self, m16, m8, m201, decide_eq_false h1, decide_eq_false h3, h5]
      · refine ⟨x % 19 - 9, ?_, by omega⟩
        simp (disch := first | exact mulOk_bd | assumption | omega) only [evE_v0, evE_v1, evE_v2, evE_v3, evE_v4, evE_v5, evE_v6, evE_v7, evE_v8, evE_v9, evE_v10, evE_int, evE_bl, evE_non, evE_str, evE_bin, evE_neg, evE_not, evE_cmp, evE_tup, evE_lst, evE_ix, evE_call, evE_bi, evE_sl, evE_isi, andB_t, andB_f, orB_t, orB_f, andB_b, orB_b, evE_and, evE_or, evAnd_one, evOr_one, evAnd_two, evOr_two, evEs_nil, evEs_cons, evSs_nil, evSs_cons, evS_ex, evS_ret, ifB_t, ifB_f, evS_ife, evS_raise, evS_for, seq_t, seq_l, it_seq, ans_nx, ans_rt, ans_xc, forL_nil, forL_cons, ix_t0, ix_t1, ix_t2, ix_t3, o_add, o_sub, o_mul, o_fdiv, o_mod, o_neg, o_not, c_lt, c_le, c_gt, c_ge, c_eq, c_ne, c_eq2, c_ne2, c_eq3, c_ne3, c_is, c_isnot, isi_tt, isi_lt, isi_it, isi_ii, isi_ib, isi_ll, len_t1, len_t2, len_t3, len_t4, len_l, abs_i, tup_l, part_0, part_1, sl_l, call_0, call_1, call_2, call_3, call_4, call_5, call_6, call_7, glob_0, glob_1, glob_2, evE_v11, evE_v12, evE_v13, evE_v14, evE_v15, evE_v16, evE_v17, evE_v18, evE_v19, evE_v20, evS_set0, evS_setL0, evS_set1, evS_setL1, evS_set2, evS_setL2, evS_set3, evS_setL3, evS_set4, evS_setL4, evS_set5, evS_setL5, evS_set6, evS_setL6, evS_set7, evS_setL7, evS_set8, evS_setL8, evS_set9, evS_setL9, evS_set10, evS_setL10, evS_set11, evS_setL11, evS_set12, evS_setL12, evS_set13, evS_setL13, evS_set14, evS_setL14, evS_set15, evS_setL15, evS_set16, evS_setL16, evS_set17, evS_setL17, evS_set18, evS_setL18, evS_set19, evS_setL19, evS_set20, evS_setL20, evS_app0, evS_frz0, evS_frs0, evE_ixo0, evS_aug0, evS_app1, evS_frz1, evS_frs1, evE_ixo1, evS_aug1, evS_app2, evS_frz2, evS_frs2, evE_ixo2, evS_aug2, evS_app3, evS_frz3, evS_frs3, evE_ixo3, evS_aug3, evS_app4, evS_frz4, evS_frs4, evE_ixo4, evS_aug4, evS_app5, evS_frz5, evS_frs5, evE_ixo5, evS_aug5, evS_app6, evS_frz6, evS_frs6, evE_ixo6, evS_aug6, evS_app7, evS_frz7, evS_frs7, evE_ixo7, evS_aug7, evS_app8, evS_frz8, evS_frs8, evE_ixo8, evS_aug8, evS_app9, evS_frz9, evS_frs9, evE_ixo9, evS_aug9, evS_app10, evS_frz10, evS_frs10, evE_ixo10, evS_aug10, evS_app11, evS_frz11, evS_frs11, evE_ixo11, evS_aug11, evS_app12, evS_frz12, evS_frs12, evE_ixo12, evS_aug12, evS_app13, evS_frz13, evS_frs13, evE_ixo13, evS_aug13, evS_app14, evS_frz14, evS_frs14, evE_ixo14, evS_aug14, evS_app15, evS_frz15, evS_frs15, evE_ixo15, evS_aug15, evS_app16, evS_frz16, evS_frs16, evE_ixo16, evS_aug16, evS_pass, evE_ife, ifE_t, ifE_f, it_rng1, it_rng2, c_isnN, c_isnI, c_isN, c_isI, c_isnL, c_isnT, c_isL, c_isT, o_band, o_shr, len_t0, tup_t, call_8, call_9, call_10, call_11, call_12, rb_ok, rb_bad, rb_exc, ra_ok, ra_bad, ra_exc, ft_nx, ft_rt, ft_bad, ft_xc, List.set_cons_zero, List.set_cons_succ, List.nil_append, List.cons_append, Bool.not_true, Bool.not_false, decide_true, decide_false, eq_self, Int.reduceEq, Bool.false_or, Bool.or_false, Bool.true_or, Bool.or_true, Bool.true_and, Bool.and_true, Bool.false_and, Bool.and_false, Bool.or_self, Bool.and_self, m16, m8, m19, decide_eq_false h1, decide_eq_false h3, decide_eq_false h5]
end FT

namespace FT
open PySem PySem.Spec PyProof.Rows L2
theorem nat_bd {x p : Nat} (h : x < p) (hp : p ≤ 10001) : Bd 14 (x : Int) := ⟨by
  have : (2 : Nat) ^ 14 = 16384 := by decide
  omega⟩
theorem pow_sq (F S T : Nat) (p : Nat) : F * S % p * (S * S % p) ^ (T / 2) % p = F * (S * (S * S) ^ (T / 2)) % p := by
  rw [Nat.mul_mod, Nat.mod_mod, Nat.pow_mod, Nat.mod_mod, ← Nat.pow_mod, ← Nat.mul_mod, Nat.mul_assoc]
theorem pow_sq0 (F S T : Nat) (p : Nat) : F * (S * S % p) ^ (T / 2) % p = F * (S * S) ^ (T / 2) % p := by
  rw [Nat.mul_mod, Nat.pow_mod, Nat.mod_mod, ← Nat.pow_mod, ← Nat.mul_mod]
theorem pow_odd {T : Nat} (S : Nat) (h : T % 2 = 1) : S * (S * S) ^ (T / 2) = S ^ T := by
  have : T = 2 * (T / 2) + 1 := by omega
  rw [← Nat.pow_two, ← Nat.pow_mul, Nat.mul_comm, ← Nat.pow_succ]
  congr 1
  exact this.symm
theorem pow_even {T : Nat} (S : Nat) (h : T % 2 = 0) : (S * S) ^ (T / 2) = S ^ T := by
  have : T = 2 * (T / 2) := by omega
  rw [← Nat.pow_two, ← Nat.pow_mul]
  congr 1
  exact this.symm
theorem cast_mod (x y p : Nat) : ((x : Int) * (y : Int)) % (p : Int) = ((x * y % p : Nat) : Int) := by
  rw [Int.natCast_emod, Int.natCast_mul]
noncomputable abbrev lpc : En → R D := fun ρ => evE G_left_of_power (.cmp .gt (.v 1) (.int 0)) ρ
noncomputable abbrev lpb : En → Fl := fun ρ => evSs G_left_of_power w1_left_of_power ρ
theorem lp_loop {p : Nat} (hp : 0 < p) (hp2 : p ≤ 10001) {d0 : D} : ∀ (n T F S : Nat), T ≤ n → F < p → S < p →
    ∃ s4, whileL lpc lpb [some (.sh d0), some (.sh (.int T)), some (.sh (.int p)), some (.sh (.int F)), some (.sh (.int S))] = .nx [some (.sh d0), some (.sh (.int 0)), some (.sh (.int p)), some (.sh (.int (F * S ^ T % p : Nat))), s4]
  | n, T, F, S, hT, hF, hS => by
    by_cases h0 : T = 0
    · subst h0
      refine ⟨some (.sh (.int S)), ?_⟩
      have e : lpc [some (.sh d0), some (.sh (.int (0 : Nat))), some (.sh (.int p)), some (.sh (.int F)), some (.sh (.int S))] = .ok (.bool false) := by
        show evE G_left_of_power _ _ = _
        unfold G_left_of_power
        simp (disch := first | exact mulOk_bd | assumption | omega) only [evE_v0, evE_v1, evE_v2, evE_v3, evE_v4, evE_v5, evE_v6, evE_v7, evE_v8, evE_v9, evE_v10, evE_int, evE_bl, evE_non, evE_str, evE_bin, evE_neg, evE_not, evE_cmp, evE_tup, evE_lst, evE_ix, evE_call, evE_bi, evE_sl, evE_isi, andB_t, andB_f, orB_t, orB_f, andB_b, orB_b, evE_and, evE_or, evAnd_one, evOr_one, evAnd_two, evOr_two, evEs_nil, evEs_cons, evSs_nil, evSs_cons, evS_ex, evS_ret, ifB_t, ifB_f, evS_ife, evS_raise, evS_for, seq_t, seq_l, it_seq, ans_nx, ans_rt, ans_xc, forL_nil, forL_cons, ix_t0, ix_t1, ix_t2, ix_t3, o_add, o_sub, o_mul, o_fdiv, o_mod, o_neg, o_not, c_lt, c_le, c_gt, c_ge, c_eq, c_ne, c_eq2, c_ne2, c_eq3, c_ne3, c_is, c_isnot, isi_tt, isi_lt, isi_it, isi_ii, isi_ib, isi_ll, len_t1, len_t2, len_t3, len_t4, len_l, abs_i, tup_l, part_0, part_1, sl_l, call_0, call_1, call_2, call_3, call_4, call_5, call_6, call_7, glob_0, glob_1, glob_2, evE_v11, evE_v12, evE_v13, evE_v14, evE_v15, evE_v16, evE_v17, evE_v18, evE_v19, evE_v20, evS_set0, evS_setL0, evS_set1, evS_setL1, evS_set2, evS_setL2, evS_set3, evS_setL3, evS_set4, evS_setL4, evS_set5, evS_setL5, evS_set6, evS_setL6, evS_set7, evS_setL7, evS_set8, evS_setL8, evS_set9, evS_setL9, evS_set10, evS_setL10, evS_set11, evS_setL11, evS_set12, evS_setL12, evS_set13, evS_setL13, evS_set14, evS_setL14, evS_set15, evS_setL15, evS_set16, evS_setL16, evS_set17, evS_setL17, evS_set18, evS_setL18, evS_set19, evS_setL19, evS_set20, evS_setL20, evS_app0, evS_frz0, evS_frs0, evE_ixo0, evS_aug0, evS_app1, evS_frz1, evS_frs1, evE_ixo1, evS_aug1, evS_app2, evS_frz2, evS_frs2, evE_ixo2, evS_aug2, evS_app3, evS_frz3, evS_frs3, evE_ixo3, evS_aug3, evS_app4, evS_frz4, evS_frs4, evE_ixo4, evS_aug4, evS_app5, evS_frz5, evS_frs5, evE_ixo5, evS_aug5, evS_app6, evS_frz6, evS_frs6, evE_ixo6, evS_aug6, evS_app7, evS_frz7, evS_frs7, evE_ixo7, evS_aug7, evS_app8, evS_frz8, evS_frs8, evE_ixo8, evS_aug8, evS_app9, evS_frz9, evS_frs9, evE_ixo9, evS_aug9, evS_app10, evS_frz10, evS_frs10, evE_ixo10, evS_aug10, evS_app11, evS_frz11, evS_frs11, evE_ixo11, evS_aug11, evS_app12, evS_frz12, evS_frs12, evE_ixo12, evS_aug12, evS_app13, evS_frz13, evS_frs13, evE_ixo13, evS_aug13, evS_app14, evS_frz14, evS_frs14, evE_ixo14, evS_aug14, evS_app15, evS_frz15, evS_frs15, evE_ixo15, evS_aug15, evS_app16, evS_frz16, evS_frs16, evE_ixo16, evS_aug16, evS_pass, evE_ife, ifE_t, ifE_f, it_rng1, it_rng2, c_isnN, c_isnI, c_isN, c_isI, c_isnL, c_isnT, c_isL, c_isT, o_band, o_shr, len_t0, tup_t, call_8, call_9, call_10, call_11, call_12, rb_ok, rb_bad, rb_exc, ra_ok, ra_bad, ra_exc, ft_nx, ft_rt, ft_bad, ft_xc, List.set_cons_zero, List.set_cons_succ, List.nil_append, List.cons_append, Bool.not_true, Bool.not_false, decide_true, decide_false, eq_self, Int.reduceEq, Bool.false_or, Bool.or_false, Bool.true_or, Bool.or_true, Bool.true_and, Bool.and_true, Bool.false_and, Bool.and_false, Bool.or_self, Bool.and_self, decide_eq_false (show ¬ (0 : Int) < ((0 : Nat) : Int) by omega)]
      rw [whileL_eq, e, Nat.pow_zero, Nat.mul_one, Nat.mod_eq_of_lt hF]
      rfl
    · match n, hT with
      | 0, hT => exact absurd hT (by omega)
      | n + 1, hT =>
        have B1 := nat_bd hF hp2
        have B2 := nat_bd hS hp2
        have hpI : (0 : Int) < (p : Int) := by omega
        have hsh : ((T : Int)) / 2 ^ (1 : Int).toNat = ((T / 2 : Nat) : Int) := by
          show (T : Int) / (2 ^ 1) = _
          omega
        have e1 : lpc [some (.sh d0), some (.sh (.int T)), some (.sh (.int p)), some (.sh (.int F)), some (.sh (.int S))] = .ok (.bool true) := by
          show evE G_left_of_power _ _ = _
          unfold G_left_of_power
          simp (disch := first | exact mulOk_bd | assumption | omega) only [evE_v0, evE_v1, evE_v2, evE_v3, evE_v4, evE_v5, evE_v6, evE_v7, evE_v8, evE_v9, evE_v10, evE_int, evE_bl, evE_non, evE_str, evE_bin, evE_neg, evE_not, evE_cmp, evE_tup, evE_lst, evE_ix, evE_call, evE_bi, evE_sl, evE_isi, andB_t, andB_f, orB_t, orB_f, andB_b, orB_b, evE_and, evE_or, evAnd_one, evOr_one, evAnd_two, evOr_two, evEs_nil, evEs_cons, evSs_nil, evSs_cons, evS_ex, evS_ret, ifB_t, ifB_f, evS_ife, evS_raise, evS_for, seq_t, seq_l, it_seq, ans_nx, ans_rt, ans_xc, forL_nil, forL_cons, ix_t0, ix_t1, ix_t2, ix_t3, o_add, o_sub, o_mul, o_fdiv, o_mod, o_neg, o_not, c_lt, c_le, c_gt, c_ge, c_eq, c_ne, c_eq2, c_ne2, c_eq3, c_ne3, c_is, c_isnot, isi_tt, isi_lt, isi_it, isi_ii, isi_ib, isi_ll, len_t1, len_t2, len_t3, len_t4, len_l, abs_i, tup_l, part_0, part_1, sl_l, call_0, call_1, call_2, call_3, call_4, call_5, call_6, call_7, glob_0, glob_1, glob_2, evE_v11, evE_v12, evE_v13, evE_v14, evE_v15, evE_v16, evE_v17, evE_v18, evE_v19, evE_v20, evS_set0, evS_setL0, evS_set1, evS_setL1, evS_set2, evS_setL2, evS_set3, evS_setL3, evS_set4, evS_setL4, evS_set5, evS_setL5, evS_set6, evS_setL6, evS_set7, evS_setL7, evS_set8, evS_setL8, evS_set9, evS_setL9, evS_set10, evS_setL10, evS_set11, evS_setL11, evS_set12, evS_setL12, evS_set13, evS_setL13, evS_set14, evS_setL14, evS_set15, evS_setL15, evS_set16, evS_setL16, evS_set17, evS_setL17, evS_set18, evS_setL18, evS_set19, evS_setL19, evS_set20, evS_setL20, evS_app0, evS_frz0, evS_frs0, evE_ixo0, evS_aug0, evS_app1, evS_frz1, evS_frs1, evE_ixo1, evS_aug1, evS_app2, evS_frz2, evS_frs2, evE_ixo2, evS_aug2, evS_app3, evS_frz3, evS_frs3, evE_ixo3, evS_aug3, evS_app4, evS_frz4, evS_frs4, evE_ixo4, evS_aug4, evS_app5, evS_frz5, evS_frs5, evE_ixo5, evS_aug5, evS_app6, evS_frz6, evS_frs6, evE_ixo6, evS_aug6, evS_app7, evS_frz7, evS_frs7, evE_ixo7, evS_aug7, evS_app8, evS_frz8, evS_frs8, evE_ixo8, evS_aug8, evS_app9, evS_frz9, evS_frs9, evE_ixo9, evS_aug9, evS_app10, evS_frz10, evS_frs10, evE_ixo10, evS_aug10, evS_app11, evS_frz11, evS_frs11, evE_ixo11, evS_aug11, evS_app12, evS_frz12, evS_frs12, evE_ixo12, evS_aug12, evS_app13, evS_frz13, evS_frs13, evE_ixo13, evS_aug13, evS_app14, evS_frz14, evS_frs14, evE_ixo14, evS_aug14, evS_app15, evS_frz15, evS_frs15, evE_ixo15, evS_aug15, evS_app16, evS_frz16, evS_frs16, evE_ixo16, evS_aug16, evS_pass, evE_ife, ifE_t, ifE_f, it_rng1, it_rng2, c_isnN, c_isnI, c_isN, c_isI, c_isnL, c_isnT, c_isL, c_isT, o_band, o_shr, len_t0, tup_t, call_8, call_9, call_10, call_11, call_12, rb_ok, rb_bad, rb_exc, ra_ok, ra_bad, ra_exc, ft_nx, ft_rt, ft_bad, ft_xc, List.set_cons_zero, List.set_cons_succ, List.nil_append, List.cons_append, Bool.not_true, Bool.not_false, decide_true, decide_false, eq_self, Int.reduceEq, Bool.false_or, Bool.or_false, Bool.true_or, Bool.or_true, Bool.true_and, Bool.and_true, Bool.false_and, Bool.and_false, Bool.or_self, Bool.and_self, decide_eq_true (show (0 : Int) < (T : Int) by omega)]
        rw [whileL_eq, e1]
        show ∃ s4, (evSs G_left_of_power w1_left_of_power _).then (whileL lpc lpb) = _
        by_cases ho : T % 2 = 1
        · have hb : evSs G_left_of_power w1_left_of_power [some (.sh d0), some (.sh (.int T)), some (.sh (.int p)), some (.sh (.int F)), some (.sh (.int S))] = .nx [some (.sh d0), some (.sh (.int (T / 2 : Nat))), some (.sh (.int p)), some (.sh (.int (F * S % p : Nat))), some (.sh (.int (S * S % p : Nat)))] := by
            unfold G_left_of_power w1_left_of_power
            simp (disch := first | exact mulOk_bd | assumption | omega) only [evE_v0, evE_v1, evE_v2, evE_v3, evE_v4, evE_v5, evE_v6, evE_v7, evE_v8, evE_v9, evE_v10, evE_int, evE_bl, evE_non, evE_str, evE_bin, evE_neg, evE_not, evE_cmp, evE_tup, evE_lst, evE_ix, evE_call, evE_bi, evE_sl, evE_isi, andB_t, andB_f, orB_t, orB_f, andB_b, orB_b, evE_and, evE_or, evAnd_one, evOr_one, evAnd_two, evOr_two, evEs_nil, evEs_cons, evSs_nil, evSs_cons, evS_ex, evS_ret, ifB_t, ifB_f, evS_ife, evS_raise, evS_for, seq_t, seq_l, it_seq, ans_nx, ans_rt, ans_xc, forL_nil, forL_cons, ix_t0, ix_t1, ix_t2, ix_t3, o_add, o_sub, o_mul, o_fdiv, o_mod, o_neg, o_not, c_lt, c_le, c_gt, c_ge, c_eq, c_ne, c_eq2, c_ne2, c_eq3, c_ne3, c_is, c_isnot, isi_tt, isi_lt, isi_it, isi_ii, isi_ib, isi_ll, len_t1, len_t2, len_t3, len_t4, len_l, abs_i, tup_l, part_0, part_1, sl_l, call_0, call_1, call_2, call_3, call_4, call_5, call_6, call_7, glob_0, glob_1, glob_2, evE_v11, evE_v12, evE_v13, evE_v14, evE_v15, evE_v16, evE_v17, evE_v18, evE_v19, evE_v20, evS_set0, evS_setL0, evS_set1, evS_setL1, evS_set2, evS_setL2, evS_set3, evS_setL3, evS_set4, evS_setL4, evS_set5, evS_setL5, evS_set6, evS_setL6, evS_set7, evS_setL7, evS_set8, evS_setL8, evS_set9, evS_setL9, evS_set10, evS_setL10, evS_set11, evS_setL11, evS_set12, evS_setL12, evS_set13, evS_setL13, evS_set14, evS_setL14, evS_set15, evS_setL15, evS_set16, evS_setL16, evS_set17, evS_setL17, evS_set18, evS_setL18, evS_set19, evS_setL19, evS_set20, evS_setL20, evS_app0, evS_frz0, evS_frs0, evE_ixo0, evS_aug0, evS_app1, evS_frz1, evS_frs1, evE_ixo1, evS_aug1, evS_app2, evS_frz2, evS_frs2, evE_ixo2, evS_aug2, evS_app3, evS_frz3, evS_frs3, evE_ixo3, evS_aug3, evS_app4, evS_frz4, evS_frs4, evE_ixo4, evS_aug4, evS_app5, evS_frz5, evS_frs5, evE_ixo5, evS_aug5, evS_app6, evS_frz6, evS_frs6, evE_ixo6, evS_aug6, evS_app7, evS_frz7, evS_frs7, evE_ixo7, evS_aug7, evS_app8, evS_frz8, evS_frs8, evE_ixo8, evS_aug8, evS_app9, evS_frz9, evS_frs9, evE_ixo9, evS_aug9, evS_app10, evS_frz10, evS_frs10, evE_ixo10, evS_aug10, evS_app11, evS_frz11, evS_frs11, evE_ixo11, evS_aug11, evS_app12, evS_frz12, evS_frs12, evE_ixo12, evS_aug12, evS_app13, evS_frz13, evS_frs13, evE_ixo13, evS_aug13, evS_app14, evS_frz14, evS_frs14, evE_ixo14, evS_aug14, evS_app15, evS_frz15, evS_frs15, evE_ixo15, evS_aug15, evS_app16, evS_frz16, evS_frs16, evE_ixo16, evS_aug16, evS_pass, evE_ife, ifE_t, ifE_f, it_rng1, it_rng2, c_isnN, c_isnI, c_isN, c_isI, c_isnL, c_isnT, c_isL, c_isT, o_band, o_shr, len_t0, tup_t, call_8, call_9, call_10, call_11, call_12, rb_ok, rb_bad, rb_exc, ra_ok, ra_bad, ra_exc, ft_nx, ft_rt, ft_bad, ft_xc, List.set_cons_zero, List.set_cons_succ, List.nil_append, List.cons_append, Bool.not_true, Bool.not_false, decide_true, decide_false, eq_self, Int.reduceEq, Bool.false_or, Bool.or_false, Bool.true_or, Bool.or_true, Bool.true_and, Bool.and_true, Bool.false_and, Bool.and_false, Bool.or_self, Bool.and_self, bitAnd_m1, show ((T : Int) % 2) = 1 by omega, o_mod hpI, cast_mod, o_shr (show (0 : Int) ≤ 1 by decide), hsh]
          rw [hb, ft_nx]
          obtain ⟨s4, h⟩ := lp_loop hp hp2 (d0 := d0) n (T / 2) (F * S % p) (S * S % p) (by omega) (Nat.mod_lt _ hp) (Nat.mod_lt _ hp)
          rw [pow_sq, pow_odd S ho] at h
          exact ⟨s4, h⟩
        · have hb : evSs G_left_of_power w1_left_of_power [some (.sh d0), some (.sh (.int T)), some (.sh (.int p)), some (.sh (.int F)), some (.sh (.int S))] = .nx [some (.sh d0), some (.sh (.int (T / 2 : Nat))), some (.sh (.int p)), some (.sh (.int F)), some (.sh (.int (S * S % p : Nat)))] := by
            unfold G_left_of_power w1_left_of_power
            simp (disch := first | exact mulOk_bd | assumption | omega) only [evE_v0, evE_v1, evE_v2, evE_v3, evE_v4, evE_v5, evE_v6, evE_v7, evE_v8, evE_v9, evE_v10, evE_int, evE_bl, evE_non, evE_str, evE_bin, evE_neg, evE_not, evE_cmp, evE_tup, evE_lst, evE_ix, evE_call, evE_bi, evE_sl, evE_isi, andB_t, andB_f, orB_t, orB_f, andB_b, orB_b, evE_and, evE_or, evAnd_one, evOr_one, evAnd_two, evOr_two, evEs_nil, evEs_cons, evSs_nil, evSs_cons, evS_ex, evS_ret, ifB_t, ifB_f, evS_ife, evS_raise, evS_for, seq_t, seq_l, it_seq, ans_nx, ans_rt, ans_xc, forL_nil, forL_cons, ix_t0, ix_t1, ix_t2, ix_t3, o_add, o_sub, o_mul, o_fdiv, o_mod, o_neg, o_not, c_lt, c_le, c_gt, c_ge, c_eq, c_ne, c_eq2, c_ne2, c_eq3, c_ne3, c_is, c_isnot, isi_tt, isi_lt, isi_it, isi_ii, isi_ib, isi_ll, len_t1, len_t2, len_t3, len_t4, len_l, abs_i, tup_l, part_0, part_1, sl_l, call_0, call_1, call_2, call_3, call_4, call_5, call_6, call_7, glob_0, glob_1, glob_2, evE_v11, evE_v12, evE_v13, evE_v14, evE_v15, evE_v16, evE_v17, evE_v18, evE_v19, evE_v20, evS_set0, evS_setL0, evS_set1, evS_setL1, evS_set2, evS_setL2, evS_set3, evS_setL3, evS_set4, evS_setL4, evS_set5, evS_setL5, evS_set6, evS_setL6, evS_set7, evS_setL7, evS_set8, evS_setL8, evS_set9, evS_setL9, evS_set10, evS_setL10, evS_set11, evS_setL11, evS_set12, evS_setL12, evS_set13, evS_setL13, evS_set14, evS_setL14, evS_set15, evS_setL15, evS_set16, evS_setL16, evS_set17, evS_setL17, evS_set18, evS_setL18, evS_set19, evS_setL19, evS_set20, evS_setL20, evS_app0, evS_frz0, evS_frs0, evE_ixo0, evS_aug0, evS_app1, evS_frz1, evS_frs1, evE_ixo1, evS_aug1, evS_app2, evS_frz2, evS_frs2, evE_ixo2, evS_aug2, evS_app3, evS_frz3, evS_frs3, evE_ixo3, evS_aug3, evS_app4, evS_frz4, evS_frs4, evE_ixo4, evS_aug4, evS_app5, evS_frz5, evS_frs5, evE_ixo5, evS_aug5, evS_app6, evS_frz6, evS_frs6, evE_ixo6, evS_aug6, evS_app7, evS_frz7, evS_frs7, evE_ixo7, evS_aug7, evS_app8, evS_frz8, evS_frs8, evE_ixo8, evS_aug8, evS_app9, evS_frz9, evS_frs9, evE_ixo9, evS_aug9, evS_app10, evS_frz10, evS_frs10, evE_ixo10, evS_aug10, evS_app11, evS_frz11, evS_frs11, evE_ixo11, evS_aug11, evS_app12, evS_frz12, evS_frs12, evE_ixo12, evS_aug12, evS_app13, evS_frz13, evS_frs13, evE_ixo13, evS_aug13, evS_app14, evS_frz14, evS_frs14, evE_ixo14, evS_aug14, evS_app15, evS_frz15, evS_frs15, evE_ixo15, evS_aug15, evS_app16, evS_frz16, evS_frs16, evE_ixo16, evS_aug16, evS_pass, evE_ife, ifE_t, ifE_f, it_rng1, it_rng2, c_isnN, c_isnI, c_isN, c_isI, c_isnL, c_isnT, c_isL, c_isT, o_band, o_shr, len_t0, tup_t, call_8, call_9, call_10, call_11, call_12, rb_ok, rb_bad, rb_exc, ra_ok, ra_bad, ra_exc, ft_nx, ft_rt, ft_bad, ft_xc, List.set_cons_zero, List.set_cons_succ, List.nil_append, List.cons_append, Bool.not_true, Bool.not_false, decide_true, decide_false, eq_self, Int.reduceEq, Bool.false_or, Bool.or_false, Bool.true_or, Bool.or_true, Bool.true_and, Bool.and_true, Bool.false_and, Bool.and_false, Bool.or_self, Bool.and_self, bitAnd_m1, show ((T : Int) % 2) = 0 by omega, show decide ((0 : Int) = 1) = false from rfl, o_mod hpI, cast_mod, o_shr (show (0 : Int) ≤ 1 by decide), hsh]
          rw [hb, ft_nx]
          obtain ⟨s4, h⟩ := lp_loop hp hp2 (d0 := d0) n (T / 2) F (S * S % p) (by omega) hF (Nat.mod_lt _ hp)
          rw [pow_sq0, pow_even S (by omega)] at h
          exact ⟨s4, h⟩
/-- a number's rest by p -/
def rest (z : Int) (p : Nat) : Nat := (z % (p : Int)).toNat
theorem rest_eq {z : Int} {p : Nat} (hp : 0 < p) : z % (p : Int) = (rest z p : Int) ∧ rest z p < p := by
  have h1 := Int.emod_nonneg z (show (p : Int) ≠ 0 by omega)
  have h2 := Int.emod_lt_of_pos z (show (0 : Int) < p by omega)
  unfold rest
  omega
theorem v_power {p : Nat} (hp : 2 ≤ p) (hp2 : p ≤ 10001) (z : Int) (T : Nat) : sem_left_of_power [.int z, .int T, .int p] = .ok (.int (rest z p ^ T % p : Nat)) := by
  obtain ⟨r1, r2⟩ := rest_eq (z := z) (show 0 < p by omega)
  obtain ⟨s4, h⟩ := lp_loop (show 0 < p by omega) hp2 (d0 := .int z) T T 1 (rest z p) (Nat.le_refl _) (by omega) r2
  have hw2 : evS G_left_of_power (.while_ (.cmp .gt (.v 1) (.int 0)) w1_left_of_power) [some (.sh (.int z)), some (.sh (.int T)), some (.sh (.int p)), some (.sh (.int (1 : Nat))), some (.sh (.int (rest z p)))] = _ := evS_while.trans h
  show (evSs G_left_of_power b_left_of_power [some (.sh _), some (.sh _), some (.sh _), none, none]).ans = _
  have hpI : (0 : Int) < (p : Int) := by omega
  have e1 : (1 : Int) % (p : Int) = ((1 : Nat) : Int) := by
    rw [Int.emod_eq_of_lt (by decide) (by omega)]
    rfl
  unfold b_left_of_power
  unfold G_left_of_power at hw2 ⊢
  simp (disch := first | exact mulOk_bd | assumption | omega) only [evE_v0, evE_v1, evE_v2, evE_v3, evE_v4, evE_v5, evE_v6, evE_v7, evE_v8, evE_v9, evE_v10, evE_int, evE_bl, evE_non, evE_str, evE_bin, evE_neg, evE_not, evE_cmp, evE_tup, evE_lst, evE_ix, evE_call, evE_bi, evE_sl, evE_isi, andB_t, andB_f, orB_t, orB_f, andB_b, orB_b, evE_and, evE_or, evAnd_one, evOr_one, evAnd_two, evOr_two, evEs_nil, evEs_cons, evSs_nil, evSs_cons, evS_ex, evS_ret, ifB_t, ifB_f, evS_ife, evS_raise, evS_for, seq_t, seq_l, it_seq, ans_nx, ans_rt, ans_xc, forL_nil, forL_cons, ix_t0, ix_t1, ix_t2, ix_t3, o_add, o_sub, o_mul, o_fdiv, o_mod, o_neg, o_not, c_lt, c_le, c_gt, c_ge, c_eq, c_ne, c_eq2, c_ne2, c_eq3, c_ne3, c_is, c_isnot, isi_tt, isi_lt, isi_it, isi_ii, isi_ib, isi_ll, len_t1, len_t2, len_t3, len_t4, len_l, abs_i, tup_l, part_0, part_1, sl_l, call_0, call_1, call_2, call_3, call_4, call_5, call_6, call_7, glob_0, glob_1, glob_2, evE_v11, evE_v12, evE_v13, evE_v14, evE_v15, evE_v16, evE_v17, evE_v18, evE_v19, evE_v20, evS_set0, evS_setL0, evS_set1, evS_setL1, evS_set2, evS_setL2, evS_set3, evS_setL3, evS_set4, evS_setL4, evS_set5, evS_setL5, evS_set6, evS_setL6, evS_set7, evS_setL7, evS_set8, evS_setL8, evS_set9, evS_setL9, evS_set10, evS_setL10, evS_set11, evS_setL11, evS_set12, evS_setL12, evS_set13, evS_setL13, evS_set14, evS_setL14, evS_set15, evS_setL15, evS_set16, evS_setL16, evS_set17, evS_setL17, evS_set18, evS_setL18, evS_set19, evS_setL19, evS_set20, evS_setL20, evS_app0, evS_frz0, evS_frs0, evE_ixo0, evS_aug0, evS_app1, evS_frz1, evS_frs1, evE_ixo1, evS_aug1, evS_app2, evS_frz2, evS_frs2, evE_ixo2, evS_aug2, evS_app3, evS_frz3, evS_frs3, evE_ixo3, evS_aug3, evS_app4, evS_frz4, evS_frs4, evE_ixo4, evS_aug4, evS_app5, evS_frz5, evS_frs5, evE_ixo5, evS_aug5, evS_app6, evS_frz6, evS_frs6, evE_ixo6, evS_aug6, evS_app7, evS_frz7, evS_frs7, evE_ixo7, evS_aug7, evS_app8, evS_frz8, evS_frs8, evE_ixo8, evS_aug8, evS_app9, evS_frz9, evS_frs9, evE_ixo9, evS_aug9, evS_app10, evS_frz10, evS_frs10, evE_ixo10, evS_aug10, evS_app11, evS_frz11, evS_frs11, evE_ixo11, evS_aug11, evS_app12, evS_frz12, evS_frs12, evE_ixo12, evS_aug12, evS_app13, evS_frz13, evS_frs13, evE_ixo13, evS_aug13, evS_app14, evS_frz14, evS_frs14, evE_ixo14, evS_aug14, evS_app15, evS_frz15, evS_frs15, evE_ixo15, evS_aug15, evS_app16, evS_frz16, evS_frs16, evE_ixo16, evS_aug16, evS_pass, evE_ife, ifE_t, ifE_f, it_rng1, it_rng2, c_isnN, c_isnI, c_isN, c_isI, c_isnL, c_isnT, c_isL, c_isT, o_band, o_shr, len_t0, tup_t, call_8, call_9, call_10, call_11, call_12, rb_ok, rb_bad, rb_exc, ra_ok, ra_bad, ra_exc, ft_nx, ft_rt, ft_bad, ft_xc, List.set_cons_zero, List.set_cons_succ, List.nil_append, List.cons_append, Bool.not_true, Bool.not_false, decide_true, decide_false, eq_self, Int.reduceEq, Bool.false_or, Bool.or_false, Bool.true_or, Bool.or_true, Bool.true_and, Bool.and_true, Bool.false_and, Bool.and_false, Bool.or_self, Bool.and_self, o_mod hpI, e1, r1, hw2, Nat.one_mul]
noncomputable abbrev lsc : En → R D := fun ρ => evE G__law_side (.cmp .gt (.v 4) (.int 0)) ρ
noncomputable abbrev lsb : En → Fl := fun ρ => evSs G__law_side w1__law_side ρ
theorem ls_loop {p : Nat} (hp : 0 < p) (hp2 : p ≤ 10001) {d0 : D} : ∀ (n T F S : Nat), T ≤ n → F < p → S < p →
    ∃ s3, whileL lsc lsb [some (.sh d0), some (.sh (.int p)), some (.sh (.int F)), some (.sh (.int S)), some (.sh (.int T))] = .nx [some (.sh d0), some (.sh (.int p)), some (.sh (.int (F * S ^ T % p : Nat))), s3, some (.sh (.int 0))]
  | n, T, F, S, hT, hF, hS => by
    by_cases h0 : T = 0
    · subst h0
      refine ⟨some (.sh (.int S)), ?_⟩
      have e : lsc [some (.sh d0), some (.sh (.int p)), some (.sh (.int F)), some (.sh (.int S)), some (.sh (.int (0 : Nat)))] = .ok (.bool false) := by
        show evE G__law_side _ _ = _
        unfold G__law_side
        simp (disch := first | exact mulOk_bd | assumption | omega) only [evE_v0, evE_v1, evE_v2, evE_v3, evE_v4, evE_v5, evE_v6, evE_v7, evE_v8, evE_v9, evE_v10, evE_int, evE_bl, evE_non, evE_str, evE_bin, evE_neg, evE_not, evE_cmp, evE_tup, evE_lst, evE_ix, evE_call, evE_bi, evE_sl, evE_isi, andB_t, andB_f, orB_t, orB_f, andB_b, orB_b, evE_and, evE_or, evAnd_one, evOr_one, evAnd_two, evOr_two, evEs_nil, evEs_cons, evSs_nil, evSs_cons, evS_ex, evS_ret, ifB_t, ifB_f, evS_ife, evS_raise, evS_for, seq_t, seq_l, it_seq, ans_nx, ans_rt, ans_xc, forL_nil, forL_cons, ix_t0, ix_t1, ix_t2, ix_t3, o_add, o_sub, o_mul, o_fdiv, o_mod, o_neg, o_not, c_lt, c_le, c_gt, c_ge, c_eq, c_ne, c_eq2, c_ne2, c_eq3, c_ne3, c_is, c_isnot, isi_tt, isi_lt, isi_it, isi_ii, isi_ib, isi_ll, len_t1, len_t2, len_t3, len_t4, len_l, abs_i, tup_l, part_0, part_1, sl_l, call_0, call_1, call_2, call_3, call_4, call_5, call_6, call_7, glob_0, glob_1, glob_2, evE_v11, evE_v12, evE_v13, evE_v14, evE_v15, evE_v16, evE_v17, evE_v18, evE_v19, evE_v20, evS_set0, evS_setL0, evS_set1, evS_setL1, evS_set2, evS_setL2, evS_set3, evS_setL3, evS_set4, evS_setL4, evS_set5, evS_setL5, evS_set6, evS_setL6, evS_set7, evS_setL7, evS_set8, evS_setL8, evS_set9, evS_setL9, evS_set10, evS_setL10, evS_set11, evS_setL11, evS_set12, evS_setL12, evS_set13, evS_setL13, evS_set14, evS_setL14, evS_set15, evS_setL15, evS_set16, evS_setL16, evS_set17, evS_setL17, evS_set18, evS_setL18, evS_set19, evS_setL19, evS_set20, evS_setL20, evS_app0, evS_frz0, evS_frs0, evE_ixo0, evS_aug0, evS_app1, evS_frz1, evS_frs1, evE_ixo1, evS_aug1, evS_app2, evS_frz2, evS_frs2, evE_ixo2, evS_aug2, evS_app3, evS_frz3, evS_frs3, evE_ixo3, evS_aug3, evS_app4, evS_frz4, evS_frs4, evE_ixo4, evS_aug4, evS_app5, evS_frz5, evS_frs5, evE_ixo5, evS_aug5, evS_app6, evS_frz6, evS_frs6, evE_ixo6, evS_aug6, evS_app7, evS_frz7, evS_frs7, evE_ixo7, evS_aug7, evS_app8, evS_frz8, evS_frs8, evE_ixo8, evS_aug8, evS_app9, evS_frz9, evS_frs9, evE_ixo9, evS_aug9, evS_app10, evS_frz10, evS_frs10, evE_ixo10, evS_aug10, evS_app11, evS_frz11, evS_frs11, evE_ixo11, evS_aug11, evS_app12, evS_frz12, evS_frs12, evE_ixo12, evS_aug12, evS_app13, evS_frz13, evS_frs13, evE_ixo13, evS_aug13, evS_app14, evS_frz14, evS_frs14, evE_ixo14, evS_aug14, evS_app15, evS_frz15, evS_frs15, evE_ixo15, evS_aug15, evS_app16, evS_frz16, evS_frs16, evE_ixo16, evS_aug16, evS_pass, evE_ife, ifE_t, ifE_f, it_rng1, it_rng2, c_isnN, c_isnI, c_isN, c_isI, c_isnL, c_isnT, c_isL, c_isT, o_band, o_shr, len_t0, tup_t, call_8, call_9, call_10, call_11, call_12, rb_ok, rb_bad, rb_exc, ra_ok, ra_bad, ra_exc, ft_nx, ft_rt, ft_bad, ft_xc, List.set_cons_zero, List.set_cons_succ, List.nil_append, List.cons_append, Bool.not_true, Bool.not_false, decide_true, decide_false, eq_self, Int.reduceEq, Bool.false_or, Bool.or_false, Bool.true_or, Bool.or_true, Bool.true_and, Bool.and_true, Bool.false_and, Bool.and_false, Bool.or_self, Bool.and_self, decide_eq_false (show ¬ (0 : Int) < ((0 : Nat) : Int) by omega)]
      rw [whileL_eq, e, Nat.pow_zero, Nat.mul_one, Nat.mod_eq_of_lt hF]
      rfl
    · match n, hT with
      | 0, hT => exact absurd hT (by omega)
      | n + 1, hT =>
        have B1 := nat_bd hF hp2
        have B2 := nat_bd hS hp2
        have hpI : (0 : Int) < (p : Int) := by omega
        have hsh : ((T : Int)) / 2 = ((T / 2 : Nat) : Int) := by omega
        have z2 : divOk 2 = true := by decide +kernel
        have e1 : lsc [some (.sh d0), some (.sh (.int p)), some (.sh (.int F)), some (.sh (.int S)), some (.sh (.int T))] = .ok (.bool true) := by
          show evE G__law_side _ _ = _
          unfold G__law_side
          simp (disch := first | exact mulOk_bd | assumption | omega) only [evE_v0, evE_v1, evE_v2, evE_v3, evE_v4, evE_v5, evE_v6, evE_v7, evE_v8, evE_v9, evE_v10, evE_int, evE_bl, evE_non, evE_str, evE_bin, evE_neg, evE_not, evE_cmp, evE_tup, evE_lst, evE_ix, evE_call, evE_bi, evE_sl, evE_isi, andB_t, andB_f, orB_t, orB_f, andB_b, orB_b, evE_and, evE_or, evAnd_one, evOr_one, evAnd_two, evOr_two, evEs_nil, evEs_cons, evSs_nil, evSs_cons, evS_ex, evS_ret, ifB_t, ifB_f, evS_ife, evS_raise, evS_for, seq_t, seq_l, it_seq, ans_nx, ans_rt, ans_xc, forL_nil, forL_cons, ix_t0, ix_t1, ix_t2, ix_t3, o_add, o_sub, o_mul, o_fdiv, o_mod, o_neg, o_not, c_lt, c_le, c_gt, c_ge, c_eq, c_ne, c_eq2, c_ne2, c_eq3, c_ne3, c_is, c_isnot, isi_tt, isi_lt, isi_it, isi_ii, isi_ib, isi_ll, len_t1, len_t2, len_t3, len_t4, len_l, abs_i, tup_l, part_0, part_1, sl_l, call_0, call_1, call_2, call_3, call_4, call_5, call_6, call_7, glob_0, glob_1, glob_2, evE_v11, evE_v12, evE_v13, evE_v14, evE_v15, evE_v16, evE_v17, evE_v18, evE_v19, evE_v20, evS_set0, evS_setL0, evS_set1, evS_setL1, evS_set2, evS_setL2, evS_set3, evS_setL3, evS_set4, evS_setL4, evS_set5, evS_setL5, evS_set6, evS_setL6, evS_set7, evS_setL7, evS_set8, evS_setL8, evS_set9, evS_setL9, evS_set10, evS_setL10, evS_set11, evS_setL11, evS_set12, evS_setL12, evS_set13, evS_setL13, evS_set14, evS_setL14, evS_set15, evS_setL15, evS_set16, evS_setL16, evS_set17, evS_setL17, evS_set18, evS_setL18, evS_set19, evS_setL19, evS_set20, evS_setL20, evS_app0, evS_frz0, evS_frs0, evE_ixo0, evS_aug0, evS_app1, evS_frz1, evS_frs1, evE_ixo1, evS_aug1, evS_app2, evS_frz2, evS_frs2, evE_ixo2, evS_aug2, evS_app3, evS_frz3, evS_frs3, evE_ixo3, evS_aug3, evS_app4, evS_frz4, evS_frs4, evE_ixo4, evS_aug4, evS_app5, evS_frz5, evS_frs5, evE_ixo5, evS_aug5, evS_app6, evS_frz6, evS_frs6, evE_ixo6, evS_aug6, evS_app7, evS_frz7, evS_frs7, evE_ixo7, evS_aug7, evS_app8, evS_frz8, evS_frs8, evE_ixo8, evS_aug8, evS_app9, evS_frz9, evS_frs9, evE_ixo9, evS_aug9, evS_app10, evS_frz10, evS_frs10, evE_ixo10, evS_aug10, evS_app11, evS_frz11, evS_frs11, evE_ixo11, evS_aug11, evS_app12, evS_frz12, evS_frs12, evE_ixo12, evS_aug12, evS_app13, evS_frz13, evS_frs13, evE_ixo13, evS_aug13, evS_app14, evS_frz14, evS_frs14, evE_ixo14, evS_aug14, evS_app15, evS_frz15, evS_frs15, evE_ixo15, evS_aug15, evS_app16, evS_frz16, evS_frs16, evE_ixo16, evS_aug16, evS_pass, evE_ife, ifE_t, ifE_f, it_rng1, it_rng2, c_isnN, c_isnI, c_isN, c_isI, c_isnL, c_isnT, c_isL, c_isT, o_band, o_shr, len_t0, tup_t, call_8, call_9, call_10, call_11, call_12, rb_ok, rb_bad, rb_exc, ra_ok, ra_bad, ra_exc, ft_nx, ft_rt, ft_bad, ft_xc, List.set_cons_zero, List.set_cons_succ, List.nil_append, List.cons_append, Bool.not_true, Bool.not_false, decide_true, decide_false, eq_self, Int.reduceEq, Bool.false_or, Bool.or_false, Bool.true_or, Bool.or_true, Bool.true_and, Bool.and_true, Bool.false_and, Bool.and_false, Bool.or_self, Bool.and_self, decide_eq_true (show (0 : Int) < (T : Int) by omega)]
        rw [whileL_eq, e1]
        show ∃ s4, (evSs G__law_side w1__law_side _).then (whileL lsc lsb) = _
        by_cases ho : T % 2 = 1
        · have hb : evSs G__law_side w1__law_side [some (.sh d0), some (.sh (.int p)), some (.sh (.int F)), some (.sh (.int S)), some (.sh (.int T))] = .nx [some (.sh d0), some (.sh (.int p)), some (.sh (.int (F * S % p : Nat))), some (.sh (.int (S * S % p : Nat))), some (.sh (.int (T / 2 : Nat)))] := by
            unfold G__law_side w1__law_side
            simp (disch := first | exact mulOk_bd | assumption | omega) only [evE_v0, evE_v1, evE_v2, evE_v3, evE_v4, evE_v5, evE_v6, evE_v7, evE_v8, evE_v9, evE_v10, evE_int, evE_bl, evE_non, evE_str, evE_bin, evE_neg, evE_not, evE_cmp, evE_tup, evE_lst, evE_ix, evE_call, evE_bi, evE_sl, evE_isi, andB_t, andB_f, orB_t, orB_f, andB_b, orB_b, evE_and, evE_or, evAnd_one, evOr_one, evAnd_two, evOr_two, evEs_nil, evEs_cons, evSs_nil, evSs_cons, evS_ex, evS_ret, ifB_t, ifB_f, evS_ife, evS_raise, evS_for, seq_t, seq_l, it_seq, ans_nx, ans_rt, ans_xc, forL_nil, forL_cons, ix_t0, ix_t1, ix_t2, ix_t3, o_add, o_sub, o_mul, o_fdiv, o_mod, o_neg, o_not, c_lt, c_le, c_gt, c_ge, c_eq, c_ne, c_eq2, c_ne2, c_eq3, c_ne3, c_is, c_isnot, isi_tt, isi_lt, isi_it, isi_ii, isi_ib, isi_ll, len_t1, len_t2, len_t3, len_t4, len_l, abs_i, tup_l, part_0, part_1, sl_l, call_0, call_1, call_2, call_3, call_4, call_5, call_6, call_7, glob_0, glob_1, glob_2, evE_v11, evE_v12, evE_v13, evE_v14, evE_v15, evE_v16, evE_v17, evE_v18, evE_v19, evE_v20, evS_set0, evS_setL0, evS_set1, evS_setL1, evS_set2, evS_setL2, evS_set3, evS_setL3, evS_set4, evS_setL4, evS_set5, evS_setL5, evS_set6, evS_setL6, evS_set7, evS_setL7, evS_set8, evS_setL8, evS_set9, evS_setL9, evS_set10, evS_setL10, evS_set11, evS_setL11, evS_set12, evS_setL12, evS_set13, evS_setL13, evS_set14, evS_setL14, evS_set15, evS_setL15, evS_set16, evS_setL16, evS_set17, evS_setL17, evS_set18, evS_setL18, evS_set19, evS_setL19, evS_set20, evS_setL20, evS_app0, evS_frz0, evS_frs0, evE_ixo0, evS_aug0, evS_app1, evS_frz1, evS_frs1, evE_ixo1, evS_aug1, evS_app2, evS_frz2, evS_frs2, evE_ixo2, evS_aug2, evS_app3, evS_frz3, evS_frs3, evE_ixo3, evS_aug3, evS_app4, evS_frz4, evS_frs4, evE_ixo4, evS_aug4, evS_app5, evS_frz5, evS_frs5, evE_ixo5, evS_aug5, evS_app6, evS_frz6, evS_frs6, evE_ixo6, evS_aug6, evS_app7, evS_frz7, evS_frs7, evE_ixo7, evS_aug7, evS_app8, evS_frz8, evS_frs8, evE_ixo8, evS_aug8, evS_app9, evS_frz9, evS_frs9, evE_ixo9, evS_aug9, evS_app10, evS_frz10, evS_frs10, evE_ixo10, evS_aug10, evS_app11, evS_frz11, evS_frs11, evE_ixo11, evS_aug11, evS_app12, evS_frz12, evS_frs12, evE_ixo12, evS_aug12, evS_app13, evS_frz13, evS_frs13, evE_ixo13, evS_aug13, evS_app14, evS_frz14, evS_frs14, evE_ixo14, evS_aug14, evS_app15, evS_frz15, evS_frs15, evE_ixo15, evS_aug15, evS_app16, evS_frz16, evS_frs16, evE_ixo16, evS_aug16, evS_pass, evE_ife, ifE_t, ifE_f, it_rng1, it_rng2, c_isnN, c_isnI, c_isN, c_isI, c_isnL, c_isnT, c_isL, c_isT, o_band, o_shr, len_t0, tup_t, call_8, call_9, call_10, call_11, call_12, rb_ok, rb_bad, rb_exc, ra_ok, ra_bad, ra_exc, ft_nx, ft_rt, ft_bad, ft_xc, List.set_cons_zero, List.set_cons_succ, List.nil_append, List.cons_append, Bool.not_true, Bool.not_false, decide_true, decide_false, eq_self, Int.reduceEq, Bool.false_or, Bool.or_false, Bool.true_or, Bool.or_true, Bool.true_and, Bool.and_true, Bool.false_and, Bool.and_false, Bool.or_self, Bool.and_self, o_mod (show (0 : Int) < 2 by decide), show ((T : Int) % 2) = 1 by omega, o_mod hpI, cast_mod, o_fdiv z2, hsh]
          rw [hb, ft_nx]
          obtain ⟨s4, h⟩ := ls_loop hp hp2 (d0 := d0) n (T / 2) (F * S % p) (S * S % p) (by omega) (Nat.mod_lt _ hp) (Nat.mod_lt _ hp)
          rw [pow_sq, pow_odd S ho] at h
          exact ⟨s4, h⟩
        · have hb : evSs G__law_side w1__law_side [some (.sh d0), some (.sh (.int p)), some (.sh (.int F)), some (.sh (.int S)), some (.sh (.int T))] = .nx [some (.sh d0), some (.sh (.int p)), some (.sh (.int F)), some (.sh (.int (S * S % p : Nat))), some (.sh (.int (T / 2 : Nat)))] := by
            unfold G__law_side w1__law_side
            simp (disch := first | exact mulOk_bd | assumption | omega) only [evE_v0, evE_v1, evE_v2, evE_v3, evE_v4, evE_v5, evE_v6, evE_v7, evE_v8, evE_v9, evE_v10, evE_int, evE_bl, evE_non, evE_str, evE_bin, evE_neg, evE_not, evE_cmp, evE_tup, evE_lst, evE_ix, evE_call, evE_bi, evE_sl, evE_isi, andB_t, andB_f, orB_t, orB_f, andB_b, orB_b, evE_and, evE_or, evAnd_one, evOr_one, evAnd_two, evOr_two, evEs_nil, evEs_cons, evSs_nil, evSs_cons, evS_ex, evS_ret, ifB_t, ifB_f, evS_ife, evS_raise, evS_for, seq_t, seq_l, it_seq, ans_nx, ans_rt, ans_xc, forL_nil, forL_cons, ix_t0, ix_t1, ix_t2, ix_t3, o_add, o_sub, o_mul, o_fdiv, o_mod, o_neg, o_not, c_lt, c_le, c_gt, c_ge, c_eq, c_ne, c_eq2, c_ne2, c_eq3, c_ne3, c_is, c_isnot, isi_tt, isi_lt, isi_it, isi_ii, isi_ib, isi_ll, len_t1, len_t2, len_t3, len_t4, len_l, abs_i, tup_l, part_0, part_1, sl_l, call_0, call_1, call_2, call_3, call_4, call_5, call_6, call_7, glob_0, glob_1, glob_2, evE_v11, evE_v12, evE_v13, evE_v14, evE_v15, evE_v16, evE_v17, evE_v18, evE_v19, evE_v20, evS_set0, evS_setL0, evS_set1, evS_setL1, evS_set2, evS_setL2, evS_set3, evS_setL3, evS_set4, evS_setL4, evS_set5, evS_setL5, evS_set6, evS_setL6, evS_set7, evS_setL7, evS_set8, evS_setL8, evS_set9, evS_setL9, evS_set10, evS_setL10, evS_set11, evS_setL11, evS_set12, evS_setL12, evS_set13, evS_setL13, evS_set14, evS_setL14, evS_set15, evS_setL15, evS_set16, evS_setL16, evS_set17, evS_setL17, evS_set18, evS_setL18, evS_set19, evS_setL19, evS_set20, evS_setL20, evS_app0, evS_frz0, evS_frs0, evE_ixo0, evS_aug0, evS_app1, evS_frz1, evS_frs1, evE_ixo1, evS_aug1, evS_app2, evS_frz2, evS_frs2, evE_ixo2, evS_aug2, evS_app3, evS_frz3, evS_frs3, evE_ixo3, evS_aug3, evS_app4, evS_frz4, evS_frs4, evE_ixo4, evS_aug4, evS_app5, evS_frz5, evS_frs5, evE_ixo5, evS_aug5, evS_app6, evS_frz6, evS_frs6, evE_ixo6, evS_aug6, evS_app7, evS_frz7, evS_frs7, evE_ixo7, evS_aug7, evS_app8, evS_frz8, evS_frs8, evE_ixo8, evS_aug8, evS_app9, evS_frz9, evS_frs9, evE_ixo9, evS_aug9, evS_app10, evS_frz10, evS_frs10, evE_ixo10, evS_aug10, evS_app11, evS_frz11, evS_frs11, evE_ixo11, evS_aug11, evS_app12, evS_frz12, evS_frs12, evE_ixo12, evS_aug12, evS_app13, evS_frz13, evS_frs13, evE_ixo13, evS_aug13, evS_app14, evS_frz14, evS_frs14, evE_ixo14, evS_aug14, evS_app15, evS_frz15, evS_frs15, evE_ixo15, evS_aug15, evS_app16, evS_frz16, evS_frs16, evE_ixo16, evS_aug16, evS_pass, evE_ife, ifE_t, ifE_f, it_rng1, it_rng2, c_isnN, c_isnI, c_isN, c_isI, c_isnL, c_isnT, c_isL, c_isT, o_band, o_shr, len_t0, tup_t, call_8, call_9, call_10, call_11, call_12, rb_ok, rb_bad, rb_exc, ra_ok, ra_bad, ra_exc, ft_nx, ft_rt, ft_bad, ft_xc, List.set_cons_zero, List.set_cons_succ, List.nil_append, List.cons_append, Bool.not_true, Bool.not_false, decide_true, decide_false, eq_self, Int.reduceEq, Bool.false_or, Bool.or_false, Bool.true_or, Bool.or_true, Bool.true_and, Bool.and_true, Bool.false_and, Bool.and_false, Bool.or_self, Bool.and_self, o_mod (show (0 : Int) < 2 by decide), show ((T : Int) % 2) = 0 by omega, show decide ((0 : Int) = 1) = false from rfl, o_mod hpI, cast_mod, o_fdiv z2, hsh]
          rw [hb, ft_nx]
          obtain ⟨s4, h⟩ := ls_loop hp hp2 (d0 := d0) n (T / 2) F (S * S % p) (by omega) hF (Nat.mod_lt _ hp)
          rw [pow_sq0, pow_even S (by omega)] at h
          exact ⟨s4, h⟩
theorem w_side {p : Nat} (hp : 2 ≤ p) (hp2 : p ≤ 10001) (z : Int) : sem__law_side [.int z, .int p] = .ok (.bool (decide (rest z p ^ (p / 2) % p = 1))) := by
  obtain ⟨r1, r2⟩ := rest_eq (z := z) (show 0 < p by omega)
  obtain ⟨s3, h⟩ := ls_loop (show 0 < p by omega) hp2 (d0 := .int z) (p / 2) (p / 2) 1 (rest z p) (Nat.le_refl _) (by omega) r2
  have hw2 : evS G__law_side (.while_ (.cmp .gt (.v 4) (.int 0)) w1__law_side) [some (.sh (.int z)), some (.sh (.int p)), some (.sh (.int 1)), some (.sh (.int (rest z p))), some (.sh (.int (p / 2 : Nat)))] = _ := evS_while.trans h
  show (evSs G__law_side b__law_side [some (.sh _), some (.sh _), none, none, none]).ans = _
  have hpI : (0 : Int) < (p : Int) := by omega
  have hsh : ((p : Int)) / 2 = ((p / 2 : Nat) : Int) := by omega
  have z2 : divOk 2 = true := by decide +kernel
  have fin : decide (((rest z p ^ (p / 2) % p : Nat) : Int) = 1) = decide (rest z p ^ (p / 2) % p = 1) := by
    congr 1
    exact propext (by omega)
  unfold b__law_side
  unfold G__law_side at hw2 ⊢
  simp (disch := first | exact mulOk_bd | assumption | omega) only [evE_v0, evE_v1, evE_v2, evE_v3, evE_v4, evE_v5, evE_v6, evE_v7, evE_v8, evE_v9, evE_v10, evE_int, evE_bl, evE_non, evE_str, evE_bin, evE_neg, evE_not, evE_cmp, evE_tup, evE_lst, evE_ix, evE_call, evE_bi, evE_sl, evE_isi, andB_t, andB_f, orB_t, orB_f, andB_b, orB_b, evE_and, evE_or, evAnd_one, evOr_one, evAnd_two, evOr_two, evEs_nil, evEs_cons, evSs_nil, evSs_cons, evS_ex, evS_ret, ifB_t, ifB_f, evS_ife, evS_raise, evS_for, seq_t, seq_l, it_seq, ans_nx, ans_rt, ans_xc, forL_nil, forL_cons, ix_t0, ix_t1, ix_t2, ix_t3, o_add, o_sub, o_mul, o_fdiv, o_mod, o_neg, o_not, c_lt, c_le, c_gt, c_ge, c_eq, c_ne, c_eq2, c_ne2, c_eq3, c_ne3, c_is, c_isnot, isi_tt, isi_lt, isi_it, isi_ii, isi_ib, isi_ll, len_t1, len_t2, len_t3, len_t4, len_l, abs_i, tup_l, part_0, part_1, sl_l, call_0, call_1, call_2, call_3, call_4, call_5, call_6, call_7, glob_0, glob_1, glob_2, evE_v11, evE_v12, evE_v13, evE_v14, evE_v15, evE_v16, evE_v17, evE_v18, evE_v19, evE_v20, evS_set0, evS_setL0, evS_set1, evS_setL1, evS_set2, evS_setL2, evS_set3, evS_setL3, evS_set4, evS_setL4, evS_set5, evS_setL5, evS_set6, evS_setL6, evS_set7, evS_setL7, evS_set8, evS_setL8, evS_set9, evS_setL9, evS_set10, evS_setL10, evS_set11, evS_setL11, evS_set12, evS_setL12, evS_set13, evS_setL13, evS_set14, evS_setL14, evS_set15, evS_setL15, evS_set16, evS_setL16, evS_set17, evS_setL17, evS_set18, evS_setL18, evS_set19, evS_setL19, evS_set20, evS_setL20, evS_app0, evS_frz0, evS_frs0, evE_ixo0, evS_aug0, evS_app1, evS_frz1, evS_frs1, evE_ixo1, evS_aug1, evS_app2, evS_frz2, evS_frs2, evE_ixo2, evS_aug2, evS_app3, evS_frz3, evS_frs3, evE_ixo3, evS_aug3, evS_app4, evS_frz4, evS_frs4, evE_ixo4, evS_aug4, evS_app5, evS_frz5, evS_frs5, evE_ixo5, evS_aug5, evS_app6, evS_frz6, evS_frs6, evE_ixo6, evS_aug6, evS_app7, evS_frz7, evS_frs7, evE_ixo7, evS_aug7, evS_app8, evS_frz8, evS_frs8, evE_ixo8, evS_aug8, evS_app9, evS_frz9, evS_frs9, evE_ixo9, evS_aug9, evS_app10, evS_frz10, evS_frs10, evE_ixo10, evS_aug10, evS_app11, evS_frz11, evS_frs11, evE_ixo11, evS_aug11, evS_app12, evS_frz12, evS_frs12, evE_ixo12, evS_aug12, evS_app13, evS_frz13, evS_frs13, evE_ixo13, evS_aug13, evS_app14, evS_frz14, evS_frs14, evE_ixo14, evS_aug14, evS_app15, evS_frz15, evS_frs15, evE_ixo15, evS_aug15, evS_app16, evS_frz16, evS_frs16, evE_ixo16, evS_aug16, evS_pass, evE_ife, ifE_t, ifE_f, it_rng1, it_rng2, c_isnN, c_isnI, c_isN, c_isI, c_isnL, c_isnT, c_isL, c_isT, o_band, o_shr, len_t0, tup_t, call_8, call_9, call_10, call_11, call_12, rb_ok, rb_bad, rb_exc, ra_ok, ra_bad, ra_exc, ft_nx, ft_rt, ft_bad, ft_xc, List.set_cons_zero, List.set_cons_succ, List.nil_append, List.cons_append, Bool.not_true, Bool.not_false, decide_true, decide_false, eq_self, Int.reduceEq, Bool.false_or, Bool.or_false, Bool.true_or, Bool.or_true, Bool.true_and, Bool.and_true, Bool.false_and, Bool.and_false, Bool.or_self, Bool.and_self, o_mod hpI, r1, o_fdiv z2, hsh, hw2, Nat.one_mul, fin]
end FT

namespace FT
open PySem PySem.Spec PyProof.Rows L2
theorem v_side_of {p : Nat} (hp : 2 ≤ p) (hp2 : p ≤ 10001) (z : Int) : sem_side_of [.int z, .int p] = .ok (.int (if rest z p ^ (p / 2) % p = p - 1 then -1 else (rest z p ^ (p / 2) % p : Nat))) := by
  have v := v_power hp hp2 z (p / 2)
  have hsh : ((p : Int)) / 2 ^ (1 : Int).toNat = ((p / 2 : Nat) : Int) := by
    show (p : Int) / (2 ^ 1) = _
    omega
  show (evSs G_side_of b_side_of [some (.sh _), some (.sh _), none]).ans = _
  unfold b_side_of G_side_of
  by_cases h : rest z p ^ (p / 2) % p = p - 1
  · rw [if_pos h]
    simp (disch := first | exact mulOk_bd | assumption | omega) only [evE_v0, evE_v1, evE_v2, evE_v3, evE_v4, evE_v5, evE_v6, evE_v7, evE_v8, evE_v9, evE_v10, evE_int, evE_bl, evE_non, evE_str, evE_bin, evE_neg, evE_not, evE_cmp, evE_tup, evE_lst, evE_ix, evE_call, evE_bi, evE_sl, evE_isi, andB_t, andB_f, orB_t, orB_f, andB_b, orB_b, evE_and, evE_or, evAnd_one, evOr_one, evAnd_two, evOr_two, evEs_nil, evEs_cons, evSs_nil, evSs_cons, evS_ex, evS_ret, ifB_t, ifB_f, evS_ife, evS_raise, evS_for, seq_t, seq_l, it_seq, ans_nx, ans_rt, ans_xc, forL_nil, forL_cons, ix_t0, ix_t1, ix_t2, ix_t3, o_add, o_sub, o_mul, o_fdiv, o_mod, o_neg, o_not, c_lt, c_le, c_gt, c_ge, c_eq, c_ne, c_eq2, c_ne2, c_eq3, c_ne3, c_is, c_isnot, isi_tt, isi_lt, isi_it, isi_ii, isi_ib, isi_ll, len_t1, len_t2, len_t3, len_t4, len_l, abs_i, tup_l, part_0, part_1, sl_l, call_0, call_1, call_2, call_3, call_4, call_5, call_6, call_7, glob_0, glob_1, glob_2, evE_v11, evE_v12, evE_v13, evE_v14, evE_v15, evE_v16, evE_v17, evE_v18, evE_v19, evE_v20, evS_set0, evS_setL0, evS_set1, evS_setL1, evS_set2, evS_setL2, evS_set3, evS_setL3, evS_set4, evS_setL4, evS_set5, evS_setL5, evS_set6, evS_setL6, evS_set7, evS_setL7, evS_set8, evS_setL8, evS_set9, evS_setL9, evS_set10, evS_setL10, evS_set11, evS_setL11, evS_set12, evS_setL12, evS_set13, evS_setL13, evS_set14, evS_setL14, evS_set15, evS_setL15, evS_set16, evS_setL16, evS_set17, evS_setL17, evS_set18, evS_setL18, evS_set19, evS_setL19, evS_set20, evS_setL20, evS_app0, evS_frz0, evS_frs0, evE_ixo0, evS_aug0, evS_app1, evS_frz1, evS_frs1, evE_ixo1, evS_aug1, evS_app2, evS_frz2, evS_frs2, evE_ixo2, evS_aug2, evS_app3, evS_frz3, evS_frs3, evE_ixo3, evS_aug3, evS_app4, evS_frz4, evS_frs4, evE_ixo4, evS_aug4, evS_app5, evS_frz5, evS_frs5, evE_ixo5, evS_aug5, evS_app6, evS_frz6, evS_frs6, evE_ixo6, evS_aug6, evS_app7, evS_frz7, evS_frs7, evE_ixo7, evS_aug7, evS_app8, evS_frz8, evS_frs8, evE_ixo8, evS_aug8, evS_app9, evS_frz9, evS_frs9, evE_ixo9, evS_aug9, evS_app10, evS_frz10, evS_frs10, evE_ixo10, evS_aug10, evS_app11, evS_frz11, evS_frs11, evE_ixo11, evS_aug11, evS_app12, evS_frz12, evS_frs12, evE_ixo12, evS_aug12, evS_app13, evS_frz13, evS_frs13, evE_ixo13, evS_aug13, evS_app14, evS_frz14, evS_frs14, evE_ixo14, evS_aug14, evS_app15, evS_frz15, evS_frs15, evE_ixo15, evS_aug15, evS_app16, evS_frz16, evS_frs16, evE_ixo16, evS_aug16, evS_pass, evE_ife, ifE_t, ifE_f, it_rng1, it_rng2, c_isnN, c_isnI, c_isN, c_isI, c_isnL, c_isnT, c_isL, c_isT, o_band, o_shr, len_t0, tup_t, call_8, call_9, call_10, call_11, call_12, rb_ok, rb_bad, rb_exc, ra_ok, ra_bad, ra_exc, ft_nx, ft_rt, ft_bad, ft_xc, List.set_cons_zero, List.set_cons_succ, List.nil_append, List.cons_append, Bool.not_true, Bool.not_false, decide_true, decide_false, eq_self, Int.reduceEq, Bool.false_or, Bool.or_false, Bool.true_or, Bool.or_true, Bool.true_and, Bool.and_true, Bool.false_and, Bool.and_false, Bool.or_self, Bool.and_self, o_shr (show (0 : Int) ≤ 1 by decide), hsh, v, decide_eq_true (show ((rest z p ^ (p / 2) % p : Nat) : Int) = (p : Int) - 1 by omega)]
  · rw [if_neg h]
    simp (disch := first | exact mulOk_bd | assumption | omega) only [evE_v0, evE_v1, evE_v2, evE_v3, evE_v4, evE_v5, evE_v6, evE_v7, evE_v8, evE_v9, evE_v10, evE_int, evE_bl, evE_non, evE_str, evE_bin, evE_neg, evE_not, evE_cmp, evE_tup, evE_lst, evE_ix, evE_call, evE_bi, evE_sl, evE_isi, andB_t, andB_f, orB_t, orB_f, andB_b, orB_b, evE_and, evE_or, evAnd_one, evOr_one, evAnd_two, evOr_two, evEs_nil, evEs_cons, evSs_nil, evSs_cons, evS_ex, evS_ret, ifB_t, ifB_f, evS_ife, evS_raise, evS_for, seq_t, seq_l, it_seq, ans_nx, ans_rt, ans_xc, forL_nil, forL_cons, ix_t0, ix_t1, ix_t2, ix_t3, o_add, o_sub, o_mul, o_fdiv, o_mod, o_neg, o_not, c_lt, c_le, c_gt, c_ge, c_eq, c_ne, c_eq2, c_ne2, c_eq3, c_ne3, c_is, c_isnot, isi_tt, isi_lt, isi_it, isi_ii, isi_ib, isi_ll, len_t1, len_t2, len_t3, len_t4, len_l, abs_i, tup_l, part_0, part_1, sl_l, call_0, call_1, call_2, call_3, call_4, call_5, call_6, call_7, glob_0, glob_1, glob_2, evE_v11, evE_v12, evE_v13, evE_v14, evE_v15, evE_v16, evE_v17, evE_v18, evE_v19, evE_v20, evS_set0, evS_setL0, evS_set1, evS_setL1, evS_set2, evS_setL2, evS_set3, evS_setL3, evS_set4, evS_setL4, evS_set5, evS_setL5, evS_set6, evS_setL6, evS_set7, evS_setL7, evS_set8, evS_setL8, evS_set9, evS_setL9, evS_set10, evS_setL10, evS_set11, evS_setL11, evS_set12, evS_setL12, evS_set13, evS_setL13, evS_set14, evS_setL14, evS_set15, evS_setL15, evS_set16, evS_setL16, evS_set17, evS_setL17, evS_set18, evS_setL18, evS_set19, evS_setL19, evS_set20, evS_setL20, evS_app0, evS_frz0, evS_frs0, evE_ixo0, evS_aug0, evS_app1, evS_frz1, evS_frs1, evE_ixo1, evS_aug1, evS_app2, evS_frz2, evS_frs2, evE_ixo2, evS_aug2, evS_app3, evS_frz3, evS_frs3, evE_ixo3, evS_aug3, evS_app4, evS_frz4, evS_frs4, evE_ixo4, evS_aug4, evS_app5, evS_frz5, evS_frs5, evE_ixo5, evS_aug5, evS_app6, evS_frz6, evS_frs6, evE_ixo6, evS_aug6, evS_app7, evS_frz7, evS_frs7, evE_ixo7, evS_aug7, evS_app8, evS_frz8, evS_frs8, evE_ixo8, evS_aug8, evS_app9, evS_frz9, evS_frs9, evE_ixo9, evS_aug9, evS_app10, evS_frz10, evS_frs10, evE_ixo10, evS_aug10, evS_app11, evS_frz11, evS_frs11, evE_ixo11, evS_aug11, evS_app12, evS_frz12, evS_frs12, evE_ixo12, evS_aug12, evS_app13, evS_frz13, evS_frs13, evE_ixo13, evS_aug13, evS_app14, evS_frz14, evS_frs14, evE_ixo14, evS_aug14, evS_app15, evS_frz15, evS_frs15, evE_ixo15, evS_aug15, evS_app16, evS_frz16, evS_frs16, evE_ixo16, evS_aug16, evS_pass, evE_ife, ifE_t, ifE_f, it_rng1, it_rng2, c_isnN, c_isnI, c_isN, c_isI, c_isnL, c_isnT, c_isL, c_isT, o_band, o_shr, len_t0, tup_t, call_8, call_9, call_10, call_11, call_12, rb_ok, rb_bad, rb_exc, ra_ok, ra_bad, ra_exc, ft_nx, ft_rt, ft_bad, ft_xc, List.set_cons_zero, List.set_cons_succ, List.nil_append, List.cons_append, Bool.not_true, Bool.not_false, decide_true, decide_false, eq_self, Int.reduceEq, Bool.false_or, Bool.or_false, Bool.true_or, Bool.or_true, Bool.true_and, Bool.and_true, Bool.false_and, Bool.and_false, Bool.or_self, Bool.and_self, o_shr (show (0 : Int) ≤ 1 by decide), hsh, v, decide_eq_false (show ¬ ((rest z p ^ (p / 2) % p : Nat) : Int) = (p : Int) - 1 by omega)]
/-! ### a prime taken apart -/
noncomputable abbrev poc : En → R D := fun ρ => evE G_primes_of (.cmp .le (.bin .mul (.v 2) (.v 2)) (.v 0)) ρ
noncomputable abbrev pob : En → Fl := fun ρ => evSs G_primes_of w2_primes_of ρ
theorem po_body {p d : Nat} (hd : 2 ≤ d) (hd2 : d ≤ 10001) (hn : ¬ d ∣ p) {x3 : Option Sl} :
    evSs G_primes_of w2_primes_of [some (.sh (.int p)), some (.own []), some (.sh (.int d)), x3] = .nx [some (.sh (.int p)), some (.own []), some (.sh (.int (d + 1 : Nat))), some (.sh (.int 0))] := by
  have hdI : (0 : Int) < (d : Int) := by omega
  have hne : ¬ ((p : Int) % (d : Int) = 0) := fun h => hn (Nat.dvd_of_mod_eq_zero (by
    have : ((p % d : Nat) : Int) = 0 := by rw [Int.natCast_emod]; exact h
    omega))
  have hw : evS G_primes_of (.while_ (.cmp .eq (.bin .mod (.v 0) (.v 2)) (.int 0)) w1_primes_of) [some (.sh (.int p)), some (.own []), some (.sh (.int d)), some (.sh (.int 0))] = .nx [some (.sh (.int p)), some (.own []), some (.sh (.int d)), some (.sh (.int 0))] := by
    rw [evS_while, whileL_eq]
    have e : evE G_primes_of (.cmp .eq (.bin .mod (.v 0) (.v 2)) (.int 0)) [some (.sh (.int p)), some (.own []), some (.sh (.int d)), some (.sh (.int 0))] = .ok (.bool false) := by
      unfold G_primes_of
      simp (disch := first | exact mulOk_bd | assumption | omega) only [evE_v0, evE_v1, evE_v2, evE_v3, evE_v4, evE_v5, evE_v6, evE_v7, evE_v8, evE_v9, evE_v10, evE_int, evE_bl, evE_non, evE_str, evE_bin, evE_neg, evE_not, evE_cmp, evE_tup, evE_lst, evE_ix, evE_call, evE_bi, evE_sl, evE_isi, andB_t, andB_f, orB_t, orB_f, andB_b, orB_b, evE_and, evE_or, evAnd_one, evOr_one, evAnd_two, evOr_two, evEs_nil, evEs_cons, evSs_nil, evSs_cons, evS_ex, evS_ret, ifB_t, ifB_f, evS_ife, evS_raise, evS_for, seq_t, seq_l, it_seq, ans_nx, ans_rt, ans_xc, forL_nil, forL_cons, ix_t0, ix_t1, ix_t2, ix_t3, o_add, o_sub, o_mul, o_fdiv, o_mod, o_neg, o_not, c_lt, c_le, c_gt, c_ge, c_eq, c_ne, c_eq2, c_ne2, c_eq3, c_ne3, c_is, c_isnot, isi_tt, isi_lt, isi_it, isi_ii, isi_ib, isi_ll, len_t1, len_t2, len_t3, len_t4, len_l, abs_i, tup_l, part_0, part_1, sl_l, call_0, call_1, call_2, call_3, call_4, call_5, call_6, call_7, glob_0, glob_1, glob_2, evE_v11, evE_v12, evE_v13, evE_v14, evE_v15, evE_v16, evE_v17, evE_v18, evE_v19, evE_v20, evS_set0, evS_setL0, evS_set1, evS_setL1, evS_set2, evS_setL2, evS_set3, evS_setL3, evS_set4, evS_setL4, evS_set5, evS_setL5, evS_set6, evS_setL6, evS_set7, evS_setL7, evS_set8, evS_setL8, evS_set9, evS_setL9, evS_set10, evS_setL10, evS_set11, evS_setL11, evS_set12, evS_setL12, evS_set13, evS_setL13, evS_set14, evS_setL14, evS_set15, evS_setL15, evS_set16, evS_setL16, evS_set17, evS_setL17, evS_set18, evS_setL18, evS_set19, evS_setL19, evS_set20, evS_setL20, evS_app0, evS_frz0, evS_frs0, evE_ixo0, evS_aug0, evS_app1, evS_frz1, evS_frs1, evE_ixo1, evS_aug1, evS_app2, evS_frz2, evS_frs2, evE_ixo2, evS_aug2, evS_app3, evS_frz3, evS_frs3, evE_ixo3, evS_aug3, evS_app4, evS_frz4, evS_frs4, evE_ixo4, evS_aug4, evS_app5, evS_frz5, evS_frs5, evE_ixo5, evS_aug5, evS_app6, evS_frz6, evS_frs6, evE_ixo6, evS_aug6, evS_app7, evS_frz7, evS_frs7, evE_ixo7, evS_aug7, evS_app8, evS_frz8, evS_frs8, evE_ixo8, evS_aug8, evS_app9, evS_frz9, evS_frs9, evE_ixo9, evS_aug9, evS_app10, evS_frz10, evS_frs10, evE_ixo10, evS_aug10, evS_app11, evS_frz11, evS_frs11, evE_ixo11, evS_aug11, evS_app12, evS_frz12, evS_frs12, evE_ixo12, evS_aug12, evS_app13, evS_frz13, evS_frs13, evE_ixo13, evS_aug13, evS_app14, evS_frz14, evS_frs14, evE_ixo14, evS_aug14, evS_app15, evS_frz15, evS_frs15, evE_ixo15, evS_aug15, evS_app16, evS_frz16, evS_frs16, evE_ixo16, evS_aug16, evS_pass, evE_ife, ifE_t, ifE_f, it_rng1, it_rng2, c_isnN, c_isnI, c_isN, c_isI, c_isnL, c_isnT, c_isL, c_isT, o_band, o_shr, len_t0, tup_t, call_8, call_9, call_10, call_11, call_12, rb_ok, rb_bad, rb_exc, ra_ok, ra_bad, ra_exc, ft_nx, ft_rt, ft_bad, ft_xc, List.set_cons_zero, List.set_cons_succ, List.nil_append, List.cons_append, Bool.not_true, Bool.not_false, decide_true, decide_false, eq_self, Int.reduceEq, Bool.false_or, Bool.or_false, Bool.true_or, Bool.or_true, Bool.true_and, Bool.and_true, Bool.false_and, Bool.and_false, Bool.or_self, Bool.and_self, o_mod hdI, decide_eq_false hne]
    rw [e]
    rfl
  have hc : ((d : Int) + 1) = ((d + 1 : Nat) : Int) := by omega
  unfold w2_primes_of
  unfold G_primes_of at hw ⊢
  simp (disch := first | exact mulOk_bd | assumption | omega) only [evE_v0, evE_v1, evE_v2, evE_v3, evE_v4, evE_v5, evE_v6, evE_v7, evE_v8, evE_v9, evE_v10, evE_int, evE_bl, evE_non, evE_str, evE_bin, evE_neg, evE_not, evE_cmp, evE_tup, evE_lst, evE_ix, evE_call, evE_bi, evE_sl, evE_isi, andB_t, andB_f, orB_t, orB_f, andB_b, orB_b, evE_and, evE_or, evAnd_one, evOr_one, evAnd_two, evOr_two, evEs_nil, evEs_cons, evSs_nil, evSs_cons, evS_ex, evS_ret, ifB_t, ifB_f, evS_ife, evS_raise, evS_for, seq_t, seq_l, it_seq, ans_nx, ans_rt, ans_xc, forL_nil, forL_cons, ix_t0, ix_t1, ix_t2, ix_t3, o_add, o_sub, o_mul, o_fdiv, o_mod, o_neg, o_not, c_lt, c_le, c_gt, c_ge, c_eq, c_ne, c_eq2, c_ne2, c_eq3, c_ne3, c_is, c_isnot, isi_tt, isi_lt, isi_it, isi_ii, isi_ib, isi_ll, len_t1, len_t2, len_t3, len_t4, len_l, abs_i, tup_l, part_0, part_1, sl_l, call_0, call_1, call_2, call_3, call_4, call_5, call_6, call_7, glob_0, glob_1, glob_2, evE_v11, evE_v12, evE_v13, evE_v14, evE_v15, evE_v16, evE_v17, evE_v18, evE_v19, evE_v20, evS_set0, evS_setL0, evS_set1, evS_setL1, evS_set2, evS_setL2, evS_set3, evS_setL3, evS_set4, evS_setL4, evS_set5, evS_setL5, evS_set6, evS_setL6, evS_set7, evS_setL7, evS_set8, evS_setL8, evS_set9, evS_setL9, evS_set10, evS_setL10, evS_set11, evS_setL11, evS_set12, evS_setL12, evS_set13, evS_setL13, evS_set14, evS_setL14, evS_set15, evS_setL15, evS_set16, evS_setL16, evS_set17, evS_setL17, evS_set18, evS_setL18, evS_set19, evS_setL19, evS_set20, evS_setL20, evS_app0, evS_frz0, evS_frs0, evE_ixo0, evS_aug0, evS_app1, evS_frz1, evS_frs1, evE_ixo1, evS_aug1, evS_app2, evS_frz2, evS_frs2, evE_ixo2, evS_aug2, evS_app3, evS_frz3, evS_frs3, evE_ixo3, evS_aug3, evS_app4, evS_frz4, evS_frs4, evE_ixo4, evS_aug4, evS_app5, evS_frz5, evS_frs5, evE_ixo5, evS_aug5, evS_app6, evS_frz6, evS_frs6, evE_ixo6, evS_aug6, evS_app7, evS_frz7, evS_frs7, evE_ixo7, evS_aug7, evS_app8, evS_frz8, evS_frs8, evE_ixo8, evS_aug8, evS_app9, evS_frz9, evS_frs9, evE_ixo9, evS_aug9, evS_app10, evS_frz10, evS_frs10, evE_ixo10, evS_aug10, evS_app11, evS_frz11, evS_frs11, evE_ixo11, evS_aug11, evS_app12, evS_frz12, evS_frs12, evE_ixo12, evS_aug12, evS_app13, evS_frz13, evS_frs13, evE_ixo13, evS_aug13, evS_app14, evS_frz14, evS_frs14, evE_ixo14, evS_aug14, evS_app15, evS_frz15, evS_frs15, evE_ixo15, evS_aug15, evS_app16, evS_frz16, evS_frs16, evE_ixo16, evS_aug16, evS_pass, evE_ife, ifE_t, ifE_f, it_rng1, it_rng2, c_isnN, c_isnI, c_isN, c_isI, c_isnL, c_isnT, c_isL, c_isT, o_band, o_shr, len_t0, tup_t, call_8, call_9, call_10, call_11, call_12, rb_ok, rb_bad, rb_exc, ra_ok, ra_bad, ra_exc, ft_nx, ft_rt, ft_bad, ft_xc, List.set_cons_zero, List.set_cons_succ, List.nil_append, List.cons_append, Bool.not_true, Bool.not_false, decide_true, decide_false, eq_self, Int.reduceEq, Bool.false_or, Bool.or_false, Bool.true_or, Bool.or_true, Bool.true_and, Bool.and_true, Bool.false_and, Bool.and_false, Bool.or_self, Bool.and_self, hw, show decide ((0 : Int) < 0) = false from rfl, hc]
theorem po_loop {p : Nat} (hp : Prm p) (hp2 : p ≤ 10000) : ∀ (n d : Nat) (x3 : Option Sl), 2 ≤ d → d ≤ p → p - d ≤ n → ∃ y2 y3, whileL poc pob [some (.sh (.int p)), some (.own []), some (.sh (.int d)), x3] = .nx [some (.sh (.int p)), some (.own []), y2, y3]
  | n, d, x3, h1, hdp, h2 => by
    have Bd1 := nat_bd (show d < 10001 by omega) (by decide)
    by_cases h : d * d ≤ p
    · have hlt : d < p := by
        have : 2 * d ≤ d * d := Nat.mul_le_mul_right _ h1
        omega
      have hnd : ¬ d ∣ p := fun t => by
        rcases hp.2 d t with q | q <;> omega
      match n, h2 with
      | 0, h2 => exact absurd h2 (by omega)
      | n + 1, h2 =>
        have e : poc [some (.sh (.int p)), some (.own []), some (.sh (.int d)), x3] = .ok (.bool true) := by
          show evE G_primes_of _ _ = _
          unfold G_primes_of
          have : ((d : Int) * (d : Int)) ≤ (p : Int) := by exact_mod_cast h
          simp (disch := first | exact mulOk_bd | assumption | omega) only [evE_v0, evE_v1, evE_v2, evE_v3, evE_v4, evE_v5, evE_v6, evE_v7, evE_v8, evE_v9, evE_v10, evE_int, evE_bl, evE_non, evE_str, evE_bin, evE_neg, evE_not, evE_cmp, evE_tup, evE_lst, evE_ix, evE_call, evE_bi, evE_sl, evE_isi, andB_t, andB_f, orB_t, orB_f, andB_b, orB_b, evE_and, evE_or, evAnd_one, evOr_one, evAnd_two, evOr_two, evEs_nil, evEs_cons, evSs_nil, evSs_cons, evS_ex, evS_ret, ifB_t, ifB_f, evS_ife, evS_raise, evS_for, seq_t, seq_l, it_seq, ans_nx, ans_rt, ans_xc, forL_nil, forL_cons, ix_t0, ix_t1, ix_t2, ix_t3, o_add, o_sub, o_mul, o_fdiv, o_mod, o_neg, o_not, c_lt, c_le, c_gt, c_ge, c_eq, c_ne, c_eq2, c_ne2, c_eq3, c_ne3, c_is, c_isnot, isi_tt, isi_lt, isi_it, isi_ii, isi_ib, isi_ll, len_t1, len_t2, len_t3, len_t4, len_l, abs_i, tup_l, part_0, part_1, sl_l, call_0, call_1, call_2, call_3, call_4, call_5, call_6, call_7, glob_0, glob_1, glob_2, evE_v11, evE_v12, evE_v13, evE_v14, evE_v15, evE_v16, evE_v17, evE_v18, evE_v19, evE_v20, evS_set0, evS_setL0, evS_set1, evS_setL1, evS_set2, evS_setL2, evS_set3, evS_setL3, evS_set4, evS_setL4, evS_set5, evS_setL5, evS_set6, evS_setL6, evS_set7, evS_setL7, evS_set8, evS_setL8, evS_set9, evS_setL9, evS_set10, evS_setL10, evS_set11, evS_setL11, evS_set12, evS_setL12, evS_set13, evS_setL13, evS_set14, evS_setL14, evS_set15, evS_setL15, evS_set16, evS_setL16, evS_set17, evS_setL17, evS_set18, evS_setL18, evS_set19, evS_setL19, evS_set20, evS_setL20, evS_app0, evS_frz0, evS_frs0, evE_ixo0, evS_aug0, evS_app1, evS_frz1, evS_frs1, evE_ixo1, evS_aug1, evS_app2, evS_frz2, evS_frs2, evE_ixo2, evS_aug2, evS_app3, evS_frz3, evS_frs3, evE_ixo3, evS_aug3, evS_app4, evS_frz4, evS_frs4, evE_ixo4, evS_aug4, evS_app5, evS_frz5, evS_frs5, evE_ixo5, evS_aug5, evS_app6, evS_frz6, evS_frs6, evE_ixo6, evS_aug6, evS_app7, evS_frz7, evS_frs7, evE_ixo7, evS_aug7, evS_app8, evS_frz8, evS_frs8, evE_ixo8, evS_aug8, evS_app9, evS_frz9, evS_frs9, evE_ixo9, evS_aug9, evS_app10, evS_frz10, evS_frs10, evE_ixo10, evS_aug10, evS_app11, evS_frz11, evS_frs11, evE_ixo11, evS_aug11, evS_app12, evS_frz12, evS_frs12, evE_ixo12, evS_aug12, evS_app13, evS_frz13, evS_frs13, evE_ixo13, evS_aug13, evS_app14, evS_frz14, evS_frs14, evE_ixo14, evS_aug14, evS_app15, evS_frz15, evS_frs15, evE_ixo15, evS_aug15, evS_app16, evS_frz16, evS_frs16, evE_ixo16, evS_aug16, evS_pass, evE_ife, ifE_t, ifE_f, it_rng1, it_rng2, c_isnN, c_isnI, c_isN, c_isI, c_isnL, c_isnT, c_isL, c_isT, o_band, o_shr, len_t0, tup_t, call_8, call_9, call_10, call_11, call_12, rb_ok, rb_bad, rb_exc, ra_ok, ra_bad, ra_exc, ft_nx, ft_rt, ft_bad, ft_xc, List.set_cons_zero, List.set_cons_succ, List.nil_append, List.cons_append, Bool.not_true, Bool.not_false, decide_true, decide_false, eq_self, Int.reduceEq, Bool.false_or, Bool.or_false, Bool.true_or, Bool.or_true, Bool.true_and, Bool.and_true, Bool.false_and, Bool.and_false, Bool.or_self, Bool.and_self, decide_eq_true this]
        rw [whileL_eq, e]
        show ∃ y2 y3, (evSs G_primes_of w2_primes_of _).then (whileL poc pob) = _
        rw [po_body h1 (by omega) hnd, ft_nx]
        exact po_loop hp hp2 n (d + 1) _ (by omega) (by omega) (by omega)
    · refine ⟨some (.sh (.int d)), x3, ?_⟩
      have e : poc [some (.sh (.int p)), some (.own []), some (.sh (.int d)), x3] = .ok (.bool false) := by
        show evE G_primes_of _ _ = _
        unfold G_primes_of
        have : ¬ ((d : Int) * (d : Int)) ≤ (p : Int) := by exact_mod_cast h
        simp (disch := first | exact mulOk_bd | assumption | omega) only [evE_v0, evE_v1, evE_v2, evE_v3, evE_v4, evE_v5, evE_v6, evE_v7, evE_v8, evE_v9, evE_v10, evE_int, evE_bl, evE_non, evE_str, evE_bin, evE_neg, evE_not, evE_cmp, evE_tup, evE_lst, evE_ix, evE_call, evE_bi, evE_sl, evE_isi, andB_t, andB_f, orB_t, orB_f, andB_b, orB_b, evE_and, evE_or, evAnd_one, evOr_one, evAnd_two, evOr_two, evEs_nil, evEs_cons, evSs_nil, evSs_cons, evS_ex, evS_ret, ifB_t, ifB_f, evS_ife, evS_raise, evS_for, seq_t, seq_l, it_seq, ans_nx, ans_rt, ans_xc, forL_nil, forL_cons, ix_t0, ix_t1, ix_t2, ix_t3, o_add, o_sub, o_mul, o_fdiv, o_mod, o_neg, o_not, c_lt, c_le, c_gt, c_ge, c_eq, c_ne, c_eq2, c_ne2, c_eq3, c_ne3, c_is, c_isnot, isi_tt, isi_lt, isi_it, isi_ii, isi_ib, isi_ll, len_t1, len_t2, len_t3, len_t4, len_l, abs_i, tup_l, part_0, part_1, sl_l, call_0, call_1, call_2, call_3, call_4, call_5, call_6, call_7, glob_0, glob_1, glob_2, evE_v11, evE_v12, evE_v13, evE_v14, evE_v15, evE_v16, evE_v17, evE_v18, evE_v19, evE_v20, evS_set0, evS_setL0, evS_set1, evS_setL1, evS_set2, evS_setL2, evS_set3, evS_setL3, evS_set4, evS_setL4, evS_set5, evS_setL5, evS_set6, evS_setL6, evS_set7, evS_setL7, evS_set8, evS_setL8, evS_set9, evS_setL9, evS_set10, evS_setL10, evS_set11, evS_setL11, evS_set12, evS_setL12, evS_set13, evS_setL13, evS_set14, evS_setL14, evS_set15, evS_setL15, evS_set16, evS_setL16, evS_set17, evS_setL17, evS_set18, evS_setL18, evS_set19, evS_setL19, evS_set20, evS_setL20, evS_app0, evS_frz0, evS_frs0, evE_ixo0, evS_aug0, evS_app1, evS_frz1, evS_frs1, evE_ixo1, evS_aug1, evS_app2, evS_frz2, evS_frs2, evE_ixo2, evS_aug2, evS_app3, evS_frz3, evS_frs3, evE_ixo3, evS_aug3, evS_app4, evS_frz4, evS_frs4, evE_ixo4, evS_aug4, evS_app5, evS_frz5, evS_frs5, evE_ixo5, evS_aug5, evS_app6, evS_frz6, evS_frs6, evE_ixo6, evS_aug6, evS_app7, evS_frz7, evS_frs7, evE_ixo7, evS_aug7, evS_app8, evS_frz8, evS_frs8, evE_ixo8, evS_aug8, evS_app9, evS_frz9, evS_frs9, evE_ixo9, evS_aug9, evS_app10, evS_frz10, evS_frs10, evE_ixo10, evS_aug10, evS_app11, evS_frz11, evS_frs11, evE_ixo11, evS_aug11, evS_app12, evS_frz12, evS_frs12, evE_ixo12, evS_aug12, evS_app13, evS_frz13, evS_frs13, evE_ixo13, evS_aug13, evS_app14, evS_frz14, evS_frs14, evE_ixo14, evS_aug14, evS_app15, evS_frz15, evS_frs15, evE_ixo15, evS_aug15, evS_app16, evS_frz16, evS_frs16, evE_ixo16, evS_aug16, evS_pass, evE_ife, ifE_t, ifE_f, it_rng1, it_rng2, c_isnN, c_isnI, c_isN, c_isI, c_isnL, c_isnT, c_isL, c_isT, o_band, o_shr, len_t0, tup_t, call_8, call_9, call_10, call_11, call_12, rb_ok, rb_bad, rb_exc, ra_ok, ra_bad, ra_exc, ft_nx, ft_rt, ft_bad, ft_xc, List.set_cons_zero, List.set_cons_succ, List.nil_append, List.cons_append, Bool.not_true, Bool.not_false, decide_true, decide_false, eq_self, Int.reduceEq, Bool.false_or, Bool.or_false, Bool.true_or, Bool.or_true, Bool.true_and, Bool.and_true, Bool.false_and, Bool.and_false, Bool.or_self, Bool.and_self, decide_eq_false this]
      rw [whileL_eq, e]
      rfl
theorem v_primes_of {p : Nat} (hp : Prm p) (hp2 : p ≤ 10000) : sem_primes_of [.int p] = .ok (.list [.tuple [.int p, .int 1]]) := by
  have hp1 := hp.1
  obtain ⟨y2, y3, h⟩ := po_loop hp hp2 p 2 none (by omega) hp1 (by omega)
  have hw2 : evS G_primes_of (.while_ (.cmp .le (.bin .mul (.v 2) (.v 2)) (.v 0)) w2_primes_of) [some (.sh (.int p)), some (.own []), some (.sh (.int 2)), none] = _ := evS_while.trans h
  show (evSs G_primes_of b_primes_of [some (.sh _), none, none, none]).ans = _
  unfold b_primes_of
  unfold G_primes_of at hw2 ⊢
  simp (disch := first | exact mulOk_bd | assumption | omega | with_unfolding_all exact Nat.le_of_ble_eq_true rfl) only [evE_v0, evE_v1, evE_v2, evE_v3, evE_v4, evE_v5, evE_v6, evE_v7, evE_v8, evE_v9, evE_v10, evE_int, evE_bl, evE_non, evE_str, evE_bin, evE_neg, evE_not, evE_cmp, evE_tup, evE_lst, evE_ix, evE_call, evE_bi, evE_sl, evE_isi, andB_t, andB_f, orB_t, orB_f, andB_b, orB_b, evE_and, evE_or, evAnd_one, evOr_one, evAnd_two, evOr_two, evEs_nil, evEs_cons, evSs_nil, evSs_cons, evS_ex, evS_ret, ifB_t, ifB_f, evS_ife, evS_raise, evS_for, seq_t, seq_l, it_seq, ans_nx, ans_rt, ans_xc, forL_nil, forL_cons, ix_t0, ix_t1, ix_t2, ix_t3, o_add, o_sub, o_mul, o_fdiv, o_mod, o_neg, o_not, c_lt, c_le, c_gt, c_ge, c_eq, c_ne, c_eq2, c_ne2, c_eq3, c_ne3, c_is, c_isnot, isi_tt, isi_lt, isi_it, isi_ii, isi_ib, isi_ll, len_t1, len_t2, len_t3, len_t4, len_l, abs_i, tup_l, part_0, part_1, sl_l, call_0, call_1, call_2, call_3, call_4, call_5, call_6, call_7, glob_0, glob_1, glob_2, evE_v11, evE_v12, evE_v13, evE_v14, evE_v15, evE_v16, evE_v17, evE_v18, evE_v19, evE_v20, evS_set0, evS_setL0, evS_set1, evS_setL1, evS_set2, evS_setL2, evS_set3, evS_setL3, evS_set4, evS_setL4, evS_set5, evS_setL5, evS_set6, evS_setL6, evS_set7, evS_setL7, evS_set8, evS_setL8, evS_set9, evS_setL9, evS_set10, evS_setL10, evS_set11, evS_setL11, evS_set12, evS_setL12, evS_set13, evS_setL13, evS_set14, evS_setL14, evS_set15, evS_setL15, evS_set16, evS_setL16, evS_set17, evS_setL17, evS_set18, evS_setL18, evS_set19, evS_setL19, evS_set20, evS_setL20, evS_app0, evS_frz0, evS_frs0, evE_ixo0, evS_aug0, evS_app1, evS_frz1, evS_frs1, evE_ixo1, evS_aug1, evS_app2, evS_frz2, evS_frs2, evE_ixo2, evS_aug2, evS_app3, evS_frz3, evS_frs3, evE_ixo3, evS_aug3, evS_app4, evS_frz4, evS_frs4, evE_ixo4, evS_aug4, evS_app5, evS_frz5, evS_frs5, evE_ixo5, evS_aug5, evS_app6, evS_frz6, evS_frs6, evE_ixo6, evS_aug6, evS_app7, evS_frz7, evS_frs7, evE_ixo7, evS_aug7, evS_app8, evS_frz8, evS_frs8, evE_ixo8, evS_aug8, evS_app9, evS_frz9, evS_frs9, evE_ixo9, evS_aug9, evS_app10, evS_frz10, evS_frs10, evE_ixo10, evS_aug10, evS_app11, evS_frz11, evS_frs11, evE_ixo11, evS_aug11, evS_app12, evS_frz12, evS_frs12, evE_ixo12, evS_aug12, evS_app13, evS_frz13, evS_frs13, evE_ixo13, evS_aug13, evS_app14, evS_frz14, evS_frs14, evE_ixo14, evS_aug14, evS_app15, evS_frz15, evS_frs15, evE_ixo15, evS_aug15, evS_app16, evS_frz16, evS_frs16, evE_ixo16, evS_aug16, evS_pass, evE_ife, ifE_t, ifE_f, it_rng1, it_rng2, c_isnN, c_isnI, c_isN, c_isI, c_isnL, c_isnT, c_isL, c_isT, o_band, o_shr, len_t0, tup_t, call_8, call_9, call_10, call_11, call_12, rb_ok, rb_bad, rb_exc, ra_ok, ra_bad, ra_exc, ft_nx, ft_rt, ft_bad, ft_xc, List.set_cons_zero, List.set_cons_succ, List.nil_append, List.cons_append, Bool.not_true, Bool.not_false, decide_true, decide_false, eq_self, Int.reduceEq, Bool.false_or, Bool.or_false, Bool.true_or, Bool.or_true, Bool.true_and, Bool.and_true, Bool.false_and, Bool.and_false, Bool.or_self, Bool.and_self, v_is_whole (p : Int), decide_eq_false (show ¬ (p : Int) < 1 by omega), decide_eq_false (show ¬ (1000000 : Int) < (p : Int) by omega), hw2, decide_eq_true (show (1 : Int) < (p : Int) by omega)]
theorem v_asked_prime {p : Nat} (hp : Prm p) (h3 : 3 ≤ p) (hp2 : p ≤ 10000) (z : Int) (hz : z % (p : Int) ≠ 0) : sem_asked_prime [.int z, .int p] = .ok (.int p) := by
  have v := v_primes_of hp hp2
  have q : PyData.eqv (.list [.tuple [.int (p : Int), .int 1]]) (.list [.tuple [.int (p : Int), .int 1]]) = true := by
    show (PyData.eqv (.tuple [.int (p : Int), .int 1]) (.tuple [.int (p : Int), .int 1]) && true) = true
    rw [eqv_2, decide_eq_true rfl, decide_eq_true rfl]
    rfl
  have ne : cm2 .ne (.list [.tuple [.int p, .int 1]]) (.list [.tuple [.int p, .int 1]]) = .ok (.bool false) := by
    have : cm2 .ne (.list [.tuple [.int p, .int 1]]) (.list [.tuple [.int p, .int 1]]) = .ok (.bool (!PyData.eqv (.list [.tuple [.int (p : Int), .int 1]]) (.list [.tuple [.int (p : Int), .int 1]]))) := rfl
    rw [this, q]
    rfl
  show (evSs G_asked_prime b_asked_prime [some (.sh _), some (.sh _)]).ans = _
  unfold b_asked_prime G_asked_prime
  simp (disch := first | exact mulOk_bd | assumption | omega) only [evE_v0, evE_v1, evE_v2, evE_v3, evE_v4, evE_v5, evE_v6, evE_v7, evE_v8, evE_v9, evE_v10, evE_int, evE_bl, evE_non, evE_str, evE_bin, evE_neg, evE_not, evE_cmp, evE_tup, evE_lst, evE_ix, evE_call, evE_bi, evE_sl, evE_isi, andB_t, andB_f, orB_t, orB_f, andB_b, orB_b, evE_and, evE_or, evAnd_one, evOr_one, evAnd_two, evOr_two, evEs_nil, evEs_cons, evSs_nil, evSs_cons, evS_ex, evS_ret, ifB_t, ifB_f, evS_ife, evS_raise, evS_for, seq_t, seq_l, it_seq, ans_nx, ans_rt, ans_xc, forL_nil, forL_cons, ix_t0, ix_t1, ix_t2, ix_t3, o_add, o_sub, o_mul, o_fdiv, o_mod, o_neg, o_not, c_lt, c_le, c_gt, c_ge, c_eq, c_ne, c_eq2, c_ne2, c_eq3, c_ne3, c_is, c_isnot, isi_tt, isi_lt, isi_it, isi_ii, isi_ib, isi_ll, len_t1, len_t2, len_t3, len_t4, len_l, abs_i, tup_l, part_0, part_1, sl_l, call_0, call_1, call_2, call_3, call_4, call_5, call_6, call_7, glob_0, glob_1, glob_2, evE_v11, evE_v12, evE_v13, evE_v14, evE_v15, evE_v16, evE_v17, evE_v18, evE_v19, evE_v20, evS_set0, evS_setL0, evS_set1, evS_setL1, evS_set2, evS_setL2, evS_set3, evS_setL3, evS_set4, evS_setL4, evS_set5, evS_setL5, evS_set6, evS_setL6, evS_set7, evS_setL7, evS_set8, evS_setL8, evS_set9, evS_setL9, evS_set10, evS_setL10, evS_set11, evS_setL11, evS_set12, evS_setL12, evS_set13, evS_setL13, evS_set14, evS_setL14, evS_set15, evS_setL15, evS_set16, evS_setL16, evS_set17, evS_setL17, evS_set18, evS_setL18, evS_set19, evS_setL19, evS_set20, evS_setL20, evS_app0, evS_frz0, evS_frs0, evE_ixo0, evS_aug0, evS_app1, evS_frz1, evS_frs1, evE_ixo1, evS_aug1, evS_app2, evS_frz2, evS_frs2, evE_ixo2, evS_aug2, evS_app3, evS_frz3, evS_frs3, evE_ixo3, evS_aug3, evS_app4, evS_frz4, evS_frs4, evE_ixo4, evS_aug4, evS_app5, evS_frz5, evS_frs5, evE_ixo5, evS_aug5, evS_app6, evS_frz6, evS_frs6, evE_ixo6, evS_aug6, evS_app7, evS_frz7, evS_frs7, evE_ixo7, evS_aug7, evS_app8, evS_frz8, evS_frs8, evE_ixo8, evS_aug8, evS_app9, evS_frz9, evS_frs9, evE_ixo9, evS_aug9, evS_app10, evS_frz10, evS_frs10, evE_ixo10, evS_aug10, evS_app11, evS_frz11, evS_frs11, evE_ixo11, evS_aug11, evS_app12, evS_frz12, evS_frs12, evE_ixo12, evS_aug12, evS_app13, evS_frz13, evS_frs13, evE_ixo13, evS_aug13, evS_app14, evS_frz14, evS_frs14, evE_ixo14, evS_aug14, evS_app15, evS_frz15, evS_frs15, evE_ixo15, evS_aug15, evS_app16, evS_frz16, evS_frs16, evE_ixo16, evS_aug16, evS_pass, evE_ife, ifE_t, ifE_f, it_rng1, it_rng2, c_isnN, c_isnI, c_isN, c_isI, c_isnL, c_isnT, c_isL, c_isT, o_band, o_shr, len_t0, tup_t, call_8, call_9, call_10, call_11, call_12, rb_ok, rb_bad, rb_exc, ra_ok, ra_bad, ra_exc, ft_nx, ft_rt, ft_bad, ft_xc, List.set_cons_zero, List.set_cons_succ, List.nil_append, List.cons_append, Bool.not_true, Bool.not_false, decide_true, decide_false, eq_self, Int.reduceEq, Bool.false_or, Bool.or_false, Bool.true_or, Bool.or_true, Bool.true_and, Bool.and_true, Bool.false_and, Bool.and_false, Bool.or_self, Bool.and_self, v_is_whole (p : Int), decide_eq_false (show ¬ (p : Int) < 3 by omega), decide_eq_false (show ¬ (10000 : Int) < (p : Int) by omega), v, ne, o_mod (show (0 : Int) < (p : Int) by omega), decide_eq_false hz]
/-! ### a root by a prime -/
theorem v_root_by {p : Nat} (h3 : 3 ≤ p) (hp2 : p ≤ 10000) (z : Int) {n : Nat} (Bz : Bd n z) (hn : n ≤ 8000) {b0 : Nat} (hb0 : b0 < 2 * p) (hr : ((b0 : Int) * b0 - z) % (4 * (p : Int)) = 0) : ∃ b : Nat, sem_root_by [.int z, .int p] = .ok (.int b) ∧ b < 2 * p ∧ ((b : Int) * b - z) % (4 * (p : Int)) = 0 := by
  have loop : ∀ (ks : List Nat) (y : Option Sl), (∀ k ∈ ks, k < 2 * p) → b0 ∈ ks → ∃ b : Nat, forL (fun d ρ => evSs G_root_by w1_root_by (ρ.set 2 (some (.sh d)))) (ks.map fun (k : Nat) => PyData.int (k : Int)) [some (.sh (.int z)), some (.sh (.int p)), y] = .rt (.int b) ∧ b < 2 * p ∧ ((b : Int) * b - z) % (4 * (p : Int)) = 0 := by
    intro ks
    induction ks with
    | nil => intro y _ h; exact absurd h (by simp)
    | cons k ks ih =>
      intro y hk hm
      have lk := hk k List.mem_cons_self
      have Bk : Bd 15 (k : Int) := ⟨by
        have : (2 : Nat) ^ 15 = 32768 := by decide
        omega⟩
      rw [List.map_cons, forL_cons]
      by_cases t : ((k : Int) * k - z) % (4 * (p : Int)) = 0
      · have e : evSs G_root_by w1_root_by [some (.sh (.int z)), some (.sh (.int p)), some (.sh (.int k))] = .rt (.int k) := by
          unfold G_root_by w1_root_by
          have Bp : Bd 15 (p : Int) := ⟨by
            have : (2 : Nat) ^ 15 = 32768 := by decide
            omega⟩
          simp (disch := first | exact mulOk_bd | assumption | omega) only [evE_v0, evE_v1, evE_v2, evE_v3, evE_v4, evE_v5, evE_v6, evE_v7, evE_v8, evE_v9, evE_v10, evE_int, evE_bl, evE_non, evE_str, evE_bin, evE_neg, evE_not, evE_cmp, evE_tup, evE_lst, evE_ix, evE_call, evE_bi, evE_sl, evE_isi, andB_t, andB_f, orB_t, orB_f, andB_b, orB_b, evE_and, evE_or, evAnd_one, evOr_one, evAnd_two, evOr_two, evEs_nil, evEs_cons, evSs_nil, evSs_cons, evS_ex, evS_ret, ifB_t, ifB_f, evS_ife, evS_raise, evS_for, seq_t, seq_l, it_seq, ans_nx, ans_rt, ans_xc, forL_nil, forL_cons, ix_t0, ix_t1, ix_t2, ix_t3, o_add, o_sub, o_mul, o_fdiv, o_mod, o_neg, o_not, c_lt, c_le, c_gt, c_ge, c_eq, c_ne, c_eq2, c_ne2, c_eq3, c_ne3, c_is, c_isnot, isi_tt, isi_lt, isi_it, isi_ii, isi_ib, isi_ll, len_t1, len_t2, len_t3, len_t4, len_l, abs_i, tup_l, part_0, part_1, sl_l, call_0, call_1, call_2, call_3, call_4, call_5, call_6, call_7, glob_0, glob_1, glob_2, evE_v11, evE_v12, evE_v13, evE_v14, evE_v15, evE_v16, evE_v17, evE_v18, evE_v19, evE_v20, evS_set0, evS_setL0, evS_set1, evS_setL1, evS_set2, evS_setL2, evS_set3, evS_setL3, evS_set4, evS_setL4, evS_set5, evS_setL5, evS_set6, evS_setL6, evS_set7, evS_setL7, evS_set8, evS_setL8, evS_set9, evS_setL9, evS_set10, evS_setL10, evS_set11, evS_setL11, evS_set12, evS_setL12, evS_set13, evS_setL13, evS_set14, evS_setL14, evS_set15, evS_setL15, evS_set16, evS_setL16, evS_set17, evS_setL17, evS_set18, evS_setL18, evS_set19, evS_setL19, evS_set20, evS_setL20, evS_app0, evS_frz0, evS_frs0, evE_ixo0, evS_aug0, evS_app1, evS_frz1, evS_frs1, evE_ixo1, evS_aug1, evS_app2, evS_frz2, evS_frs2, evE_ixo2, evS_aug2, evS_app3, evS_frz3, evS_frs3, evE_ixo3, evS_aug3, evS_app4, evS_frz4, evS_frs4, evE_ixo4, evS_aug4, evS_app5, evS_frz5, evS_frs5, evE_ixo5, evS_aug5, evS_app6, evS_frz6, evS_frs6, evE_ixo6, evS_aug6, evS_app7, evS_frz7, evS_frs7, evE_ixo7, evS_aug7, evS_app8, evS_frz8, evS_frs8, evE_ixo8, evS_aug8, evS_app9, evS_frz9, evS_frs9, evE_ixo9, evS_aug9, evS_app10, evS_frz10, evS_frs10, evE_ixo10, evS_aug10, evS_app11, evS_frz11, evS_frs11, evE_ixo11, evS_aug11, evS_app12, evS_frz12, evS_frs12, evE_ixo12, evS_aug12, evS_app13, evS_frz13, evS_frs13, evE_ixo13, evS_aug13, evS_app14, evS_frz14, evS_frs14, evE_ixo14, evS_aug14, evS_app15, evS_frz15, evS_frs15, evE_ixo15, evS_aug15, evS_app16, evS_frz16, evS_frs16, evE_ixo16, evS_aug16, evS_pass, evE_ife, ifE_t, ifE_f, it_rng1, it_rng2, c_isnN, c_isnI, c_isN, c_isI, c_isnL, c_isnT, c_isL, c_isT, o_band, o_shr, len_t0, tup_t, call_8, call_9, call_10, call_11, call_12, rb_ok, rb_bad, rb_exc, ra_ok, ra_bad, ra_exc, ft_nx, ft_rt, ft_bad, ft_xc, List.set_cons_zero, List.set_cons_succ, List.nil_append, List.cons_append, Bool.not_true, Bool.not_false, decide_true, decide_false, eq_self, Int.reduceEq, Bool.false_or, Bool.or_false, Bool.true_or, Bool.or_true, Bool.true_and, Bool.and_true, Bool.false_and, Bool.and_false, Bool.or_self, Bool.and_self, o_mod (show (0 : Int) < 4 * (p : Int) by omega), decide_eq_true t]
        refine ⟨k, ?_, lk, t⟩
        show (evSs G_root_by w1_root_by [some (.sh (.int z)), some (.sh (.int p)), some (.sh (.int k))]).then _ = _
        rw [e]
        rfl
      · have e : evSs G_root_by w1_root_by [some (.sh (.int z)), some (.sh (.int p)), some (.sh (.int k))] = .nx [some (.sh (.int z)), some (.sh (.int p)), some (.sh (.int k))] := by
          unfold G_root_by w1_root_by
          have Bp : Bd 15 (p : Int) := ⟨by
            have : (2 : Nat) ^ 15 = 32768 := by decide
            omega⟩
          simp (disch := first | exact mulOk_bd | assumption | omega) only [evE_v0, evE_v1, evE_v2, evE_v3, evE_v4, evE_v5, evE_v6, evE_v7, evE_v8, evE_v9, evE_v10, evE_int, evE_bl, evE_non, evE_str, evE_bin, evE_neg, evE_not, evE_cmp, evE_tup, evE_lst, evE_ix, evE_call, evE_bi, evE_sl, evE_isi, andB_t, andB_f, orB_t, orB_f, andB_b, orB_b, evE_and, evE_or, evAnd_one, evOr_one, evAnd_two, evOr_two, evEs_nil, evEs_cons, evSs_nil, evSs_cons, evS_ex, evS_ret, ifB_t, ifB_f, evS_ife, evS_raise, evS_for, seq_t, seq_l, it_seq, ans_nx, ans_rt, ans_xc, forL_nil, forL_cons, ix_t0, ix_t1, ix_t2, ix_t3, o_add, o_sub, o_mul, o_fdiv, o_mod, o_neg, o_not, c_lt, c_le, c_gt, c_ge, c_eq, c_ne, c_eq2, c_ne2, c_eq3, c_ne3, c_is, c_isnot, isi_tt, isi_lt, isi_it, isi_ii, isi_ib, isi_ll, len_t1, len_t2, len_t3, len_t4, len_l, abs_i, tup_l, part_0, part_1, sl_l, call_0, call_1, call_2, call_3, call_4, call_5, call_6, call_7, glob_0, glob_1, glob_2, evE_v11, evE_v12, evE_v13, evE_v14, evE_v15, evE_v16, evE_v17, evE_v18, evE_v19, evE_v20, evS_set0, evS_setL0, evS_set1, evS_setL1, evS_set2, evS_setL2, evS_set3, evS_setL3, evS_set4, evS_setL4, evS_set5, evS_setL5, evS_set6, evS_setL6, evS_set7, evS_setL7, evS_set8, evS_setL8, evS_set9, evS_setL9, evS_set10, evS_setL10, evS_set11, evS_setL11, evS_set12, evS_setL12, evS_set13, evS_setL13, evS_set14, evS_setL14, evS_set15, evS_setL15, evS_set16, evS_setL16, evS_set17, evS_setL17, evS_set18, evS_setL18, evS_set19, evS_setL19, evS_set20, evS_setL20, evS_app0, evS_frz0, evS_frs0, evE_ixo0, evS_aug0, evS_app1, evS_frz1, evS_frs1, evE_ixo1, evS_aug1, evS_app2, evS_frz2, evS_frs2, evE_ixo2, evS_aug2, evS_app3, evS_frz3, evS_frs3, evE_ixo3, evS_aug3, evS_app4, evS_frz4, evS_frs4, evE_ixo4, evS_aug4, evS_app5, evS_frz5, evS_frs5, evE_ixo5, evS_aug5, evS_app6, evS_frz6, evS_frs6, evE_ixo6, evS_aug6, evS_app7, evS_frz7, evS_frs7, evE_ixo7, evS_aug7, evS_app8, evS_frz8, evS_frs8, evE_ixo8, evS_aug8, evS_app9, evS_frz9, evS_frs9, evE_ixo9, evS_aug9, evS_app10, evS_frz10, evS_frs10, evE_ixo10, evS_aug10, evS_app11, evS_frz11, evS_frs11, evE_ixo11, evS_aug11, evS_app12, evS_frz12, evS_frs12, evE_ixo12, evS_aug12, evS_app13, evS_frz13, evS_frs13, evE_ixo13, evS_aug13, evS_app14, evS_frz14, evS_frs14, evE_ixo14, evS_aug14, evS_app15, evS_frz15, evS_frs15, evE_ixo15, evS_aug15, evS_app16, evS_frz16, evS_frs16, evE_ixo16, evS_aug16, evS_pass, evE_ife, ifE_t, ifE_f, it_rng1, it_rng2, c_isnN, c_isnI, c_isN, c_isI, c_isnL, c_isnT, c_isL, c_isT, o_band, o_shr, len_t0, tup_t, call_8, call_9, call_10, call_11, call_12, rb_ok, rb_bad, rb_exc, ra_ok, ra_bad, ra_exc, ft_nx, ft_rt, ft_bad, ft_xc, List.set_cons_zero, List.set_cons_succ, List.nil_append, List.cons_append, Bool.not_true, Bool.not_false, decide_true, decide_false, eq_self, Int.reduceEq, Bool.false_or, Bool.or_false, Bool.true_or, Bool.or_true, Bool.true_and, Bool.and_true, Bool.false_and, Bool.and_false, Bool.or_self, Bool.and_self, o_mod (show (0 : Int) < 4 * (p : Int) by omega), decide_eq_false t]
        have hm' : b0 ∈ ks := by
          rcases List.mem_cons.mp hm with q | q
          · subst q
            exact absurd hr t
          · exact q
        obtain ⟨b, x1, x2, x3⟩ := ih (some (.sh (.int k))) (fun k' h => hk k' (List.mem_cons_of_mem _ h)) hm'
        refine ⟨b, ?_, x2, x3⟩
        show (evSs G_root_by w1_root_by [some (.sh (.int z)), some (.sh (.int p)), some (.sh (.int k))]).then _ = _
        rw [e]
        exact x1
  have rg := rngD_ok (j := 2 * (p : Int)) (by omega) (by omega)
  have tn : (2 * (p : Int)).toNat = 2 * p := by omega
  rw [tn] at rg
  obtain ⟨b, x1, x2, x3⟩ := loop (List.range (2 * p)) none (fun k hk => List.mem_range.mp hk) (List.mem_range.mpr hb0)
  refine ⟨b, ?_, x2, x3⟩
  have Bp : Bd 15 (p : Int) := ⟨by
    have : (2 : Nat) ^ 15 = 32768 := by decide
    omega⟩
  show (evSs G_root_by b_root_by [some (.sh _), some (.sh _), none]).ans = _
  unfold b_root_by
  unfold G_root_by at x1 ⊢
  simp (disch := first | exact mulOk_bd | assumption | omega) only [evE_v0, evE_v1, evE_v2, evE_v3, evE_v4, evE_v5, evE_v6, evE_v7, evE_v8, evE_v9, evE_v10, evE_int, evE_bl, evE_non, evE_str, evE_bin, evE_neg, evE_not, evE_cmp, evE_tup, evE_lst, evE_ix, evE_call, evE_bi, evE_sl, evE_isi, andB_t, andB_f, orB_t, orB_f, andB_b, orB_b, evE_and, evE_or, evAnd_one, evOr_one, evAnd_two, evOr_two, evEs_nil, evEs_cons, evSs_nil, evSs_cons, evS_ex, evS_ret, ifB_t, ifB_f, evS_ife, evS_raise, evS_for, seq_t, seq_l, it_seq, ans_nx, ans_rt, ans_xc, forL_nil, forL_cons, ix_t0, ix_t1, ix_t2, ix_t3, o_add, o_sub, o_mul, o_fdiv, o_mod, o_neg, o_not, c_lt, c_le, c_gt, c_ge, c_eq, c_ne, c_eq2, c_ne2, c_eq3, c_ne3, c_is, c_isnot, isi_tt, isi_lt, isi_it, isi_ii, isi_ib, isi_ll, len_t1, len_t2, len_t3, len_t4, len_l, abs_i, tup_l, part_0, part_1, sl_l, call_0, call_1, call_2, call_3, call_4, call_5, call_6, call_7, glob_0, glob_1, glob_2, evE_v11, evE_v12, evE_v13, evE_v14, evE_v15, evE_v16, evE_v17, evE_v18, evE_v19, evE_v20, evS_set0, evS_setL0, evS_set1, evS_setL1, evS_set2, evS_setL2, evS_set3, evS_setL3, evS_set4, evS_setL4, evS_set5, evS_setL5, evS_set6, evS_setL6, evS_set7, evS_setL7, evS_set8, evS_setL8, evS_set9, evS_setL9, evS_set10, evS_setL10, evS_set11, evS_setL11, evS_set12, evS_setL12, evS_set13, evS_setL13, evS_set14, evS_setL14, evS_set15, evS_setL15, evS_set16, evS_setL16, evS_set17, evS_setL17, evS_set18, evS_setL18, evS_set19, evS_setL19, evS_set20, evS_setL20, evS_app0, evS_frz0, evS_frs0, evE_ixo0, evS_aug0, evS_app1, evS_frz1, evS_frs1, evE_ixo1, evS_aug1, evS_app2, evS_frz2, evS_frs2, evE_ixo2, evS_aug2, evS_app3, evS_frz3, evS_frs3, evE_ixo3, evS_aug3, evS_app4, evS_frz4, evS_frs4, evE_ixo4, evS_aug4, evS_app5, evS_frz5, evS_frs5, evE_ixo5, evS_aug5, evS_app6, evS_frz6, evS_frs6, evE_ixo6, evS_aug6, evS_app7, evS_frz7, evS_frs7, evE_ixo7, evS_aug7, evS_app8, evS_frz8, evS_frs8, evE_ixo8, evS_aug8, evS_app9, evS_frz9, evS_frs9, evE_ixo9, evS_aug9, evS_app10, evS_frz10, evS_frs10, evE_ixo10, evS_aug10, evS_app11, evS_frz11, evS_frs11, evE_ixo11, evS_aug11, evS_app12, evS_frz12, evS_frs12, evE_ixo12, evS_aug12, evS_app13, evS_frz13, evS_frs13, evE_ixo13, evS_aug13, evS_app14, evS_frz14, evS_frs14, evE_ixo14, evS_aug14, evS_app15, evS_frz15, evS_frs15, evE_ixo15, evS_aug15, evS_app16, evS_frz16, evS_frs16, evE_ixo16, evS_aug16, evS_pass, evE_ife, ifE_t, ifE_f, it_rng1, it_rng2, c_isnN, c_isnI, c_isN, c_isI, c_isnL, c_isnT, c_isL, c_isT, o_band, o_shr, len_t0, tup_t, call_8, call_9, call_10, call_11, call_12, rb_ok, rb_bad, rb_exc, ra_ok, ra_bad, ra_exc, ft_nx, ft_rt, ft_bad, ft_xc, List.set_cons_zero, List.set_cons_succ, List.nil_append, List.cons_append, Bool.not_true, Bool.not_false, decide_true, decide_false, eq_self, Int.reduceEq, Bool.false_or, Bool.or_false, Bool.true_or, Bool.or_true, Bool.true_and, Bool.and_true, Bool.false_and, Bool.and_false, Bool.or_self, Bool.and_self, rg, x1]
end FT

namespace FT
open PySem PySem.Spec PyProof.Rows L2
noncomputable abbrev pfc : En → R D := fun ρ => evE G__law_prime_from (.and (.cmp .le (.bin .mul (.v 2) (.v 2)) (.v 0)) [.cmp .ne (.bin .mod (.v 0) (.v 2)) (.int 0)]) ρ
noncomputable abbrev pfb : En → Fl := fun ρ => evSs G__law_prime_from w1__law_prime_from ρ
theorem modz {n q : Nat} : ((n : Int) % (q : Int) = 0) ↔ n % q = 0 := by
  rw [← Int.natCast_emod]
  omega
theorem pf_inner {n : Nat} (hn : n ≤ 10000) {d1 : D} : ∀ (m q : Nat), n - q ≤ m → 3 ≤ q → q ≤ n + 3 → q % 2 = 1 → (∀ d, 3 ≤ d → d < q → d % 2 = 1 → n % d ≠ 0) →
    ∃ r : Nat, whileL pfc pfb [some (.sh (.int n)), some (.sh d1), some (.sh (.int q))] = .nx [some (.sh (.int n)), some (.sh d1), some (.sh (.int r))] ∧ 3 ≤ r ∧ r ≤ n + 3 ∧ ((n < r * r ∧ ∀ d, 3 ≤ d → d < r → d % 2 = 1 → n % d ≠ 0) ∨ (r * r ≤ n ∧ n % r = 0))
  | m, q, hm, h3, hq, ho, hd => by
    have Bq : Bd 15 (q : Int) := ⟨by
      have : (2 : Nat) ^ 15 = 32768 := by decide
      omega⟩
    have hqI : (0 : Int) < (q : Int) := by omega
    by_cases h : q * q ≤ n
    · have hI : ((q : Int) * (q : Int)) ≤ (n : Int) := by exact_mod_cast h
      by_cases h0 : n % q = 0
      · refine ⟨q, ?_, h3, hq, .inr ⟨h, h0⟩⟩
        have e : pfc [some (.sh (.int n)), some (.sh d1), some (.sh (.int q))] = .ok (.bool false) := by
          show evE G__law_prime_from _ _ = _
          unfold G__law_prime_from
          simp (disch := first | exact mulOk_bd | assumption | omega) only [evE_v0, evE_v1, evE_v2, evE_v3, evE_v4, evE_v5, evE_v6, evE_v7, evE_v8, evE_v9, evE_v10, evE_int, evE_bl, evE_non, evE_str, evE_bin, evE_neg, evE_not, evE_cmp, evE_tup, evE_lst, evE_ix, evE_call, evE_bi, evE_sl, evE_isi, andB_t, andB_f, orB_t, orB_f, andB_b, orB_b, evE_and, evE_or, evAnd_one, evOr_one, evAnd_two, evOr_two, evEs_nil, evEs_cons, evSs_nil, evSs_cons, evS_ex, evS_ret, ifB_t, ifB_f, evS_ife, evS_raise, evS_for, seq_t, seq_l, it_seq, ans_nx, ans_rt, ans_xc, forL_nil, forL_cons, ix_t0, ix_t1, ix_t2, ix_t3, o_add, o_sub, o_mul, o_fdiv, o_mod, o_neg, o_not, c_lt, c_le, c_gt, c_ge, c_eq, c_ne, c_eq2, c_ne2, c_eq3, c_ne3, c_is, c_isnot, isi_tt, isi_lt, isi_it, isi_ii, isi_ib, isi_ll, len_t1, len_t2, len_t3, len_t4, len_l, abs_i, tup_l, part_0, part_1, sl_l, call_0, call_1, call_2, call_3, call_4, call_5, call_6, call_7, glob_0, glob_1, glob_2, evE_v11, evE_v12, evE_v13, evE_v14, evE_v15, evE_v16, evE_v17, evE_v18, evE_v19, evE_v20, evS_set0, evS_setL0, evS_set1, evS_setL1, evS_set2, evS_setL2, evS_set3, evS_setL3, evS_set4, evS_setL4, evS_set5, evS_setL5, evS_set6, evS_setL6, evS_set7, evS_setL7, evS_set8, evS_setL8, evS_set9, evS_setL9, evS_set10, evS_setL10, evS_set11, evS_setL11, evS_set12, evS_setL12, evS_set13, evS_setL13, evS_set14, evS_setL14, evS_set15, evS_setL15, evS_set16, evS_setL16, evS_set17, evS_setL17, evS_set18, evS_setL18, evS_set19, evS_setL19, evS_set20, evS_setL20, evS_app0, evS_frz0, evS_frs0, evE_ixo0, evS_aug0, evS_app1, evS_frz1, evS_frs1, evE_ixo1, evS_aug1, evS_app2, evS_frz2, evS_frs2, evE_ixo2, evS_aug2, evS_app3, evS_frz3, evS_frs3, evE_ixo3, evS_aug3, evS_app4, evS_frz4, evS_frs4, evE_ixo4, evS_aug4, evS_app5, evS_frz5, evS_frs5, evE_ixo5, evS_aug5, evS_app6, evS_frz6, evS_frs6, evE_ixo6, evS_aug6, evS_app7, evS_frz7, evS_frs7, evE_ixo7, evS_aug7, evS_app8, evS_frz8, evS_frs8, evE_ixo8, evS_aug8, evS_app9, evS_frz9, evS_frs9, evE_ixo9, evS_aug9, evS_app10, evS_frz10, evS_frs10, evE_ixo10, evS_aug10, evS_app11, evS_frz11, evS_frs11, evE_ixo11, evS_aug11, evS_app12, evS_frz12, evS_frs12, evE_ixo12, evS_aug12, evS_app13, evS_frz13, evS_frs13, evE_ixo13, evS_aug13, evS_app14, evS_frz14, evS_frs14, evE_ixo14, evS_aug14, evS_app15, evS_frz15, evS_frs15, evE_ixo15, evS_aug15, evS_app16, evS_frz16, evS_frs16, evE_ixo16, evS_aug16, evS_pass, evE_ife, ifE_t, ifE_f, it_rng1, it_rng2, c_isnN, c_isnI, c_isN, c_isI, c_isnL, c_isnT, c_isL, c_isT, o_band, o_shr, len_t0, tup_t, call_8, call_9, call_10, call_11, call_12, rb_ok, rb_bad, rb_exc, ra_ok, ra_bad, ra_exc, ft_nx, ft_rt, ft_bad, ft_xc, List.set_cons_zero, List.set_cons_succ, List.nil_append, List.cons_append, Bool.not_true, Bool.not_false, decide_true, decide_false, eq_self, Int.reduceEq, Bool.false_or, Bool.or_false, Bool.true_or, Bool.or_true, Bool.true_and, Bool.and_true, Bool.false_and, Bool.and_false, Bool.or_self, Bool.and_self, decide_eq_true hI, o_mod hqI, decide_eq_true (modz.mpr h0)]
        rw [whileL_eq, e]
        rfl
      · have hlt : q < n := by
          have : 3 * q ≤ q * q := Nat.mul_le_mul_right _ h3
          omega
        match m, hm with
        | 0, hm => exact absurd hm (by omega)
        | m + 1, hm =>
          have e : pfc [some (.sh (.int n)), some (.sh d1), some (.sh (.int q))] = .ok (.bool true) := by
            show evE G__law_prime_from _ _ = _
            unfold G__law_prime_from
            simp (disch := first | exact mulOk_bd | assumption | omega) only [evE_v0, evE_v1, evE_v2, evE_v3, evE_v4, evE_v5, evE_v6, evE_v7, evE_v8, evE_v9, evE_v10, evE_int, evE_bl, evE_non, evE_str, evE_bin, evE_neg, evE_not, evE_cmp, evE_tup, evE_lst, evE_ix, evE_call, evE_bi, evE_sl, evE_isi, andB_t, andB_f, orB_t, orB_f, andB_b, orB_b, evE_and, evE_or, evAnd_one, evOr_one, evAnd_two, evOr_two, evEs_nil, evEs_cons, evSs_nil, evSs_cons, evS_ex, evS_ret, ifB_t, ifB_f, evS_ife, evS_raise, evS_for, seq_t, seq_l, it_seq, ans_nx, ans_rt, ans_xc, forL_nil, forL_cons, ix_t0, ix_t1, ix_t2, ix_t3, o_add, o_sub, o_mul, o_fdiv, o_mod, o_neg, o_not, c_lt, c_le, c_gt, c_ge, c_eq, c_ne, c_eq2, c_ne2, c_eq3, c_ne3, c_is, c_isnot, isi_tt, isi_lt, isi_it, isi_ii, isi_ib, isi_ll, len_t1, len_t2, len_t3, len_t4, len_l, abs_i, tup_l, part_0, part_1, sl_l, call_0, call_1, call_2, call_3, call_4, call_5, call_6, call_7, glob_0, glob_1, glob_2, evE_v11, evE_v12, evE_v13, evE_v14, evE_v15, evE_v16, evE_v17, evE_v18, evE_v19, evE_v20, evS_set0, evS_setL0, evS_set1, evS_setL1, evS_set2, evS_setL2, evS_set3, evS_setL3, evS_set4, evS_setL4, evS_set5, evS_setL5, evS_set6, evS_setL6, evS_set7, evS_setL7, evS_set8, evS_setL8, evS_set9, evS_setL9, evS_set10, evS_setL10, evS_set11, evS_setL11, evS_set12, evS_setL12, evS_set13, evS_setL13, evS_set14, evS_setL14, evS_set15, evS_setL15, evS_set16, evS_setL16, evS_set17, evS_setL17, evS_set18, evS_setL18, evS_set19, evS_setL19, evS_set20, evS_setL20, evS_app0, evS_frz0, evS_frs0, evE_ixo0, evS_aug0, evS_app1, evS_frz1, evS_frs1, evE_ixo1, evS_aug1, evS_app2, evS_frz2, evS_frs2, evE_ixo2, evS_aug2, evS_app3, evS_frz3, evS_frs3, evE_ixo3, evS_aug3, evS_app4, evS_frz4, evS_frs4, evE_ixo4, evS_aug4, evS_app5, evS_frz5, evS_frs5, evE_ixo5, evS_aug5, evS_app6, evS_frz6, evS_frs6, evE_ixo6, evS_aug6, evS_app7, evS_frz7, evS_frs7, evE_ixo7, evS_aug7, evS_app8, evS_frz8, evS_frs8, evE_ixo8, evS_aug8, evS_app9, evS_frz9, evS_frs9, evE_ixo9, evS_aug9, evS_app10, evS_frz10, evS_frs10, evE_ixo10, evS_aug10, evS_app11, evS_frz11, evS_frs11, evE_ixo11, evS_aug11, evS_app12, evS_frz12, evS_frs12, evE_ixo12, evS_aug12, evS_app13, evS_frz13, evS_frs13, evE_ixo13, evS_aug13, evS_app14, evS_frz14, evS_frs14, evE_ixo14, evS_aug14, evS_app15, evS_frz15, evS_frs15, evE_ixo15, evS_aug15, evS_app16, evS_frz16, evS_frs16, evE_ixo16, evS_aug16, evS_pass, evE_ife, ifE_t, ifE_f, it_rng1, it_rng2, c_isnN, c_isnI, c_isN, c_isI, c_isnL, c_isnT, c_isL, c_isT, o_band, o_shr, len_t0, tup_t, call_8, call_9, call_10, call_11, call_12, rb_ok, rb_bad, rb_exc, ra_ok, ra_bad, ra_exc, ft_nx, ft_rt, ft_bad, ft_xc, List.set_cons_zero, List.set_cons_succ, List.nil_append, List.cons_append, Bool.not_true, Bool.not_false, decide_true, decide_false, eq_self, Int.reduceEq, Bool.false_or, Bool.or_false, Bool.true_or, Bool.or_true, Bool.true_and, Bool.and_true, Bool.false_and, Bool.and_false, Bool.or_self, Bool.and_self, decide_eq_true hI, o_mod hqI, decide_eq_false (fun t => h0 (modz.mp t))]
          have hc : ((q : Int) + 2) = ((q + 2 : Nat) : Int) := by omega
          have hb : evSs G__law_prime_from w1__law_prime_from [some (.sh (.int n)), some (.sh d1), some (.sh (.int q))] = .nx [some (.sh (.int n)), some (.sh d1), some (.sh (.int (q + 2 : Nat)))] := by
            unfold G__law_prime_from w1__law_prime_from
            simp (disch := first | exact mulOk_bd | assumption | omega) only [evE_v0, evE_v1, evE_v2, evE_v3, evE_v4, evE_v5, evE_v6, evE_v7, evE_v8, evE_v9, evE_v10, evE_int, evE_bl, evE_non, evE_str, evE_bin, evE_neg, evE_not, evE_cmp, evE_tup, evE_lst, evE_ix, evE_call, evE_bi, evE_sl, evE_isi, andB_t, andB_f, orB_t, orB_f, andB_b, orB_b, evE_and, evE_or, evAnd_one, evOr_one, evAnd_two, evOr_two, evEs_nil, evEs_cons, evSs_nil, evSs_cons, evS_ex, evS_ret, ifB_t, ifB_f, evS_ife, evS_raise, evS_for, seq_t, seq_l, it_seq, ans_nx, ans_rt, ans_xc, forL_nil, forL_cons, ix_t0, ix_t1, ix_t2, ix_t3, o_add, o_sub, o_mul, o_fdiv, o_mod, o_neg, o_not, c_lt, c_le, c_gt, c_ge, c_eq, c_ne, c_eq2, c_ne2, c_eq3, c_ne3, c_is, c_isnot, isi_tt, isi_lt, isi_it, isi_ii, isi_ib, isi_ll, len_t1, len_t2, len_t3, len_t4, len_l, abs_i, tup_l, part_0, part_1, sl_l, call_0, call_1, call_2, call_3, call_4, call_5, call_6, call_7, glob_0, glob_1, glob_2, evE_v11, evE_v12, evE_v13, evE_v14, evE_v15, evE_v16, evE_v17, evE_v18, evE_v19, evE_v20, evS_set0, evS_setL0, evS_set1, evS_setL1, evS_set2, evS_setL2, evS_set3, evS_setL3, evS_set4, evS_setL4, evS_set5, evS_setL5, evS_set6, evS_setL6, evS_set7, evS_setL7, evS_set8, evS_setL8, evS_set9, evS_setL9, evS_set10, evS_setL10, evS_set11, evS_setL11, evS_set12, evS_setL12, evS_set13, evS_setL13, evS_set14, evS_setL14, evS_set15, evS_setL15, evS_set16, evS_setL16, evS_set17, evS_setL17, evS_set18, evS_setL18, evS_set19, evS_setL19, evS_set20, evS_setL20, evS_app0, evS_frz0, evS_frs0, evE_ixo0, evS_aug0, evS_app1, evS_frz1, evS_frs1, evE_ixo1, evS_aug1, evS_app2, evS_frz2, evS_frs2, evE_ixo2, evS_aug2, evS_app3, evS_frz3, evS_frs3, evE_ixo3, evS_aug3, evS_app4, evS_frz4, evS_frs4, evE_ixo4, evS_aug4, evS_app5, evS_frz5, evS_frs5, evE_ixo5, evS_aug5, evS_app6, evS_frz6, evS_frs6, evE_ixo6, evS_aug6, evS_app7, evS_frz7, evS_frs7, evE_ixo7, evS_aug7, evS_app8, evS_frz8, evS_frs8, evE_ixo8, evS_aug8, evS_app9, evS_frz9, evS_frs9, evE_ixo9, evS_aug9, evS_app10, evS_frz10, evS_frs10, evE_ixo10, evS_aug10, evS_app11, evS_frz11, evS_frs11, evE_ixo11, evS_aug11, evS_app12, evS_frz12, evS_frs12, evE_ixo12, evS_aug12, evS_app13, evS_frz13, evS_frs13, evE_ixo13, evS_aug13, evS_app14, evS_frz14, evS_frs14, evE_ixo14, evS_aug14, evS_app15, evS_frz15, evS_frs15, evE_ixo15, evS_aug15, evS_app16, evS_frz16, evS_frs16, evE_ixo16, evS_aug16, evS_pass, evE_ife, ifE_t, ifE_f, it_rng1, it_rng2, c_isnN, c_isnI, c_isN, c_isI, c_isnL, c_isnT, c_isL, c_isT, o_band, o_shr, len_t0, tup_t, call_8, call_9, call_10, call_11, call_12, rb_ok, rb_bad, rb_exc, ra_ok, ra_bad, ra_exc, ft_nx, ft_rt, ft_bad, ft_xc, List.set_cons_zero, List.set_cons_succ, List.nil_append, List.cons_append, Bool.not_true, Bool.not_false, decide_true, decide_false, eq_self, Int.reduceEq, Bool.false_or, Bool.or_false, Bool.true_or, Bool.or_true, Bool.true_and, Bool.and_true, Bool.false_and, Bool.and_false, Bool.or_self, Bool.and_self, hc]
          rw [whileL_eq, e]
          show ∃ r : Nat, (evSs G__law_prime_from w1__law_prime_from [some (.sh (.int n)), some (.sh d1), some (.sh (.int q))]).then (whileL pfc pfb) = _ ∧ _
          rw [hb, ft_nx]
          refine pf_inner hn m (q + 2) (by omega) (by omega) (by omega) (by omega) fun d d1 d2 d3 => ?_
          rcases Nat.lt_or_ge d q with t | t
          · exact hd d d1 t d3
          · have : d = q := by omega
            rw [this]
            exact h0
    · have hI : ¬ ((q : Int) * (q : Int)) ≤ (n : Int) := by exact_mod_cast h
      refine ⟨q, ?_, h3, hq, .inl ⟨by omega, hd⟩⟩
      have e : pfc [some (.sh (.int n)), some (.sh d1), some (.sh (.int q))] = .ok (.bool false) := by
        show evE G__law_prime_from _ _ = _
        unfold G__law_prime_from
        simp (disch := first | exact mulOk_bd | assumption | omega) only [evE_v0, evE_v1, evE_v2, evE_v3, evE_v4, evE_v5, evE_v6, evE_v7, evE_v8, evE_v9, evE_v10, evE_int, evE_bl, evE_non, evE_str, evE_bin, evE_neg, evE_not, evE_cmp, evE_tup, evE_lst, evE_ix, evE_call, evE_bi, evE_sl, evE_isi, andB_t, andB_f, orB_t, orB_f, andB_b, orB_b, evE_and, evE_or, evAnd_one, evOr_one, evAnd_two, evOr_two, evEs_nil, evEs_cons, evSs_nil, evSs_cons, evS_ex, evS_ret, ifB_t, ifB_f, evS_ife, evS_raise, evS_for, seq_t, seq_l, it_seq, ans_nx, ans_rt, ans_xc, forL_nil, forL_cons, ix_t0, ix_t1, ix_t2, ix_t3, o_add, o_sub, o_mul, o_fdiv, o_mod, o_neg, o_not, c_lt, c_le, c_gt, c_ge, c_eq, c_ne, c_eq2, c_ne2, c_eq3, c_ne3, c_is, c_isnot, isi_tt, isi_lt, isi_it, isi_ii, isi_ib, isi_ll, len_t1, len_t2, len_t3, len_t4, len_l, abs_i, tup_l, part_0, part_1, sl_l, call_0, call_1, call_2, call_3, call_4, call_5, call_6, call_7, glob_0, glob_1, glob_2, evE_v11, evE_v12, evE_v13, evE_v14, evE_v15, evE_v16, evE_v17, evE_v18, evE_v19, evE_v20, evS_set0, evS_setL0, evS_set1, evS_setL1, evS_set2, evS_setL2, evS_set3, evS_setL3, evS_set4, evS_setL4, evS_set5, evS_setL5, evS_set6, evS_setL6, evS_set7, evS_setL7, evS_set8, evS_setL8, evS_set9, evS_setL9, evS_set10, evS_setL10, evS_set11, evS_setL11, evS_set12, evS_setL12, evS_set13, evS_setL13, evS_set14, evS_setL14, evS_set15, evS_setL15, evS_set16, evS_setL16, evS_set17, evS_setL17, evS_set18, evS_setL18, evS_set19, evS_setL19, evS_set20, evS_setL20, evS_app0, evS_frz0, evS_frs0, evE_ixo0, evS_aug0, evS_app1, evS_frz1, evS_frs1, evE_ixo1, evS_aug1, evS_app2, evS_frz2, evS_frs2, evE_ixo2, evS_aug2, evS_app3, evS_frz3, evS_frs3, evE_ixo3, evS_aug3, evS_app4, evS_frz4, evS_frs4, evE_ixo4, evS_aug4, evS_app5, evS_frz5, evS_frs5, evE_ixo5, evS_aug5, evS_app6, evS_frz6, evS_frs6, evE_ixo6, evS_aug6, evS_app7, evS_frz7, evS_frs7, evE_ixo7, evS_aug7, evS_app8, evS_frz8, evS_frs8, evE_ixo8, evS_aug8, evS_app9, evS_frz9, evS_frs9, evE_ixo9, evS_aug9, evS_app10, evS_frz10, evS_frs10, evE_ixo10, evS_aug10, evS_app11, evS_frz11, evS_frs11, evE_ixo11, evS_aug11, evS_app12, evS_frz12, evS_frs12, evE_ixo12, evS_aug12, evS_app13, evS_frz13, evS_frs13, evE_ixo13, evS_aug13, evS_app14, evS_frz14, evS_frs14, evE_ixo14, evS_aug14, evS_app15, evS_frz15, evS_frs15, evE_ixo15, evS_aug15, evS_app16, evS_frz16, evS_frs16, evE_ixo16, evS_aug16, evS_pass, evE_ife, ifE_t, ifE_f, it_rng1, it_rng2, c_isnN, c_isnI, c_isN, c_isI, c_isnL, c_isnT, c_isL, c_isT, o_band, o_shr, len_t0, tup_t, call_8, call_9, call_10, call_11, call_12, rb_ok, rb_bad, rb_exc, ra_ok, ra_bad, ra_exc, ft_nx, ft_rt, ft_bad, ft_xc, List.set_cons_zero, List.set_cons_succ, List.nil_append, List.cons_append, Bool.not_true, Bool.not_false, decide_true, decide_false, eq_self, Int.reduceEq, Bool.false_or, Bool.or_false, Bool.true_or, Bool.or_true, Bool.true_and, Bool.and_true, Bool.false_and, Bool.and_false, Bool.or_self, Bool.and_self, decide_eq_false hI]
      rw [whileL_eq, e]
      rfl
theorem prm_of {n r : Nat} (h3 : 3 ≤ n) (ho : n % 2 = 1) (hr : n < r * r) (hd : ∀ d, 3 ≤ d → d < r → d % 2 = 1 → n % d ≠ 0) : Prm n := by
  refine ⟨by omega, fun d hdv => ?_⟩
  obtain ⟨e, he⟩ := hdv
  have odd : ∀ {u w : Nat}, n = u * w → u % 2 = 1 := fun {u w} h => by
    rcases Nat.mod_two_eq_zero_or_one u with t | t
    · rw [h, Nat.mul_mod, t, Nat.zero_mul] at ho
      exact absurd ho (by decide)
    · exact t
  have big : ∀ {u w : Nat}, n = u * w → u ≠ 1 → r ≤ u := fun {u w} h hu => by
    have o := odd h
    rcases Nat.lt_or_ge u r with t | t
    · exfalso
      refine hd u (by omega) t o ?_
      rw [h, Nat.mul_mod_right]
    · exact t
  by_cases h1 : d = 1
  · exact .inl h1
  · right
    by_cases h2 : e = 1
    · rw [h2, Nat.mul_one] at he
      exact he.symm
    · have b1 := big he h1
      have b2 := big (by rw [Nat.mul_comm]; exact he) h2
      have := Nat.mul_le_mul b1 b2
      omega
noncomputable abbrev pgc : En → R D := fun ρ => evE G__law_prime_from (.bl true) ρ
noncomputable abbrev pgb : En → Fl := fun ρ => evSs G__law_prime_from w2__law_prime_from ρ
theorem small_odd {n : Nat} (hn : n = 9719 ∨ n = 9721) : ∀ r, 3 ≤ r → r * r ≤ n → n % r ≠ 0 := by
  intro r h1 h2 h3
  have hr : r < 99 := by
    rcases Nat.lt_or_ge r 99 with t | t
    · exact t
    · have := Nat.mul_le_mul t t
      omega
  have k1 : ∀ r, r < 99 → 3 ≤ r → 9719 % r ≠ 0 := by decide +kernel
  have k2 : ∀ r, r < 99 → 3 ≤ r → 9721 % r ≠ 0 := by decide +kernel
  rcases hn with e | e <;> subst e
  · exact k1 r hr h1 h3
  · exact k2 r hr h1 h3
theorem pf_outer {z : Int} (hz : -1000000 ≤ z) (hz2 : z < 0) : ∀ (m n : Nat) (x2 : Option Sl), 9721 - n ≤ m → n ≤ 9721 → n % 2 = 1 → (9719 < n → z % 9719 = 0) →
    ∃ p : Nat, whileL pgc pgb [some (.sh (.int n)), some (.sh (.int z)), x2] = .rt (.int p) ∧ Prm p ∧ 3 ≤ p ∧ p ≤ 9721 ∧ p % 2 = 1 ∧ z % (p : Int) ≠ 0
  | m, n, x2, hm, h1, ho, h9 => by
    obtain ⟨r, hw, r3, rn, hr⟩ := pf_inner (n := n) (by omega) (d1 := .int z) n 3 (by omega) (by omega) (by omega) rfl (fun d d1 d2 _ => by omega)
    have hw2 : evS G__law_prime_from (.while_ (.and (.cmp .le (.bin .mul (.v 2) (.v 2)) (.v 0)) [.cmp .ne (.bin .mod (.v 0) (.v 2)) (.int 0)]) w1__law_prime_from) [some (.sh (.int n)), some (.sh (.int z)), some (.sh (.int 3))] = _ := evS_while.trans hw
    have Br : Bd 15 (r : Int) := ⟨by
      have : (2 : Nat) ^ 15 = 32768 := by decide
      omega⟩
    have hnI : (0 : Int) < (n : Int) := by omega
    have e : pgc [some (.sh (.int n)), some (.sh (.int z)), x2] = .ok (.bool true) := by
      show evE G__law_prime_from _ _ = _
      simp (disch := first | exact mulOk_bd | assumption | omega) only [evE_v0, evE_v1, evE_v2, evE_v3, evE_v4, evE_v5, evE_v6, evE_v7, evE_v8, evE_v9, evE_v10, evE_int, evE_bl, evE_non, evE_str, evE_bin, evE_neg, evE_not, evE_cmp, evE_tup, evE_lst, evE_ix, evE_call, evE_bi, evE_sl, evE_isi, andB_t, andB_f, orB_t, orB_f, andB_b, orB_b, evE_and, evE_or, evAnd_one, evOr_one, evAnd_two, evOr_two, evEs_nil, evEs_cons, evSs_nil, evSs_cons, evS_ex, evS_ret, ifB_t, ifB_f, evS_ife, evS_raise, evS_for, seq_t, seq_l, it_seq, ans_nx, ans_rt, ans_xc, forL_nil, forL_cons, ix_t0, ix_t1, ix_t2, ix_t3, o_add, o_sub, o_mul, o_fdiv, o_mod, o_neg, o_not, c_lt, c_le, c_gt, c_ge, c_eq, c_ne, c_eq2, c_ne2, c_eq3, c_ne3, c_is, c_isnot, isi_tt, isi_lt, isi_it, isi_ii, isi_ib, isi_ll, len_t1, len_t2, len_t3, len_t4, len_l, abs_i, tup_l, part_0, part_1, sl_l, call_0, call_1, call_2, call_3, call_4, call_5, call_6, call_7, glob_0, glob_1, glob_2, evE_v11, evE_v12, evE_v13, evE_v14, evE_v15, evE_v16, evE_v17, evE_v18, evE_v19, evE_v20, evS_set0, evS_setL0, evS_set1, evS_setL1, evS_set2, evS_setL2, evS_set3, evS_setL3, evS_set4, evS_setL4, evS_set5, evS_setL5, evS_set6, evS_setL6, evS_set7, evS_setL7, evS_set8, evS_setL8, evS_set9, evS_setL9, evS_set10, evS_setL10, evS_set11, evS_setL11, evS_set12, evS_setL12, evS_set13, evS_setL13, evS_set14, evS_setL14, evS_set15, evS_setL15, evS_set16, evS_setL16, evS_set17, evS_setL17, evS_set18, evS_setL18, evS_set19, evS_setL19, evS_set20, evS_setL20, evS_app0, evS_frz0, evS_frs0, evE_ixo0, evS_aug0, evS_app1, evS_frz1, evS_frs1, evE_ixo1, evS_aug1, evS_app2, evS_frz2, evS_frs2, evE_ixo2, evS_aug2, evS_app3, evS_frz3, evS_frs3, evE_ixo3, evS_aug3, evS_app4, evS_frz4, evS_frs4, evE_ixo4, evS_aug4, evS_app5, evS_frz5, evS_frs5, evE_ixo5, evS_aug5, evS_app6, evS_frz6, evS_frs6, evE_ixo6, evS_aug6, evS_app7, evS_frz7, evS_frs7, evE_ixo7, evS_aug7, evS_app8, evS_frz8, evS_frs8, evE_ixo8, evS_aug8, evS_app9, evS_frz9, evS_frs9, evE_ixo9, evS_aug9, evS_app10, evS_frz10, evS_frs10, evE_ixo10, evS_aug10, evS_app11, evS_frz11, evS_frs11, evE_ixo11, evS_aug11, evS_app12, evS_frz12, evS_frs12, evE_ixo12, evS_aug12, evS_app13, evS_frz13, evS_frs13, evE_ixo13, evS_aug13, evS_app14, evS_frz14, evS_frs14, evE_ixo14, evS_aug14, evS_app15, evS_frz15, evS_frs15, evE_ixo15, evS_aug15, evS_app16, evS_frz16, evS_frs16, evE_ixo16, evS_aug16, evS_pass, evE_ife, ifE_t, ifE_f, it_rng1, it_rng2, c_isnN, c_isnI, c_isN, c_isI, c_isnL, c_isnT, c_isL, c_isT, o_band, o_shr, len_t0, tup_t, call_8, call_9, call_10, call_11, call_12, rb_ok, rb_bad, rb_exc, ra_ok, ra_bad, ra_exc, ft_nx, ft_rt, ft_bad, ft_xc, List.set_cons_zero, List.set_cons_succ, List.nil_append, List.cons_append, Bool.not_true, Bool.not_false, decide_true, decide_false, eq_self, Int.reduceEq, Bool.false_or, Bool.or_false, Bool.true_or, Bool.or_true, Bool.true_and, Bool.and_true, Bool.false_and, Bool.and_false, Bool.or_self, Bool.and_self]
    rw [whileL_eq, e]
    show ∃ p : Nat, (evSs G__law_prime_from w2__law_prime_from [some (.sh (.int n)), some (.sh (.int z)), x2]).then (whileL pgc pgb) = _ ∧ _
    have hc : ((n : Int) + 2) = ((n + 2 : Nat) : Int) := by omega
    by_cases hret : n < r * r ∧ 2 < n ∧ z % (n : Int) ≠ 0
    · obtain ⟨t1, t2, t3⟩ := hret
      have hI : (n : Int) < (r : Int) * (r : Int) := by exact_mod_cast t1
      have hb : evSs G__law_prime_from w2__law_prime_from [some (.sh (.int n)), some (.sh (.int z)), x2] = .rt (.int n) := by
        unfold w2__law_prime_from
        unfold G__law_prime_from at hw2 ⊢
        simp (disch := first | exact mulOk_bd | assumption | omega) only [evE_v0, evE_v1, evE_v2, evE_v3, evE_v4, evE_v5, evE_v6, evE_v7, evE_v8, evE_v9, evE_v10, evE_int, evE_bl, evE_non, evE_str, evE_bin, evE_neg, evE_not, evE_cmp, evE_tup, evE_lst, evE_ix, evE_call, evE_bi, evE_sl, evE_isi, andB_t, andB_f, orB_t, orB_f, andB_b, orB_b, evE_and, evE_or, evAnd_one, evOr_one, evAnd_two, evOr_two, evEs_nil, evEs_cons, evSs_nil, evSs_cons, evS_ex, evS_ret, ifB_t, ifB_f, evS_ife, evS_raise, evS_for, seq_t, seq_l, it_seq, ans_nx, ans_rt, ans_xc, forL_nil, forL_cons, ix_t0, ix_t1, ix_t2, ix_t3, o_add, o_sub, o_mul, o_fdiv, o_mod, o_neg, o_not, c_lt, c_le, c_gt, c_ge, c_eq, c_ne, c_eq2, c_ne2, c_eq3, c_ne3, c_is, c_isnot, isi_tt, isi_lt, isi_it, isi_ii, isi_ib, isi_ll, len_t1, len_t2, len_t3, len_t4, len_l, abs_i, tup_l, part_0, part_1, sl_l, call_0, call_1, call_2, call_3, call_4, call_5, call_6, call_7, glob_0, glob_1, glob_2, evE_v11, evE_v12, evE_v13, evE_v14, evE_v15, evE_v16, evE_v17, evE_v18, evE_v19, evE_v20, evS_set0, evS_setL0, evS_set1, evS_setL1, evS_set2, evS_setL2, evS_set3, evS_setL3, evS_set4, evS_setL4, evS_set5, evS_setL5, evS_set6, evS_setL6, evS_set7, evS_setL7, evS_set8, evS_setL8, evS_set9, evS_setL9, evS_set10, evS_setL10, evS_set11, evS_setL11, evS_set12, evS_setL12, evS_set13, evS_setL13, evS_set14, evS_setL14, evS_set15, evS_setL15, evS_set16, evS_setL16, evS_set17, evS_setL17, evS_set18, evS_setL18, evS_set19, evS_setL19, evS_set20, evS_setL20, evS_app0, evS_frz0, evS_frs0, evE_ixo0, evS_aug0, evS_app1, evS_frz1, evS_frs1, evE_ixo1, evS_aug1, evS_app2, evS_frz2, evS_frs2, evE_ixo2, evS_aug2, evS_app3, evS_frz3, evS_frs3, evE_ixo3, evS_aug3, evS_app4, evS_frz4, evS_frs4, evE_ixo4, evS_aug4, evS_app5, evS_frz5, evS_frs5, evE_ixo5, evS_aug5, evS_app6, evS_frz6, evS_frs6, evE_ixo6, evS_aug6, evS_app7, evS_frz7, evS_frs7, evE_ixo7, evS_aug7, evS_app8, evS_frz8, evS_frs8, evE_ixo8, evS_aug8, evS_app9, evS_frz9, evS_frs9, evE_ixo9, evS_aug9, evS_app10, evS_frz10, evS_frs10, evE_ixo10, evS_aug10, evS_app11, evS_frz11, evS_frs11, evE_ixo11, evS_aug11, evS_app12, evS_frz12, evS_frs12, evE_ixo12, evS_aug12, evS_app13, evS_frz13, evS_frs13, evE_ixo13, evS_aug13, evS_app14, evS_frz14, evS_frs14, evE_ixo14, evS_aug14, evS_app15, evS_frz15, evS_frs15, evE_ixo15, evS_aug15, evS_app16, evS_frz16, evS_frs16, evE_ixo16, evS_aug16, evS_pass, evE_ife, ifE_t, ifE_f, it_rng1, it_rng2, c_isnN, c_isnI, c_isN, c_isI, c_isnL, c_isnT, c_isL, c_isT, o_band, o_shr, len_t0, tup_t, call_8, call_9, call_10, call_11, call_12, rb_ok, rb_bad, rb_exc, ra_ok, ra_bad, ra_exc, ft_nx, ft_rt, ft_bad, ft_xc, List.set_cons_zero, List.set_cons_succ, List.nil_append, List.cons_append, Bool.not_true, Bool.not_false, decide_true, decide_false, eq_self, Int.reduceEq, Bool.false_or, Bool.or_false, Bool.true_or, Bool.or_true, Bool.true_and, Bool.and_true, Bool.false_and, Bool.and_false, Bool.or_self, Bool.and_self, hw2, decide_eq_true hI, decide_eq_true (show (2 : Int) < (n : Int) by omega), o_mod hnI, decide_eq_false t3]
      rw [hb, ft_rt]
      have hd : ∀ d, 3 ≤ d → d < r → d % 2 = 1 → n % d ≠ 0 := by
        rcases hr with q | q
        · exact q.2
        · omega
      exact ⟨n, rfl, prm_of (by omega) ho t1 hd, by omega, h1, ho, t3⟩
    · have hb : evSs G__law_prime_from w2__law_prime_from [some (.sh (.int n)), some (.sh (.int z)), x2] = .nx [some (.sh (.int (n + 2 : Nat))), some (.sh (.int z)), some (.sh (.int r))] := by
        unfold w2__law_prime_from
        unfold G__law_prime_from at hw2 ⊢
        by_cases t1 : n < r * r
        · have hI : (n : Int) < (r : Int) * (r : Int) := by exact_mod_cast t1
          by_cases t2 : 2 < n
          · have t3 : z % (n : Int) = 0 := by
              by_cases t : z % (n : Int) = 0
              · exact t
              · exact absurd ⟨t1, t2, t⟩ hret
            simp (disch := first | exact mulOk_bd | assumption | omega) only [evE_v0, evE_v1, evE_v2, evE_v3, evE_v4, evE_v5, evE_v6, evE_v7, evE_v8, evE_v9, evE_v10, evE_int, evE_bl, evE_non, evE_str, evE_bin, evE_neg, evE_not, evE_cmp, evE_tup, evE_lst, evE_ix, evE_call, evE_bi, evE_sl, evE_isi, andB_t, andB_f, orB_t, orB_f, andB_b, orB_b, evE_and, evE_or, evAnd_one, evOr_one, evAnd_two, evOr_two, evEs_nil, evEs_cons, evSs_nil, evSs_cons, evS_ex, evS_ret, ifB_t, ifB_f, evS_ife, evS_raise, evS_for, seq_t, seq_l, it_seq, ans_nx, ans_rt, ans_xc, forL_nil, forL_cons, ix_t0, ix_t1, ix_t2, ix_t3, o_add, o_sub, o_mul, o_fdiv, o_mod, o_neg, o_not, c_lt, c_le, c_gt, c_ge, c_eq, c_ne, c_eq2, c_ne2, c_eq3, c_ne3, c_is, c_isnot, isi_tt, isi_lt, isi_it, isi_ii, isi_ib, isi_ll, len_t1, len_t2, len_t3, len_t4, len_l, abs_i, tup_l, part_0, part_1, sl_l, call_0, call_1, call_2, call_3, call_4, call_5, call_6, call_7, glob_0, glob_1, glob_2, evE_v11, evE_v12, evE_v13, evE_v14, evE_v15, evE_v16, evE_v17, evE_v18, evE_v19, evE_v20, evS_set0, evS_setL0, evS_set1, evS_setL1, evS_set2, evS_setL2, evS_set3, evS_setL3, evS_set4, evS_setL4, evS_set5, evS_setL5, evS_set6, evS_setL6, evS_set7, evS_setL7, evS_set8, evS_setL8, evS_set9, evS_setL9, evS_set10, evS_setL10, evS_set11, evS_setL11, evS_set12, evS_setL12, evS_set13, evS_setL13, evS_set14, evS_setL14, evS_set15, evS_setL15, evS_set16, evS_setL16, evS_set17, evS_setL17, evS_set18, evS_setL18, evS_set19, evS_setL19, evS_set20, evS_setL20, evS_app0, evS_frz0, evS_frs0, evE_ixo0, evS_aug0, evS_app1, evS_frz1, evS_frs1, evE_ixo1, evS_aug1, evS_app2, evS_frz2, evS_frs2, evE_ixo2, evS_aug2, evS_app3, evS_frz3, evS_frs3, evE_ixo3, evS_aug3, evS_app4, evS_frz4, evS_frs4, evE_ixo4, evS_aug4, evS_app5, evS_frz5, evS_frs5, evE_ixo5, evS_aug5, evS_app6, evS_frz6, evS_frs6, evE_ixo6, evS_aug6, evS_app7, evS_frz7, evS_frs7, evE_ixo7, evS_aug7, evS_app8, evS_frz8, evS_frs8, evE_ixo8, evS_aug8, evS_app9, evS_frz9, evS_frs9, evE_ixo9, evS_aug9, evS_app10, evS_frz10, evS_frs10, evE_ixo10, evS_aug10, evS_app11, evS_frz11, evS_frs11, evE_ixo11, evS_aug11, evS_app12, evS_frz12, evS_frs12, evE_ixo12, evS_aug12, evS_app13, evS_frz13, evS_frs13, evE_ixo13, evS_aug13, evS_app14, evS_frz14, evS_frs14, evE_ixo14, evS_aug14, evS_app15, evS_frz15, evS_frs15, evE_ixo15, evS_aug15, evS_app16, evS_frz16, evS_frs16, evE_ixo16, evS_aug16, evS_pass, evE_ife, ifE_t, ifE_f, it_rng1, it_rng2, c_isnN, c_isnI, c_isN, c_isI, c_isnL, c_isnT, c_isL, c_isT, o_band, o_shr, len_t0, tup_t, call_8, call_9, call_10, call_11, call_12, rb_ok, rb_bad, rb_exc, ra_ok, ra_bad, ra_exc, ft_nx, ft_rt, ft_bad, ft_xc, List.set_cons_zero, List.set_cons_succ, List.nil_append, List.cons_append, Bool.not_true, Bool.not_false, decide_true, decide_false, eq_self, Int.reduceEq, Bool.false_or, Bool.or_false, Bool.true_or, Bool.or_true, Bool.true_and, Bool.and_true, Bool.false_and, Bool.and_false, Bool.or_self, Bool.and_self, hw2, decide_eq_true hI, decide_eq_true (show (2 : Int) < (n : Int) by omega), o_mod hnI, decide_eq_true t3, hc]
          · simp (disch := first | exact mulOk_bd | assumption | omega) only [evE_v0, evE_v1, evE_v2, evE_v3, evE_v4, evE_v5, evE_v6, evE_v7, evE_v8, evE_v9, evE_v10, evE_int, evE_bl, evE_non, evE_str, evE_bin, evE_neg, evE_not, evE_cmp, evE_tup, evE_lst, evE_ix, evE_call, evE_bi, evE_sl, evE_isi, andB_t, andB_f, orB_t, orB_f, andB_b, orB_b, evE_and, evE_or, evAnd_one, evOr_one, evAnd_two, evOr_two, evEs_nil, evEs_cons, evSs_nil, evSs_cons, evS_ex, evS_ret, ifB_t, ifB_f, evS_ife, evS_raise, evS_for, seq_t, seq_l, it_seq, ans_nx, ans_rt, ans_xc, forL_nil, forL_cons, ix_t0, ix_t1, ix_t2, ix_t3, o_add, o_sub, o_mul, o_fdiv, o_mod, o_neg, o_not, c_lt, c_le, c_gt, c_ge, c_eq, c_ne, c_eq2, c_ne2, c_eq3, c_ne3, c_is, c_isnot, isi_tt, isi_lt, isi_it, isi_ii, isi_ib, isi_ll, len_t1, len_t2, len_t3, len_t4, len_l, abs_i, tup_l, part_0, part_1, sl_l, call_0, call_1, call_2, call_3, call_4, call_5, call_6, call_7, glob_0, glob_1, glob_2, evE_v11, evE_v12, evE_v13, evE_v14, evE_v15, evE_v16, evE_v17, evE_v18, evE_v19, evE_v20, evS_set0, evS_setL0, evS_set1, evS_setL1, evS_set2, evS_setL2, evS_set3, evS_setL3, evS_set4, evS_setL4, evS_set5, evS_setL5, evS_set6, evS_setL6, evS_set7, evS_setL7, evS_set8, evS_setL8, evS_set9, evS_setL9, evS_set10, evS_setL10, evS_set11, evS_setL11, evS_set12, evS_setL12, evS_set13, evS_setL13, evS_set14, evS_setL14, evS_set15, evS_setL15, evS_set16, evS_setL16, evS_set17, evS_setL17, evS_set18, evS_setL18, evS_set19, evS_setL19, evS_set20, evS_setL20, evS_app0, evS_frz0, evS_frs0, evE_ixo0, evS_aug0, evS_app1, evS_frz1, evS_frs1, evE_ixo1, evS_aug1, evS_app2, evS_frz2, evS_frs2, evE_ixo2, evS_aug2, evS_app3, evS_frz3, evS_frs3, evE_ixo3, evS_aug3, evS_app4, evS_frz4, evS_frs4, evE_ixo4, evS_aug4, evS_app5, evS_frz5, evS_frs5, evE_ixo5, evS_aug5, evS_app6, evS_frz6, evS_frs6, evE_ixo6, evS_aug6, evS_app7, evS_frz7, evS_frs7, evE_ixo7, evS_aug7, evS_app8, evS_frz8, evS_frs8, evE_ixo8, evS_aug8, evS_app9, evS_frz9, evS_frs9, evE_ixo9, evS_aug9, evS_app10, evS_frz10, evS_frs10, evE_ixo10, evS_aug10, evS_app11, evS_frz11, evS_frs11, evE_ixo11, evS_aug11, evS_app12, evS_frz12, evS_frs12, evE_ixo12, evS_aug12, evS_app13, evS_frz13, evS_frs13, evE_ixo13, evS_aug13, evS_app14, evS_frz14, evS_frs14, evE_ixo14, evS_aug14, evS_app15, evS_frz15, evS_frs15, evE_ixo15, evS_aug15, evS_app16, evS_frz16, evS_frs16, evE_ixo16, evS_aug16, evS_pass, evE_ife, ifE_t, ifE_f, it_rng1, it_rng2, c_isnN, c_isnI, c_isN, c_isI, c_isnL, c_isnT, c_isL, c_isT, o_band, o_shr, len_t0, tup_t, call_8, call_9, call_10, call_11, call_12, rb_ok, rb_bad, rb_exc, ra_ok, ra_bad, ra_exc, ft_nx, ft_rt, ft_bad, ft_xc, List.set_cons_zero, List.set_cons_succ, List.nil_append, List.cons_append, Bool.not_true, Bool.not_false, decide_true, decide_false, eq_self, Int.reduceEq, Bool.false_or, Bool.or_false, Bool.true_or, Bool.or_true, Bool.true_and, Bool.and_true, Bool.false_and, Bool.and_false, Bool.or_self, Bool.and_self, hw2, decide_eq_true hI, decide_eq_false (show ¬ (2 : Int) < (n : Int) by omega), hc]
        · have hI : ¬ (n : Int) < (r : Int) * (r : Int) := by exact_mod_cast t1
          simp (disch := first | exact mulOk_bd | assumption | omega) only [evE_v0, evE_v1, evE_v2, evE_v3, evE_v4, evE_v5, evE_v6, evE_v7, evE_v8, evE_v9, evE_v10, evE_int, evE_bl, evE_non, evE_str, evE_bin, evE_neg, evE_not, evE_cmp, evE_tup, evE_lst, evE_ix, evE_call, evE_bi, evE_sl, evE_isi, andB_t, andB_f, orB_t, orB_f, andB_b, orB_b, evE_and, evE_or, evAnd_one, evOr_one, evAnd_two, evOr_two, evEs_nil, evEs_cons, evSs_nil, evSs_cons, evS_ex, evS_ret, ifB_t, ifB_f, evS_ife, evS_raise, evS_for, seq_t, seq_l, it_seq, ans_nx, ans_rt, ans_xc, forL_nil, forL_cons, ix_t0, ix_t1, ix_t2, ix_t3, o_add, o_sub, o_mul, o_fdiv, o_mod, o_neg, o_not, c_lt, c_le, c_gt, c_ge, c_eq, c_ne, c_eq2, c_ne2, c_eq3, c_ne3, c_is, c_isnot, isi_tt, isi_lt, isi_it, isi_ii, isi_ib, isi_ll, len_t1, len_t2, len_t3, len_t4, len_l, abs_i, tup_l, part_0, part_1, sl_l, call_0, call_1, call_2, call_3, call_4, call_5, call_6, call_7, glob_0, glob_1, glob_2, evE_v11, evE_v12, evE_v13, evE_v14, evE_v15, evE_v16, evE_v17, evE_v18, evE_v19, evE_v20, evS_set0, evS_setL0, evS_set1, evS_setL1, evS_set2, evS_setL2, evS_set3, evS_setL3, evS_set4, evS_setL4, evS_set5, evS_setL5, evS_set6, evS_setL6, evS_set7, evS_setL7, evS_set8, evS_setL8, evS_set9, evS_setL9, evS_set10, evS_setL10, evS_set11, evS_setL11, evS_set12, evS_setL12, evS_set13, evS_setL13, evS_set14, evS_setL14, evS_set15, evS_setL15, evS_set16, evS_setL16, evS_set17, evS_setL17, evS_set18, evS_setL18, evS_set19, evS_setL19, evS_set20, evS_setL20, evS_app0, evS_frz0, evS_frs0, evE_ixo0, evS_aug0, evS_app1, evS_frz1, evS_frs1, evE_ixo1, evS_aug1, evS_app2, evS_frz2, evS_frs2, evE_ixo2, evS_aug2, evS_app3, evS_frz3, evS_frs3, evE_ixo3, evS_aug3, evS_app4, evS_frz4, evS_frs4, evE_ixo4, evS_aug4, evS_app5, evS_frz5, evS_frs5, evE_ixo5, evS_aug5, evS_app6, evS_frz6, evS_frs6, evE_ixo6, evS_aug6, evS_app7, evS_frz7, evS_frs7, evE_ixo7, evS_aug7, evS_app8, evS_frz8, evS_frs8, evE_ixo8, evS_aug8, evS_app9, evS_frz9, evS_frs9, evE_ixo9, evS_aug9, evS_app10, evS_frz10, evS_frs10, evE_ixo10, evS_aug10, evS_app11, evS_frz11, evS_frs11, evE_ixo11, evS_aug11, evS_app12, evS_frz12, evS_frs12, evE_ixo12, evS_aug12, evS_app13, evS_frz13, evS_frs13, evE_ixo13, evS_aug13, evS_app14, evS_frz14, evS_frs14, evE_ixo14, evS_aug14, evS_app15, evS_frz15, evS_frs15, evE_ixo15, evS_aug15, evS_app16, evS_frz16, evS_frs16, evE_ixo16, evS_aug16, evS_pass, evE_ife, ifE_t, ifE_f, it_rng1, it_rng2, c_isnN, c_isnI, c_isN, c_isI, c_isnL, c_isnT, c_isL, c_isT, o_band, o_shr, len_t0, tup_t, call_8, call_9, call_10, call_11, call_12, rb_ok, rb_bad, rb_exc, ra_ok, ra_bad, ra_exc, ft_nx, ft_rt, ft_bad, ft_xc, List.set_cons_zero, List.set_cons_succ, List.nil_append, List.cons_append, Bool.not_true, Bool.not_false, decide_true, decide_false, eq_self, Int.reduceEq, Bool.false_or, Bool.or_false, Bool.true_or, Bool.or_true, Bool.true_and, Bool.and_true, Bool.false_and, Bool.and_false, Bool.or_self, Bool.and_self, hw2, decide_eq_false hI, hc]
      rw [hb, ft_nx]
      have at9 : (n = 9719 ∨ n = 9721) → z % (n : Int) = 0 := fun h => by
        have t1 : n < r * r := by
          rcases hr with q | q
          · exact q.1
          · exact absurd q.2 (small_odd h r r3 q.1)
        by_cases t : z % (n : Int) = 0
        · exact t
        · exact absurd ⟨t1, by omega, t⟩ hret
      have hn : n ≤ 9719 := by
        rcases Nat.lt_or_ge 9719 n with t | t
        · exfalso
          have e21 : n = 9721 := by omega
          have k1 := h9 t
          have k2 := at9 (.inr e21)
          rw [e21] at k2
          have k3 : z % 9721 = 0 := k2
          omega
        · exact t
      match m, hm with
      | 0, hm => exact absurd hm (by omega)
      | m + 1, hm =>
        exact pf_outer hz hz2 m (n + 2) _ (by omega) (by omega) (by omega) (fun h => by
          have e19 : n = 9719 := by omega
          have k := at9 (.inl e19)
          rw [e19] at k
          exact k)
theorem w_prime_from {z x : Int} (hz : -1000000 ≤ z) (hz2 : z < 0) (hx : 0 ≤ x) (hx2 : x < 9700) : ∃ p : Nat, sem__law_prime_from [.int x, .int z] = .ok (.int p) ∧ Prm p ∧ 3 ≤ p ∧ p ≤ 9721 ∧ p % 2 = 1 ∧ z % (p : Int) ≠ 0 := by
  have hor : Builtin.bitOr x 1 = ((x.toNat + 1 - x.toNat % 2 : Nat) : Int) := by
    rw [bitOr_and, bitAnd_m1]
    omega
  obtain ⟨p, hw, h⟩ := pf_outer hz hz2 9721 (x.toNat + 1 - x.toNat % 2) none (by omega) (by omega) (by omega) (fun t => by omega)
  have hw2 : evS G__law_prime_from (.while_ (.bl true) w2__law_prime_from) [some (.sh (.int (x.toNat + 1 - x.toNat % 2 : Nat))), some (.sh (.int z)), none] = _ := evS_while.trans hw
  have o_bor : op2 .bor (.int x) (.int 1) = .ok (.int (Builtin.bitOr x 1)) := rfl
  refine ⟨p, ?_, h⟩
  show (evSs G__law_prime_from b__law_prime_from [some (.sh _), some (.sh _), none]).ans = _
  unfold b__law_prime_from
  simp (disch := first | exact mulOk_bd | assumption | omega) only [evE_v0, evE_v1, evE_v2, evE_v3, evE_v4, evE_v5, evE_v6, evE_v7, evE_v8, evE_v9, evE_v10, evE_int, evE_bl, evE_non, evE_str, evE_bin, evE_neg, evE_not, evE_cmp, evE_tup, evE_lst, evE_ix, evE_call, evE_bi, evE_sl, evE_isi, andB_t, andB_f, orB_t, orB_f, andB_b, orB_b, evE_and, evE_or, evAnd_one, evOr_one, evAnd_two, evOr_two, evEs_nil, evEs_cons, evSs_nil, evSs_cons, evS_ex, evS_ret, ifB_t, ifB_f, evS_ife, evS_raise, evS_for, seq_t, seq_l, it_seq, ans_nx, ans_rt, ans_xc, forL_nil, forL_cons, ix_t0, ix_t1, ix_t2, ix_t3, o_add, o_sub, o_mul, o_fdiv, o_mod, o_neg, o_not, c_lt, c_le, c_gt, c_ge, c_eq, c_ne, c_eq2, c_ne2, c_eq3, c_ne3, c_is, c_isnot, isi_tt, isi_lt, isi_it, isi_ii, isi_ib, isi_ll, len_t1, len_t2, len_t3, len_t4, len_l, abs_i, tup_l, part_0, part_1, sl_l, call_0, call_1, call_2, call_3, call_4, call_5, call_6, call_7, glob_0, glob_1, glob_2, evE_v11, evE_v12, evE_v13, evE_v14, evE_v15, evE_v16, evE_v17, evE_v18, evE_v19, evE_v20, evS_set0, evS_setL0, evS_set1, evS_setL1, evS_set2, evS_setL2, evS_set3, evS_setL3, evS_set4, evS_setL4, evS_set5, evS_setL5, evS_set6, evS_setL6, evS_set7, evS_setL7, evS_set8, evS_setL8, evS_set9, evS_setL9, evS_set10, evS_setL10, evS_set11, evS_setL11, evS_set12, evS_setL12, evS_set13, evS_setL13, evS_set14, evS_setL14, evS_set15, evS_setL15, evS_set16, evS_setL16, evS_set17, evS_setL17, evS_set18, evS_setL18, evS_set19, evS_setL19, evS_set20, evS_setL20, evS_app0, evS_frz0, evS_frs0, evE_ixo0, evS_aug0, evS_app1, evS_frz1, evS_frs1, evE_ixo1, evS_aug1, evS_app2, evS_frz2, evS_frs2, evE_ixo2, evS_aug2, evS_app3, evS_frz3, evS_frs3, evE_ixo3, evS_aug3, evS_app4, evS_frz4, evS_frs4, evE_ixo4, evS_aug4, evS_app5, evS_frz5, evS_frs5, evE_ixo5, evS_aug5, evS_app6, evS_frz6, evS_frs6, evE_ixo6, evS_aug6, evS_app7, evS_frz7, evS_frs7, evE_ixo7, evS_aug7, evS_app8, evS_frz8, evS_frs8, evE_ixo8, evS_aug8, evS_app9, evS_frz9, evS_frs9, evE_ixo9, evS_aug9, evS_app10, evS_frz10, evS_frs10, evE_ixo10, evS_aug10, evS_app11, evS_frz11, evS_frs11, evE_ixo11, evS_aug11, evS_app12, evS_frz12, evS_frs12, evE_ixo12, evS_aug12, evS_app13, evS_frz13, evS_frs13, evE_ixo13, evS_aug13, evS_app14, evS_frz14, evS_frs14, evE_ixo14, evS_aug14, evS_app15, evS_frz15, evS_frs15, evE_ixo15, evS_aug15, evS_app16, evS_frz16, evS_frs16, evE_ixo16, evS_aug16, evS_pass, evE_ife, ifE_t, ifE_f, it_rng1, it_rng2, c_isnN, c_isnI, c_isN, c_isI, c_isnL, c_isnT, c_isL, c_isT, o_band, o_shr, len_t0, tup_t, call_8, call_9, call_10, call_11, call_12, rb_ok, rb_bad, rb_exc, ra_ok, ra_bad, ra_exc, ft_nx, ft_rt, ft_bad, ft_xc, List.set_cons_zero, List.set_cons_succ, List.nil_append, List.cons_append, Bool.not_true, Bool.not_false, decide_true, decide_false, eq_self, Int.reduceEq, Bool.false_or, Bool.or_false, Bool.true_or, Bool.or_true, Bool.true_and, Bool.and_true, Bool.false_and, Bool.and_false, Bool.or_self, Bool.and_self, o_bor, hor, hw2]
end FT

namespace FT
open PySem PySem.Spec PyProof.Rows L2
theorem v_asked_bar_low (Dd L : Int) (h1 : Dd < 0) (h2 : Dd % 4 ≤ 1) (h3 : L ≤ Dd) : sem_asked_bar [.int Dd, .int L] = .ok (.int Dd) := by
  show (evSs G_asked_bar b_asked_bar [some (.sh _), some (.sh _)]).ans = _
  unfold b_asked_bar G_asked_bar
  simp (disch := first | exact mulOk_bd | assumption | omega) only [evE_v0, evE_v1, evE_v2, evE_v3, evE_v4, evE_v5, evE_v6, evE_v7, evE_v8, evE_v9, evE_v10, evE_int, evE_bl, evE_non, evE_str, evE_bin, evE_neg, evE_not, evE_cmp, evE_tup, evE_lst, evE_ix, evE_call, evE_bi, evE_sl, evE_isi, andB_t, andB_f, orB_t, orB_f, andB_b, orB_b, evE_and, evE_or, evAnd_one, evOr_one, evAnd_two, evOr_two, evEs_nil, evEs_cons, evSs_nil, evSs_cons, evS_ex, evS_ret, ifB_t, ifB_f, evS_ife, evS_raise, evS_for, seq_t, seq_l, it_seq, ans_nx, ans_rt, ans_xc, forL_nil, forL_cons, ix_t0, ix_t1, ix_t2, ix_t3, o_add, o_sub, o_mul, o_fdiv, o_mod, o_neg, o_not, c_lt, c_le, c_gt, c_ge, c_eq, c_ne, c_eq2, c_ne2, c_eq3, c_ne3, c_is, c_isnot, isi_tt, isi_lt, isi_it, isi_ii, isi_ib, isi_ll, len_t1, len_t2, len_t3, len_t4, len_l, abs_i, tup_l, part_0, part_1, sl_l, call_0, call_1, call_2, call_3, call_4, call_5, call_6, call_7, glob_0, glob_1, glob_2, evE_v11, evE_v12, evE_v13, evE_v14, evE_v15, evE_v16, evE_v17, evE_v18, evE_v19, evE_v20, evS_set0, evS_setL0, evS_set1, evS_setL1, evS_set2, evS_setL2, evS_set3, evS_setL3, evS_set4, evS_setL4, evS_set5, evS_setL5, evS_set6, evS_setL6, evS_set7, evS_setL7, evS_set8, evS_setL8, evS_set9, evS_setL9, evS_set10, evS_setL10, evS_set11, evS_setL11, evS_set12, evS_setL12, evS_set13, evS_setL13, evS_set14, evS_setL14, evS_set15, evS_setL15, evS_set16, evS_setL16, evS_set17, evS_setL17, evS_set18, evS_setL18, evS_set19, evS_setL19, evS_set20, evS_setL20, evS_app0, evS_frz0, evS_frs0, evE_ixo0, evS_aug0, evS_app1, evS_frz1, evS_frs1, evE_ixo1, evS_aug1, evS_app2, evS_frz2, evS_frs2, evE_ixo2, evS_aug2, evS_app3, evS_frz3, evS_frs3, evE_ixo3, evS_aug3, evS_app4, evS_frz4, evS_frs4, evE_ixo4, evS_aug4, evS_app5, evS_frz5, evS_frs5, evE_ixo5, evS_aug5, evS_app6, evS_frz6, evS_frs6, evE_ixo6, evS_aug6, evS_app7, evS_frz7, evS_frs7, evE_ixo7, evS_aug7, evS_app8, evS_frz8, evS_frs8, evE_ixo8, evS_aug8, evS_app9, evS_frz9, evS_frs9, evE_ixo9, evS_aug9, evS_app10, evS_frz10, evS_frs10, evE_ixo10, evS_aug10, evS_app11, evS_frz11, evS_frs11, evE_ixo11, evS_aug11, evS_app12, evS_frz12, evS_frs12, evE_ixo12, evS_aug12, evS_app13, evS_frz13, evS_frs13, evE_ixo13, evS_aug13, evS_app14, evS_frz14, evS_frs14, evE_ixo14, evS_aug14, evS_app15, evS_frz15, evS_frs15, evE_ixo15, evS_aug15, evS_app16, evS_frz16, evS_frs16, evE_ixo16, evS_aug16, evS_pass, evE_ife, ifE_t, ifE_f, it_rng1, it_rng2, c_isnN, c_isnI, c_isN, c_isI, c_isnL, c_isnT, c_isL, c_isT, o_band, o_shr, len_t0, tup_t, call_8, call_9, call_10, call_11, call_12, rb_ok, rb_bad, rb_exc, ra_ok, ra_bad, ra_exc, ft_nx, ft_rt, ft_bad, ft_xc, List.set_cons_zero, List.set_cons_succ, List.nil_append, List.cons_append, Bool.not_true, Bool.not_false, decide_true, decide_false, eq_self, Int.reduceEq, Bool.false_or, Bool.or_false, Bool.true_or, Bool.or_true, Bool.true_and, Bool.and_true, Bool.false_and, Bool.and_false, Bool.or_self, Bool.and_self, v_is_whole Dd, bitAnd_m2, decide_eq_false (show ¬ 0 ≤ Dd by omega), decide_eq_false (show ¬ 1 < Dd % 4 by omega), decide_eq_false (show ¬ Dd < L by omega)]
/-- a root mod 4 p -/
theorem root4 {p : Nat} (hp : Prm p) (ho : p % 2 = 1) {z : Int} (hm : z % 4 ≤ 1) {b : Nat} (hb : b < p) (e : b * b % p = rest z p) : ∃ b0 : Nat, b0 < 2 * p ∧ ((b0 : Int) * b0 - z) % (4 * (p : Int)) = 0 := by
  have p1 := hp.1
  obtain ⟨r1, r2⟩ := rest_eq (z := z) (show 0 < p by omega)
  have fin : ∀ b0 : Nat, (b0 : Int) % 2 = z % 2 → b0 * b0 % p = b * b % p → ((b0 : Int) * b0 - z) % (4 * (p : Int)) = 0 := by
    intro b0 k1 k2
    have d4 : (4 : Int) ∣ (b0 : Int) * b0 - z := by
      obtain ⟨q, r, hq, hr⟩ : ∃ q r : Int, (b0 : Int) = 2 * q + r ∧ (r = 0 ∨ r = 1) := ⟨(b0 : Int) / 2, (b0 : Int) % 2, by omega, by omega⟩
      have sq : (b0 : Int) * b0 = 4 * (q * q + q * r) + r * r := by rw [hq]; grind
      rw [sq]
      rcases hr with t | t <;> subst t <;> omega
    have dp : (p : Int) ∣ (b0 : Int) * b0 - z := by
      refine Int.dvd_of_emod_eq_zero ?_
      rw [Int.sub_emod, r1]
      have : ((b0 : Int) * b0) % (p : Int) = (rest z p : Int) := by
        rw [cast_mod, k2, e]
      rw [this, Int.sub_self, Int.zero_emod]
    have cop : Nat.Coprime 4 p := by
      show Nat.gcd 4 p = 1
      rw [Nat.gcd_rec]
      have : p % 4 = 1 ∨ p % 4 = 3 := by omega
      rcases this with t | t <;> rw [t] <;> decide
    have n4 : 4 ∣ ((b0 : Int) * b0 - z).natAbs := by
      have := Int.natAbs_dvd_natAbs.mpr d4
      exact this
    have np : p ∣ ((b0 : Int) * b0 - z).natAbs := by
      have := Int.natAbs_dvd_natAbs.mpr dp
      rwa [Int.natAbs_natCast] at this
    have n4p := cop.mul_dvd_of_dvd_of_dvd n4 np
    have : ((4 * p : Nat) : Int) ∣ (b0 : Int) * b0 - z := Int.ofNat_dvd_left.mpr n4p
    rw [Int.natCast_mul] at this
    exact Int.emod_eq_zero_of_dvd this
  by_cases t : (b : Int) % 2 = z % 2
  · exact ⟨b, by omega, fin b t rfl⟩
  · refine ⟨b + p, by omega, fin (b + p) (by omega) ?_⟩
    have : (b + p) * (b + p) = b * b + p * (2 * b + p) := by grind
    rw [this, Nat.add_mul_mod_self_left]
theorem v_prime_told {p : Nat} (hp : Prm p) (h3 : 3 ≤ p) (h9 : p ≤ 9721) (ho : p % 2 = 1) {z : Int} (hz : -1000000 ≤ z) (hz2 : z < 0) (hm : z % 4 ≤ 1) (hd : z % (p : Int) ≠ 0) :
    (rest z p ^ (p / 2) % p ≠ 1 ∧ sem_prime_told [.int z, .int p] = .ok (.tuple [.bool false])) ∨
    (rest z p ^ (p / 2) % p = 1 ∧ ∃ A B C x y, sem_prime_told [.int z, .int p] = .ok (.tuple [.bool true, (PyData.tuple [PyData.int A, PyData.int B, PyData.int C]), (PyData.tuple [PyData.int x, PyData.int y])]) ∧ Least A B C ∧ 0 < A ∧ B * B - 4 * A * C = z ∧ A * x * x + B * x * y + C * y * y = p ∧ Bd 300 A ∧ Bd 300 B ∧ Bd 300 C ∧ Bd 700 x ∧ Bd 700 y) := by
  obtain ⟨r1, r2⟩ := rest_eq (z := z) (show 0 < p by omega)
  have Bz : Bd 20 z := Bd.of_lt (by have : (2 : Int) ^ 20 = 1048576 := by decide +kernel
                                    omega) (by have : (2 : Int) ^ 20 = 1048576 := by decide +kernel
                                               omega)
  have ab := v_asked_bar_low z (-1000000) hz2 hm hz
  have ap := v_asked_prime hp h3 (by omega) z hd
  have so := v_side_of (p := p) (by omega) (by omega) z
  have hr0 : rest z p % p ≠ 0 := by
    rw [Nat.mod_eq_of_lt r2]
    omega
  have E := euler hp (a := rest z p) (n := p / 2) (by omega) hr0
  show _ ∨ (_ ∧ ∃ A B C x y, (evSs G_prime_told b_prime_told [some (.sh _), some (.sh _), none, none]).ans = _ ∧ _)
  rcases E with ⟨e1, b, b1, b2, hb⟩ | ⟨e1, _⟩
  · right
    refine ⟨e1, ?_⟩
    rw [if_neg (by omega), e1] at so
    rw [Nat.mod_eq_of_lt r2] at hb
    obtain ⟨b0, c1, c2⟩ := root4 hp ho hm b2 hb
    obtain ⟨b', er, d1, d2⟩ := v_root_by h3 (by omega) z Bz (by omega) c1 c2
    have Bp := nat_bd (show p < 10001 by omega) (by decide)
    have Bb : Bd 15 (b' : Int) := ⟨by
      have : (2 : Nat) ^ 15 = 32768 := by decide
      omega⟩
    obtain ⟨c, hc⟩ : ∃ c, ((b' : Int) * b' - z) / (4 * (p : Int)) = c := ⟨_, rfl⟩
    have Bc : Bd 100 c := by rw [← hc]; exact Bd.get
    have bar : (b' : Int) * b' - 4 * (p : Int) * c = z := by
      have := Int.emod_add_mul_ediv ((b' : Int) * b' - z) (4 * (p : Int))
      rw [hc, d2] at this
      omega
    have pp : (0 : Int) < (p : Int) := by omega
    obtain ⟨A, B, C, p1, q1, s1, w1, el, M, hl, T1, T2, T3, T4, T5, T6, T7⟩ := v_least_of (p : Int) b' c pp (by omega) (n := 300) (Bp.up (by omega)) (Bb.up (by omega)) (Bc.up (by omega)) (by omega)
    have pA := (M.pos pp (by omega)).1
    have mb := M.back.e1
    refine ⟨A, B, C, w1, -s1, ?_, hl, pA, M.bar.trans bar, mb, T1, T2, T3, T7.up (by omega), Bd.up (n := 3 + 300 + 300) (@Bd.neg _ _ T6) (by omega)⟩
    unfold b_prime_told G_prime_told
    have z4 : divOk (4 * (p : Int)) = true := divOk_bd (by omega)
    simp (disch := first | exact mulOk_bd | assumption | omega) only [evE_v0, evE_v1, evE_v2, evE_v3, evE_v4, evE_v5, evE_v6, evE_v7, evE_v8, evE_v9, evE_v10, evE_int, evE_bl, evE_non, evE_str, evE_bin, evE_neg, evE_not, evE_cmp, evE_tup, evE_lst, evE_ix, evE_call, evE_bi, evE_sl, evE_isi, andB_t, andB_f, orB_t, orB_f, andB_b, orB_b, evE_and, evE_or, evAnd_one, evOr_one, evAnd_two, evOr_two, evEs_nil, evEs_cons, evSs_nil, evSs_cons, evS_ex, evS_ret, ifB_t, ifB_f, evS_ife, evS_raise, evS_for, seq_t, seq_l, it_seq, ans_nx, ans_rt, ans_xc, forL_nil, forL_cons, ix_t0, ix_t1, ix_t2, ix_t3, o_add, o_sub, o_mul, o_fdiv, o_mod, o_neg, o_not, c_lt, c_le, c_gt, c_ge, c_eq, c_ne, c_eq2, c_ne2, c_eq3, c_ne3, c_is, c_isnot, isi_tt, isi_lt, isi_it, isi_ii, isi_ib, isi_ll, len_t1, len_t2, len_t3, len_t4, len_l, abs_i, tup_l, part_0, part_1, sl_l, call_0, call_1, call_2, call_3, call_4, call_5, call_6, call_7, glob_0, glob_1, glob_2, evE_v11, evE_v12, evE_v13, evE_v14, evE_v15, evE_v16, evE_v17, evE_v18, evE_v19, evE_v20, evS_set0, evS_setL0, evS_set1, evS_setL1, evS_set2, evS_setL2, evS_set3, evS_setL3, evS_set4, evS_setL4, evS_set5, evS_setL5, evS_set6, evS_setL6, evS_set7, evS_setL7, evS_set8, evS_setL8, evS_set9, evS_setL9, evS_set10, evS_setL10, evS_set11, evS_setL11, evS_set12, evS_setL12, evS_set13, evS_setL13, evS_set14, evS_setL14, evS_set15, evS_setL15, evS_set16, evS_setL16, evS_set17, evS_setL17, evS_set18, evS_setL18, evS_set19, evS_setL19, evS_set20, evS_setL20, evS_app0, evS_frz0, evS_frs0, evE_ixo0, evS_aug0, evS_app1, evS_frz1, evS_frs1, evE_ixo1, evS_aug1, evS_app2, evS_frz2, evS_frs2, evE_ixo2, evS_aug2, evS_app3, evS_frz3, evS_frs3, evE_ixo3, evS_aug3, evS_app4, evS_frz4, evS_frs4, evE_ixo4, evS_aug4, evS_app5, evS_frz5, evS_frs5, evE_ixo5, evS_aug5, evS_app6, evS_frz6, evS_frs6, evE_ixo6, evS_aug6, evS_app7, evS_frz7, evS_frs7, evE_ixo7, evS_aug7, evS_app8, evS_frz8, evS_frs8, evE_ixo8, evS_aug8, evS_app9, evS_frz9, evS_frs9, evE_ixo9, evS_aug9, evS_app10, evS_frz10, evS_frs10, evE_ixo10, evS_aug10, evS_app11, evS_frz11, evS_frs11, evE_ixo11, evS_aug11, evS_app12, evS_frz12, evS_frs12, evE_ixo12, evS_aug12, evS_app13, evS_frz13, evS_frs13, evE_ixo13, evS_aug13, evS_app14, evS_frz14, evS_frs14, evE_ixo14, evS_aug14, evS_app15, evS_frz15, evS_frs15, evE_ixo15, evS_aug15, evS_app16, evS_frz16, evS_frs16, evE_ixo16, evS_aug16, evS_pass, evE_ife, ifE_t, ifE_f, it_rng1, it_rng2, c_isnN, c_isnI, c_isN, c_isI, c_isnL, c_isnT, c_isL, c_isT, o_band, o_shr, len_t0, tup_t, call_8, call_9, call_10, call_11, call_12, rb_ok, rb_bad, rb_exc, ra_ok, ra_bad, ra_exc, ft_nx, ft_rt, ft_bad, ft_xc, List.set_cons_zero, List.set_cons_succ, List.nil_append, List.cons_append, Bool.not_true, Bool.not_false, decide_true, decide_false, eq_self, Int.reduceEq, Bool.false_or, Bool.or_false, Bool.true_or, Bool.or_true, Bool.true_and, Bool.and_true, Bool.false_and, Bool.and_false, Bool.or_self, Bool.and_self, ab, ap, so, show decide (((1 : Nat) : Int) = -1) = false from rfl, er, o_fdiv z4, hc, el]
  · left
    refine ⟨by omega, ?_⟩
    rw [if_pos e1] at so
    show (evSs G_prime_told b_prime_told [some (.sh _), some (.sh _), none, none]).ans = _
    unfold b_prime_told G_prime_told
    simp (disch := first | exact mulOk_bd | assumption | omega) only [evE_v0, evE_v1, evE_v2, evE_v3, evE_v4, evE_v5, evE_v6, evE_v7, evE_v8, evE_v9, evE_v10, evE_int, evE_bl, evE_non, evE_str, evE_bin, evE_neg, evE_not, evE_cmp, evE_tup, evE_lst, evE_ix, evE_call, evE_bi, evE_sl, evE_isi, andB_t, andB_f, orB_t, orB_f, andB_b, orB_b, evE_and, evE_or, evAnd_one, evOr_one, evAnd_two, evOr_two, evEs_nil, evEs_cons, evSs_nil, evSs_cons, evS_ex, evS_ret, ifB_t, ifB_f, evS_ife, evS_raise, evS_for, seq_t, seq_l, it_seq, ans_nx, ans_rt, ans_xc, forL_nil, forL_cons, ix_t0, ix_t1, ix_t2, ix_t3, o_add, o_sub, o_mul, o_fdiv, o_mod, o_neg, o_not, c_lt, c_le, c_gt, c_ge, c_eq, c_ne, c_eq2, c_ne2, c_eq3, c_ne3, c_is, c_isnot, isi_tt, isi_lt, isi_it, isi_ii, isi_ib, isi_ll, len_t1, len_t2, len_t3, len_t4, len_l, abs_i, tup_l, part_0, part_1, sl_l, call_0, call_1, call_2, call_3, call_4, call_5, call_6, call_7, glob_0, glob_1, glob_2, evE_v11, evE_v12, evE_v13, evE_v14, evE_v15, evE_v16, evE_v17, evE_v18, evE_v19, evE_v20, evS_set0, evS_setL0, evS_set1, evS_setL1, evS_set2, evS_setL2, evS_set3, evS_setL3, evS_set4, evS_setL4, evS_set5, evS_setL5, evS_set6, evS_setL6, evS_set7, evS_setL7, evS_set8, evS_setL8, evS_set9, evS_setL9, evS_set10, evS_setL10, evS_set11, evS_setL11, evS_set12, evS_setL12, evS_set13, evS_setL13, evS_set14, evS_setL14, evS_set15, evS_setL15, evS_set16, evS_setL16, evS_set17, evS_setL17, evS_set18, evS_setL18, evS_set19, evS_setL19, evS_set20, evS_setL20, evS_app0, evS_frz0, evS_frs0, evE_ixo0, evS_aug0, evS_app1, evS_frz1, evS_frs1, evE_ixo1, evS_aug1, evS_app2, evS_frz2, evS_frs2, evE_ixo2, evS_aug2, evS_app3, evS_frz3, evS_frs3, evE_ixo3, evS_aug3, evS_app4, evS_frz4, evS_frs4, evE_ixo4, evS_aug4, evS_app5, evS_frz5, evS_frs5, evE_ixo5, evS_aug5, evS_app6, evS_frz6, evS_frs6, evE_ixo6, evS_aug6, evS_app7, evS_frz7, evS_frs7, evE_ixo7, evS_aug7, evS_app8, evS_frz8, evS_frs8, evE_ixo8, evS_aug8, evS_app9, evS_frz9, evS_frs9, evE_ixo9, evS_aug9, evS_app10, evS_frz10, evS_frs10, evE_ixo10, evS_aug10, evS_app11, evS_frz11, evS_frs11, evE_ixo11, evS_aug11, evS_app12, evS_frz12, evS_frs12, evE_ixo12, evS_aug12, evS_app13, evS_frz13, evS_frs13, evE_ixo13, evS_aug13, evS_app14, evS_frz14, evS_frs14, evE_ixo14, evS_aug14, evS_app15, evS_frz15, evS_frs15, evE_ixo15, evS_aug15, evS_app16, evS_frz16, evS_frs16, evE_ixo16, evS_aug16, evS_pass, evE_ife, ifE_t, ifE_f, it_rng1, it_rng2, c_isnN, c_isnI, c_isN, c_isI, c_isnL, c_isnT, c_isL, c_isT, o_band, o_shr, len_t0, tup_t, call_8, call_9, call_10, call_11, call_12, rb_ok, rb_bad, rb_exc, ra_ok, ra_bad, ra_exc, ft_nx, ft_rt, ft_bad, ft_xc, List.set_cons_zero, List.set_cons_succ, List.nil_append, List.cons_append, Bool.not_true, Bool.not_false, decide_true, decide_false, eq_self, Int.reduceEq, Bool.false_or, Bool.or_false, Bool.true_or, Bool.or_true, Bool.true_and, Bool.and_true, Bool.false_and, Bool.and_false, Bool.or_self, Bool.and_self, ab, ap, so]
end FT

namespace FT
open PySem PySem.Spec PyProof.Rows L2

/-! ### the law as the small language -/
def b_law : List Sm := [.set 1 (.bin .add (.int 1) (.bin .mod (.call 0 (.v 0) [.int 0]) (.int 30))),
  .set 2 (.bin .sub (.v 1) (.bin .mod (.call 0 (.v 0) [.int 1]) (.bin .mul (.int 2) (.v 1)))),
  .set 3 (.int 4000),
  .ife (.cmp .eq (.bin .mod (.call 0 (.v 0) [.int 5]) (.int 4)) (.int 1)) [.set 3 (.int 1000000)] [],
  .set 4 (.bin .add (.v 1) (.bin .mod (.bin .mul (.call 0 (.v 0) [.int 2]) (.int 48271)) (.bin .add (.bin .sub (.bin .fdiv (.bin .add (.v 3) (.bin .mul (.v 2) (.v 2))) (.bin .mul (.int 4) (.v 1))) (.v 1)) (.int 1)))),
  .set 5 (.bin .sub (.bin .mul (.v 2) (.v 2)) (.bin .mul (.bin .mul (.int 4) (.v 1)) (.v 4))),
  .set 6 (.call 1 (.bin .mod (.bin .mul (.call 0 (.v 0) [.int 3]) (.int 48271)) (.int 9700)) [.v 5]),
  .ife (.cmp .eq (.bin .mod (.call 0 (.v 0) [.int 4]) (.int 2)) (.int 1)) [.set 6 (.call 1 (.bin .mod (.call 0 (.v 0) [.int 3]) (.int 90)) [.v 5])] [],
  .set 7 (.call 2 (.v 5) [.v 6]),
  .ife (.or (.not (.isi (.v 7) .tuple)) [.cmp .eq (.bi .len (.v 7) []) (.int 0)]) [.ret (.bl false)] [],
  .ife (.not (.call 3 (.v 5) [.v 6])) [.ret (.and (.cmp .eq (.bi .len (.v 7) []) (.int 1)) [.cmp .is (.ix (.v 7) (.int 0)) (.bl false)])] [],
  .ife (.or (.cmp .ne (.bi .len (.v 7) []) (.int 3)) [.cmp .isnot (.ix (.v 7) (.int 0)) (.bl true), .not (.call 4 (.ix (.v 7) (.int 1)) []), .not (.call 5 (.ix (.v 7) (.int 2)) [.int 2])]) [.ret (.bl false)] [],
  .set 8 (.ix (.v 7) (.int 1)),
  .ret (.and (.cmp .eq (.bin .sub (.bin .mul (.ix (.v 8) (.int 1)) (.ix (.v 8) (.int 1))) (.bin .mul (.bin .mul (.int 4) (.ix (.v 8) (.int 0))) (.ix (.v 8) (.int 2)))) (.v 5)) [.cmp .eq (.call 6 (.v 8) [.ix (.v 7) (.int 2)]) (.v 6)])]
noncomputable def G_law : Ge := ⟨[sem__law_cell_at, sem__law_prime_from, sem_prime_told, sem__law_side, sem__law_good, sem__law_ints, sem__law_worth], []⟩
noncomputable def sem_law : List D → R D := evF G_law 1 9 b_law

theorem law_true : ∀ ns : List Int, ns.length ≤ 63 → (∀ z ∈ ns, Builtin.Int.intBits z ≤ 1048576) → sem_law [.list (ns.map .int)] = .ok (.bool true) := by
  intro ns hl hb
  have hs := small_of hb
  have c0 : sem__law_cell_at [.list (ns.map .int), .int 0] = _ := w_cell ns 0
  have c1 : sem__law_cell_at [.list (ns.map .int), .int 1] = _ := w_cell ns 1
  have c2 : sem__law_cell_at [.list (ns.map .int), .int 2] = _ := w_cell ns 2
  have c3 : sem__law_cell_at [.list (ns.map .int), .int 3] = _ := w_cell ns 3
  have c4 : sem__law_cell_at [.list (ns.map .int), .int 4] = _ := w_cell ns 4
  have c5 : sem__law_cell_at [.list (ns.map .int), .int 5] = _ := w_cell ns 5
  have s2 := (small_cell hs 2).up (show 1048577 ≤ 1048580 by decide)
  have s3 := (small_cell hs 3).up (show 1048577 ≤ 1048580 by decide)
  generalize cell ns 0 = x0 at *
  generalize cell ns 1 = x1 at *
  generalize cell ns 2 = x2 at *
  generalize cell ns 3 = x3 at *
  generalize cell ns 4 = x4 at *
  generalize cell ns 5 = x5 at *
  obtain ⟨a, ea⟩ : ∃ a, 1 + x0 % 30 = a := ⟨_, rfl⟩
  have a1 : 1 ≤ a := by omega
  have a2 : a ≤ 30 := by omega
  obtain ⟨b, eb⟩ : ∃ b, a - x1 % (2 * a) = b := ⟨_, rfl⟩
  have r1 := Int.emod_nonneg x1 (show 2 * a ≠ 0 by omega)
  have r2 := Int.emod_lt_of_pos x1 (show 0 < 2 * a by omega)
  have Ba : Bd 6 a := Bd.of_lt (by omega) (by omega)
  have Bb : Bd 6 b := Bd.of_lt (by omega) (by omega)
  have aa : a * a ≤ 30 * 30 := Int.mul_le_mul a2 a2 (by omega) (by decide)
  have bb0 := sq_nonneg b
  have bb : b * b ≤ a * a := by
    have : (b.natAbs : Int) * b.natAbs ≤ a * a := Int.mul_le_mul (by omega) (by omega) (by omega) (by omega)
    rwa [Int.natAbs_mul_self'] at this
  have apos : 0 < a * a := Int.mul_pos (by omega) (by omega)
  obtain ⟨L, hL1, hL2, T5⟩ : ∃ L : Int, 4000 ≤ L ∧ L ≤ 1000000 ∧ ((decide (x5 % 4 = 1) = true ∧ L = 1000000) ∨ (decide (x5 % 4 = 1) = false ∧ L = 4000)) := by
    by_cases t : x5 % 4 = 1
    · exact ⟨1000000, by decide, by decide, .inl ⟨decide_eq_true t, rfl⟩⟩
    · exact ⟨4000, by decide, by decide, .inr ⟨decide_eq_false t, rfl⟩⟩
  obtain ⟨Q, hQ⟩ : ∃ Q, (L + b * b) / (4 * a) = Q := ⟨_, rfl⟩
  have q1 := Int.emod_add_mul_ediv (L + b * b) (4 * a)
  have q2 := Int.emod_nonneg (L + b * b) (show 4 * a ≠ 0 by omega)
  have q3 := Int.emod_lt_of_pos (L + b * b) (show 0 < 4 * a by omega)
  rw [hQ] at q1
  have hQa : a ≤ Q := by
    rcases Int.lt_or_le Q a with t | t
    · have : 4 * a * Q ≤ 4 * a * (a - 1) := Int.mul_le_mul_of_nonneg_left (by omega) (by omega)
      have e : 4 * a * (a - 1) = 4 * (a * a) - 4 * a := by grind
      omega
    · exact t
  have hm0 : 0 < Q - a + 1 := by omega
  obtain ⟨c, ec⟩ : ∃ c, a + x2 * 48271 % (Q - a + 1) = c := ⟨_, rfl⟩
  have m1 := Int.emod_nonneg (x2 * 48271) (show Q - a + 1 ≠ 0 by omega)
  have m2 := Int.emod_lt_of_pos (x2 * 48271) hm0
  have cQ : 4 * a * c ≤ 4 * a * Q := Int.mul_le_mul_of_nonneg_left (by omega) (by omega)
  have ca : 4 * a * a ≤ 4 * a * c := Int.mul_le_mul_of_nonneg_left (by omega) (by omega)
  have e4 : 4 * a * a = 4 * (a * a) := by grind
  obtain ⟨z, ez⟩ : ∃ z, b * b - 4 * a * c = z := ⟨_, rfl⟩
  have hz : -1000000 ≤ z := by omega
  have hz2 : z < 0 := by omega
  have hm := (bar_mod a b c).1
  rw [ez] at hm
  have cle : c ≤ 1001000 := by
    have : 1 * c ≤ a * c := Int.mul_le_mul_of_nonneg_right a1 (by omega)
    have e5 : 4 * a * c = 4 * (a * c) := by grind
    omega
  have Bc : Bd 21 c := Bd.of_lt (by have : (2 : Int) ^ 21 = 2097152 := by decide +kernel
                                    omega) (by have : (2 : Int) ^ 21 = 2097152 := by decide +kernel
                                               omega)
  obtain ⟨p0, f0, _⟩ := w_prime_from (z := z) (x := x3 * 48271 % 9700) hz hz2 (Int.emod_nonneg _ (by decide)) (Int.emod_lt_of_pos _ (by decide))
  obtain ⟨p1, f1, g1⟩ := w_prime_from (z := z) (x := x3 % 90) hz hz2 (Int.emod_nonneg _ (by decide)) (by have := Int.emod_lt_of_pos x3 (show (0 : Int) < 90 by decide); omega)
  obtain ⟨p, T4, P1, P2, P3, P4, P5⟩ : ∃ p, ((decide (x4 % 2 = 1) = true ∧ p = p1) ∨ (decide (x4 % 2 = 1) = false ∧ p = p0)) ∧ Prm p ∧ 3 ≤ p ∧ p ≤ 9721 ∧ p % 2 = 1 ∧ z % (p : Int) ≠ 0 := by
    by_cases t : x4 % 2 = 1
    · exact ⟨p1, .inl ⟨decide_eq_true t, rfl⟩, g1⟩
    · exact ⟨p0, .inr ⟨decide_eq_false t, rfl⟩, by assumption⟩
  have V := v_prime_told P1 P2 P3 P4 hz hz2 hm P5
  have W := w_side (p := p) (by omega) (by omega) z
  have z4 : divOk (4 * a) = true := divOk_bd (by omega)
  have n16 : Bd 16 48271 := ⟨by decide⟩
  have mm2a := fun i => o_mod (i := i) (show 0 < 2 * a by omega)
  have mmq := fun i => o_mod (i := i) hm0
  have m30 := fun i => o_mod (i := i) (show (0 : Int) < 30 by decide)
  have m4 := fun i => o_mod (i := i) (show (0 : Int) < 4 by decide)
  have mm2 := fun i => o_mod (i := i) (show (0 : Int) < 2 by decide)
  have m97 := fun i => o_mod (i := i) (show (0 : Int) < 9700 by decide)
  have m90 := fun i => o_mod (i := i) (show (0 : Int) < 90 by decide)
  show (evSs G_law b_law [some (.sh _), none, none, none, none, none, none, none, none]).ans = _
  rcases V with ⟨v1, v2⟩ | ⟨v1, A, B, C, x, y, v2, hl2, pA, hbar, hw, T1, T2, T3, T6, T7⟩
  · rw [decide_eq_false v1] at W
    unfold b_law G_law
    rcases T5 with ⟨t5, rfl⟩ | ⟨t5, rfl⟩ <;> rcases T4 with ⟨t4, rfl⟩ | ⟨t4, rfl⟩ <;>
    simp (disch := first | exact mulOk_bd | assumption | omega) only [evE_v0, evE_v1, evE_v2, evE_v3, evE_v4, evE_v5, evE_v6, evE_v7, evE_v8, evE_v9, evE_v10, evE_int, evE_bl, evE_non, evE_str, evE_bin, evE_neg, evE_not, evE_cmp, evE_tup, evE_lst, evE_ix, evE_call, evE_bi, evE_sl, evE_isi, andB_t, andB_f, orB_t, orB_f, andB_b, orB_b, evE_and, evE_or, evAnd_one, evOr_one, evAnd_two, evOr_two, evEs_nil, evEs_cons, evSs_nil, evSs_cons, evS_ex, evS_ret, ifB_t, ifB_f, evS_ife, evS_raise, evS_for, seq_t, seq_l, it_seq, ans_nx, ans_rt, ans_xc, forL_nil, forL_cons, ix_t0, ix_t1, ix_t2, ix_t3, o_add, o_sub, o_mul, o_fdiv, o_mod, o_neg, o_not, c_lt, c_le, c_gt, c_ge, c_eq, c_ne, c_eq2, c_ne2, c_eq3, c_ne3, c_is, c_isnot, isi_tt, isi_lt, isi_it, isi_ii, isi_ib, isi_ll, len_t1, len_t2, len_t3, len_t4, len_l, abs_i, tup_l, part_0, part_1, sl_l, call_0, call_1, call_2, call_3, call_4, call_5, call_6, call_7, glob_0, glob_1, glob_2, evE_v11, evE_v12, evE_v13, evE_v14, evE_v15, evE_v16, evE_v17, evE_v18, evE_v19, evE_v20, evS_set0, evS_setL0, evS_set1, evS_setL1, evS_set2, evS_setL2, evS_set3, evS_setL3, evS_set4, evS_setL4, evS_set5, evS_setL5, evS_set6, evS_setL6, evS_set7, evS_setL7, evS_set8, evS_setL8, evS_set9, evS_setL9, evS_set10, evS_setL10, evS_set11, evS_setL11, evS_set12, evS_setL12, evS_set13, evS_setL13, evS_set14, evS_setL14, evS_set15, evS_setL15, evS_set16, evS_setL16, evS_set17, evS_setL17, evS_set18, evS_setL18, evS_set19, evS_setL19, evS_set20, evS_setL20, evS_app0, evS_frz0, evS_frs0, evE_ixo0, evS_aug0, evS_app1, evS_frz1, evS_frs1, evE_ixo1, evS_aug1, evS_app2, evS_frz2, evS_frs2, evE_ixo2, evS_aug2, evS_app3, evS_frz3, evS_frs3, evE_ixo3, evS_aug3, evS_app4, evS_frz4, evS_frs4, evE_ixo4, evS_aug4, evS_app5, evS_frz5, evS_frs5, evE_ixo5, evS_aug5, evS_app6, evS_frz6, evS_frs6, evE_ixo6, evS_aug6, evS_app7, evS_frz7, evS_frs7, evE_ixo7, evS_aug7, evS_app8, evS_frz8, evS_frs8, evE_ixo8, evS_aug8, evS_app9, evS_frz9, evS_frs9, evE_ixo9, evS_aug9, evS_app10, evS_frz10, evS_frs10, evE_ixo10, evS_aug10, evS_app11, evS_frz11, evS_frs11, evE_ixo11, evS_aug11, evS_app12, evS_frz12, evS_frs12, evE_ixo12, evS_aug12, evS_app13, evS_frz13, evS_frs13, evE_ixo13, evS_aug13, evS_app14, evS_frz14, evS_frs14, evE_ixo14, evS_aug14, evS_app15, evS_frz15, evS_frs15, evE_ixo15, evS_aug15, evS_app16, evS_frz16, evS_frs16, evE_ixo16, evS_aug16, evS_pass, evE_ife, ifE_t, ifE_f, it_rng1, it_rng2, c_isnN, c_isnI, c_isN, c_isI, c_isnL, c_isnT, c_isL, c_isT, o_band, o_shr, len_t0, tup_t, call_8, call_9, call_10, call_11, call_12, rb_ok, rb_bad, rb_exc, ra_ok, ra_bad, ra_exc, ft_nx, ft_rt, ft_bad, ft_xc, List.set_cons_zero, List.set_cons_succ, List.nil_append, List.cons_append, Bool.not_true, Bool.not_false, decide_true, decide_false, eq_self, Int.reduceEq, Bool.false_or, Bool.or_false, Bool.true_or, Bool.or_true, Bool.true_and, Bool.and_true, Bool.false_and, Bool.and_false, Bool.or_self, Bool.and_self, c0, c1, c2, c3, c4, c5, m30, m4, mm2, m97, m90, mm2a, mmq, ea, eb, ec, ez, hQ, o_fdiv z4, t5, t4, f0, f1, v2, W, show decide ((1 : Int) = 0) = false from rfl]
  · rw [decide_eq_true v1] at W
    have G := w_good A B C pA
    rw [decide_eq_true hl2] at G
    have X := w_worth A B C x y (by omega)
    rw [hw] at X
    unfold b_law G_law
    rcases T5 with ⟨t5, rfl⟩ | ⟨t5, rfl⟩ <;> rcases T4 with ⟨t4, rfl⟩ | ⟨t4, rfl⟩ <;>
    simp (disch := first | exact mulOk_bd | assumption | omega) only [evE_v0, evE_v1, evE_v2, evE_v3, evE_v4, evE_v5, evE_v6, evE_v7, evE_v8, evE_v9, evE_v10, evE_int, evE_bl, evE_non, evE_str, evE_bin, evE_neg, evE_not, evE_cmp, evE_tup, evE_lst, evE_ix, evE_call, evE_bi, evE_sl, evE_isi, andB_t, andB_f, orB_t, orB_f, andB_b, orB_b, evE_and, evE_or, evAnd_one, evOr_one, evAnd_two, evOr_two, evEs_nil, evEs_cons, evSs_nil, evSs_cons, evS_ex, evS_ret, ifB_t, ifB_f, evS_ife, evS_raise, evS_for, seq_t, seq_l, it_seq, ans_nx, ans_rt, ans_xc, forL_nil, forL_cons, ix_t0, ix_t1, ix_t2, ix_t3, o_add, o_sub, o_mul, o_fdiv, o_mod, o_neg, o_not, c_lt, c_le, c_gt, c_ge, c_eq, c_ne, c_eq2, c_ne2, c_eq3, c_ne3, c_is, c_isnot, isi_tt, isi_lt, isi_it, isi_ii, isi_ib, isi_ll, len_t1, len_t2, len_t3, len_t4, len_l, abs_i, tup_l, part_0, part_1, sl_l, call_0, call_1, call_2, call_3, call_4, call_5, call_6, call_7, glob_0, glob_1, glob_2, evE_v11, evE_v12, evE_v13, evE_v14, evE_v15, evE_v16, evE_v17, evE_v18, evE_v19, evE_v20, evS_set0, evS_setL0, evS_set1, evS_setL1, evS_set2, evS_setL2, evS_set3, evS_setL3, evS_set4, evS_setL4, evS_set5, evS_setL5, evS_set6, evS_setL6, evS_set7, evS_setL7, evS_set8, evS_setL8, evS_set9, evS_setL9, evS_set10, evS_setL10, evS_set11, evS_setL11, evS_set12, evS_setL12, evS_set13, evS_setL13, evS_set14, evS_setL14, evS_set15, evS_setL15, evS_set16, evS_setL16, evS_set17, evS_setL17, evS_set18, evS_setL18, evS_set19, evS_setL19, evS_set20, evS_setL20, evS_app0, evS_frz0, evS_frs0, evE_ixo0, evS_aug0, evS_app1, evS_frz1, evS_frs1, evE_ixo1, evS_aug1, evS_app2, evS_frz2, evS_frs2, evE_ixo2, evS_aug2, evS_app3, evS_frz3, evS_frs3, evE_ixo3, evS_aug3, evS_app4, evS_frz4, evS_frs4, evE_ixo4, evS_aug4, evS_app5, evS_frz5, evS_frs5, evE_ixo5, evS_aug5, evS_app6, evS_frz6, evS_frs6, evE_ixo6, evS_aug6, evS_app7, evS_frz7, evS_frs7, evE_ixo7, evS_aug7, evS_app8, evS_frz8, evS_frs8, evE_ixo8, evS_aug8, evS_app9, evS_frz9, evS_frs9, evE_ixo9, evS_aug9, evS_app10, evS_frz10, evS_frs10, evE_ixo10, evS_aug10, evS_app11, evS_frz11, evS_frs11, evE_ixo11, evS_aug11, evS_app12, evS_frz12, evS_frs12, evE_ixo12, evS_aug12, evS_app13, evS_frz13, evS_frs13, evE_ixo13, evS_aug13, evS_app14, evS_frz14, evS_frs14, evE_ixo14, evS_aug14, evS_app15, evS_frz15, evS_frs15, evE_ixo15, evS_aug15, evS_app16, evS_frz16, evS_frs16, evE_ixo16, evS_aug16, evS_pass, evE_ife, ifE_t, ifE_f, it_rng1, it_rng2, c_isnN, c_isnI, c_isN, c_isI, c_isnL, c_isnT, c_isL, c_isT, o_band, o_shr, len_t0, tup_t, call_8, call_9, call_10, call_11, call_12, rb_ok, rb_bad, rb_exc, ra_ok, ra_bad, ra_exc, ft_nx, ft_rt, ft_bad, ft_xc, List.set_cons_zero, List.set_cons_succ, List.nil_append, List.cons_append, Bool.not_true, Bool.not_false, decide_true, decide_false, eq_self, Int.reduceEq, Bool.false_or, Bool.or_false, Bool.true_or, Bool.or_true, Bool.true_and, Bool.and_true, Bool.false_and, Bool.and_false, Bool.or_self, Bool.and_self, c0, c1, c2, c3, c4, c5, m30, m4, mm2, m97, m90, mm2a, mmq, ea, eb, ec, ez, hQ, o_fdiv z4, t5, t4, f0, f1, v2, W, show decide ((3 : Int) = 0) = false from rfl, w_ints2, G, X, hbar]

/-! ### the text -/
def top (i : Nat) : Stmt := PySem.Challenge.pw_formturn_k18_primes_told.main.body.getD i (.Pass ⟨0, 0, 0, 0⟩)
abbrev s_is_whole : Stmt := top 8
def d_is_whole : He.DefD := ⟨("is_whole", none), "is_whole", "is_whole", defArgs s_is_whole, defBody s_is_whole, defScope s_is_whole, [], []⟩
abbrev s_left_of_power : Stmt := top 9
def d_left_of_power : He.DefD := ⟨("left_of_power", none), "left_of_power", "left_of_power", defArgs s_left_of_power, defBody s_left_of_power, defScope s_left_of_power, [], []⟩
abbrev s_primes_of : Stmt := top 10
def d_primes_of : He.DefD := ⟨("primes_of", none), "primes_of", "primes_of", defArgs s_primes_of, defBody s_primes_of, defScope s_primes_of, [], []⟩
abbrev s_side_of : Stmt := top 11
def d_side_of : He.DefD := ⟨("side_of", none), "side_of", "side_of", defArgs s_side_of, defBody s_side_of, defScope s_side_of, [], []⟩
abbrev s_is_form : Stmt := top 13
def d_is_form : He.DefD := ⟨("is_form", none), "is_form", "is_form", defArgs s_is_form, defBody s_is_form, defScope s_is_form, [], []⟩
abbrev s_asked_form : Stmt := top 14
def d_asked_form : He.DefD := ⟨("asked_form", none), "asked_form", "asked_form", defArgs s_asked_form, defBody s_asked_form, defScope s_asked_form, [], []⟩
abbrev s_asked_turning : Stmt := top 16
def d_asked_turning : He.DefD := ⟨("asked_turning", none), "asked_turning", "asked_turning", defArgs s_asked_turning, defBody s_asked_turning, defScope s_asked_turning, [], []⟩
abbrev s_turned : Stmt := top 17
def d_turned : He.DefD := ⟨("turned", none), "turned", "turned", defArgs s_turned, defBody s_turned, defScope s_turned, [], []⟩
abbrev s_behind : Stmt := top 18
def d_behind : He.DefD := ⟨("behind", none), "behind", "behind", defArgs s_behind, defBody s_behind, defScope s_behind, [], []⟩
abbrev s_is_least : Stmt := top 22
def d_is_least : He.DefD := ⟨("is_least", none), "is_least", "is_least", defArgs s_is_least, defBody s_is_least, defScope s_is_least, [], []⟩
abbrev s_shift_of : Stmt := top 23
def d_shift_of : He.DefD := ⟨("shift_of", none), "shift_of", "shift_of", defArgs s_shift_of, defBody s_shift_of, defScope s_shift_of, [], []⟩
abbrev s_least_of : Stmt := top 24
def d_least_of : He.DefD := ⟨("least_of", none), "least_of", "least_of", defArgs s_least_of, defBody s_least_of, defScope s_least_of, [], []⟩
abbrev s_asked_bar : Stmt := top 26
def d_asked_bar : He.DefD := ⟨("asked_bar", none), "asked_bar", "asked_bar", defArgs s_asked_bar, defBody s_asked_bar, defScope s_asked_bar, [], []⟩
abbrev s_asked_prime : Stmt := top 29
def d_asked_prime : He.DefD := ⟨("asked_prime", none), "asked_prime", "asked_prime", defArgs s_asked_prime, defBody s_asked_prime, defScope s_asked_prime, [], []⟩
abbrev s_root_by : Stmt := top 30
def d_root_by : He.DefD := ⟨("root_by", none), "root_by", "root_by", defArgs s_root_by, defBody s_root_by, defScope s_root_by, [], []⟩
abbrev s_prime_told : Stmt := top 31
def d_prime_told : He.DefD := ⟨("prime_told", none), "prime_told", "prime_told", defArgs s_prime_told, defBody s_prime_told, defScope s_prime_told, [], []⟩
abbrev s__law_ints : Stmt := top 33
def d__law_ints : He.DefD := ⟨("_law_ints", none), "_law_ints", "_law_ints", defArgs s__law_ints, defBody s__law_ints, defScope s__law_ints, [], []⟩
abbrev s__law_cell_at : Stmt := top 34
def d__law_cell_at : He.DefD := ⟨("_law_cell_at", none), "_law_cell_at", "_law_cell_at", defArgs s__law_cell_at, defBody s__law_cell_at, defScope s__law_cell_at, [], []⟩
abbrev s__law_great : Stmt := top 35
def d__law_great : He.DefD := ⟨("_law_great", none), "_law_great", "_law_great", defArgs s__law_great, defBody s__law_great, defScope s__law_great, [], []⟩
abbrev s__law_worth : Stmt := top 36
def d__law_worth : He.DefD := ⟨("_law_worth", none), "_law_worth", "_law_worth", defArgs s__law_worth, defBody s__law_worth, defScope s__law_worth, [], []⟩
abbrev s__law_sent : Stmt := top 37
def d__law_sent : He.DefD := ⟨("_law_sent", none), "_law_sent", "_law_sent", defArgs s__law_sent, defBody s__law_sent, defScope s__law_sent, [], []⟩
abbrev s__law_good : Stmt := top 38
def d__law_good : He.DefD := ⟨("_law_good", none), "_law_good", "_law_good", defArgs s__law_good, defBody s__law_good, defScope s__law_good, [], []⟩
abbrev s__law_prime_from : Stmt := top 39
def d__law_prime_from : He.DefD := ⟨("_law_prime_from", none), "_law_prime_from", "_law_prime_from", defArgs s__law_prime_from, defBody s__law_prime_from, defScope s__law_prime_from, [], []⟩
abbrev s__law_side : Stmt := top 40
def d__law_side : He.DefD := ⟨("_law_side", none), "_law_side", "_law_side", defArgs s__law_side, defBody s__law_side, defScope s__law_side, [], []⟩
abbrev s_law : Stmt := top 41
def d_law : He.DefD := ⟨("law", none), "law", "law", defArgs s_law, defBody s_law, defScope s_law, [], []⟩
def exs : List (Nat × Str) := [(0, "FormError"), (1, "NotAForm"), (2, "NotATurning"), (3, "NoBar"), (6, "OutOfBounds")]
def c_is_whole : Ctx := ⟨["number"], defScope s_is_whole, [], [], exs⟩
def c_left_of_power : Ctx := ⟨["base", "times", "modulus", "found", "step"], defScope s_left_of_power, [], [], exs⟩
def c_primes_of : Ctx := ⟨["number", "found", "prime", "count"], defScope s_primes_of, ["is_whole"], ["MOST"], exs⟩
def c_side_of : Ctx := ⟨["number", "prime", "left"], defScope s_side_of, ["left_of_power"], [], exs⟩
def c_is_form : Ctx := ⟨["form", "number"], defScope s_is_form, ["is_whole"], [], exs⟩
def c_asked_form : Ctx := ⟨["form"], defScope s_asked_form, ["is_form"], [], exs⟩
def c_asked_turning : Ctx := ⟨["turning", "number"], defScope s_asked_turning, ["is_whole"], [], exs⟩
def c_turned : Ctx := ⟨["form", "turning", "p", "q", "r", "s", "first", "middle", "last"], defScope s_turned, ["asked_form", "asked_turning"], [], exs⟩
def c_behind : Ctx := ⟨["one", "other", "first", "second", "third", "fourth"], defScope s_behind, ["asked_turning"], [], exs⟩
def c_is_least : Ctx := ⟨["form", "a", "b", "c"], defScope s_is_least, ["asked_form"], [], exs⟩
def c_shift_of : Ctx := ⟨["form"], defScope s_shift_of, [], [], exs⟩
def c_least_of : Ctx := ⟨["form", "turning", "found", "step", "moved"], defScope s_least_of, ["asked_form", "is_least", "shift_of", "turned", "behind"], ["STAY", "SWAP"], exs⟩
def c_asked_bar : Ctx := ⟨["bar", "lowest"], defScope s_asked_bar, ["is_whole"], [], exs⟩
def c_asked_prime : Ctx := ⟨["bar", "prime"], defScope s_asked_prime, ["is_whole", "primes_of"], ["GREATEST"], exs⟩
def c_root_by : Ctx := ⟨["bar", "prime", "b"], defScope s_root_by, [], [], exs⟩
def c_prime_told : Ctx := ⟨["bar", "prime", "b", "least"], defScope s_prime_told, ["asked_bar", "asked_prime", "side_of", "root_by", "least_of"], ["MOST"], exs⟩
def c__law_ints : Ctx := ⟨["_law_found", "_law_size", "_law_number"], defScope s__law_ints, [], [], exs⟩
def c__law_cell_at : Ctx := ⟨["_law_script", "_law_k"], defScope s__law_cell_at, [], [], exs⟩
def c__law_great : Ctx := ⟨["_law_cell", "_law_other"], defScope s__law_great, [], [], exs⟩
def c__law_worth : Ctx := ⟨["_law_form", "_law_place", "_law_x", "_law_y"], defScope s__law_worth, [], [], exs⟩
def c__law_sent : Ctx := ⟨["_law_turning", "_law_place", "_law_x", "_law_y"], defScope s__law_sent, [], [], exs⟩
def c__law_good : Ctx := ⟨["_law_form"], defScope s__law_good, ["_law_ints"], [], exs⟩
def c__law_prime_from : Ctx := ⟨["_law_number", "_law_bar", "_law_part"], defScope s__law_prime_from, [], [], exs⟩
def c__law_side : Ctx := ⟨["_law_number", "_law_prime", "_law_found", "_law_step", "_law_times"], defScope s__law_side, [], [], exs⟩
def c_law : Ctx := ⟨["_law_script", "_law_a", "_law_b", "_law_low", "_law_c", "_law_bar", "_law_prime", "_law_found", "_law_form"], defScope s_law, ["_law_cell_at", "_law_prime_from", "prime_told", "_law_side", "_law_good", "_law_ints", "_law_worth"], [], exs⟩
def fn : List He.DefD := ([d_is_whole, d_left_of_power, d_primes_of, d_side_of, d_is_form, d_asked_form, d_asked_turning, d_turned, d_behind, d_is_least, d_shift_of, d_least_of, d_asked_bar, d_asked_prime, d_root_by, d_prime_told, d__law_ints, d__law_cell_at, d__law_great, d__law_worth, d__law_sent, d__law_good, d__law_prime_from, d__law_side, d_law] : List He.DefD)
def fa : List He.Fa := (bltL.map He.Fa.free) ++ (([.glo "is_whole", .glo "left_of_power", .glo "primes_of", .glo "side_of", .glo "is_form", .glo "asked_form", .glo "asked_turning", .glo "turned", .glo "behind", .glo "is_least", .glo "shift_of", .glo "least_of", .glo "asked_bar", .glo "asked_prime", .glo "root_by", .glo "prime_told", .glo "_law_ints", .glo "_law_cell_at", .glo "_law_great", .glo "_law_worth", .glo "_law_sent", .glo "_law_good", .glo "_law_prime_from", .glo "_law_side", .glo "law"] : List He.Fa) ++ ([.glo "FormError", .glo "NotAForm", .glo "NotATurning", .glo "NoBar", .glo "OutOfBounds", .glo "STAY", .glo "SWAP", .exc "FormError", .exc "NotAForm", .exc "NotATurning", .exc "NoBar", .exc "OutOfBounds", .int "MOST" (1000000), .int "GREATEST" (10000)] : List He.Fa))
def ex (K : PySem.W.Frag) : Bool := He.tupB K "STAY" (([1, 0, 0, 1] : List Int).map He.Dv.int) && He.tupB K "SWAP" (([0, (-1), 1, 0] : List Int).map He.Dv.int)
def loose : List Str := ([(Str.ofString "FormError"), (Str.ofString "NotAForm"), (Str.ofString "NotATurning"), (Str.ofString "NoBar"), (Str.ofString "OutOfBounds"), (Str.ofString "MOST"), (Str.ofString "is_whole"), (Str.ofString "left_of_power"), (Str.ofString "primes_of"), (Str.ofString "side_of"), (Str.ofString "is_form"), (Str.ofString "asked_form"), (Str.ofString "asked_turning"), (Str.ofString "turned"), (Str.ofString "behind"), (Str.ofString "STAY"), (Str.ofString "SWAP"), (Str.ofString "is_least"), (Str.ofString "shift_of"), (Str.ofString "least_of"), (Str.ofString "asked_bar"), (Str.ofString "GREATEST"), (Str.ofString "asked_prime"), (Str.ofString "root_by"), (Str.ofString "prime_told")] : List Str) ++ ([(Str.ofString "_law_ints"), (Str.ofString "_law_cell_at"), (Str.ofString "_law_great"), (Str.ofString "_law_worth"), (Str.ofString "_law_sent"), (Str.ofString "_law_good"), (Str.ofString "_law_prime_from"), (Str.ofString "_law_side")] : List Str)
section
variable {P : Program} {w : World} {K : PySem.W.Frag} {mg : Str → Option Value} {base : Heap}
abbrev Z (K : PySem.W.Frag) (mg : Str → Option Value) (base : Heap) : Prop := Zz fa fn ex K mg base
theorem blz (z : Z K mg base) : ∀ y ∈ bltL, mg y = none := z.bl fun y hy => List.mem_append_left _ (List.mem_map_of_mem hy)
theorem mem_at {α : Type} {l : List α} {f : α} (n : Nat) (h : l[n]? = some f) : f ∈ l := List.mem_of_getElem? h
theorem exz (z : Z K mg base) : ExB K mg (clK K) exs := z.exb fun e he => by
  simp only [exs, List.mem_cons, List.mem_nil_iff, or_false] at he
  rcases he with rfl | rfl | rfl | rfl | rfl
  · exact ⟨rfl, mem_at 47 rfl, mem_at 40 rfl⟩
  · exact ⟨rfl, mem_at 48 rfl, mem_at 41 rfl⟩
  · exact ⟨rfl, mem_at 49 rfl, mem_at 42 rfl⟩
  · exact ⟨rfl, mem_at 50 rfl, mem_at 43 rfl⟩
  · exact ⟨rfl, mem_at 51 rfl, mem_at 44 rfl⟩
theorem sc_is_whole : FnScope c_is_whole.N ["number"] c_is_whole.sc := ⟨rfl, rfl, rfl, by decide +kernel, rfl, by decide +kernel, by decide +kernel⟩
theorem k_is_whole : chkSs c_is_whole b_is_whole (defBody s_is_whole) = true := by decide +kernel
theorem B_is_whole (z : Z K mg base) : FnB P w K mg base 1 (clK K) "is_whole" sem_is_whole := by
  obtain ⟨fd, F⟩ := z.s.d.def_ 0 (d := d_is_whole) rfl
  exact fn_step (c := c_is_whole) (G := G_is_whole) (b := b_is_whole) (ps := ["number"]) (body := defBody s_is_whole) (params := defArgs s_is_whole) F (He.glo_ok z.X z.G (z.ok (mem_at 15 rfl))) sc_is_whole k_is_whole (fun _ _ _ _ _ _ us hl => match us, hl with | [_], _ => rfl) .nil .nil (exz z) (blz z)
theorem sc_left_of_power : FnScope c_left_of_power.N ["base", "times", "modulus"] c_left_of_power.sc := ⟨rfl, rfl, rfl, by decide +kernel, rfl, by decide +kernel, by decide +kernel⟩
theorem k_left_of_power : chkSs c_left_of_power b_left_of_power (defBody s_left_of_power) = true := by decide +kernel
theorem B_left_of_power (z : Z K mg base) : FnB P w K mg base 1 (clK K) "left_of_power" sem_left_of_power := by
  obtain ⟨fd, F⟩ := z.s.d.def_ 1 (d := d_left_of_power) rfl
  exact fn_step (c := c_left_of_power) (G := G_left_of_power) (b := b_left_of_power) (ps := ["base", "times", "modulus"]) (body := defBody s_left_of_power) (params := defArgs s_left_of_power) F (He.glo_ok z.X z.G (z.ok (mem_at 16 rfl))) sc_left_of_power k_left_of_power (fun _ _ _ _ _ _ us hl => match us, hl with | [_, _, _], _ => rfl) .nil .nil (exz z) (blz z)
theorem sc_primes_of : FnScope c_primes_of.N ["number"] c_primes_of.sc := ⟨rfl, rfl, rfl, by decide +kernel, rfl, by decide +kernel, by decide +kernel⟩
theorem k_primes_of : chkSs c_primes_of b_primes_of (defBody s_primes_of) = true := by decide +kernel
theorem B_primes_of (z : Z K mg base) : FnB P w K mg base 2 (clK K) "primes_of" sem_primes_of := by
  obtain ⟨fd, F⟩ := z.s.d.def_ 2 (d := d_primes_of) rfl
  exact fn_step (c := c_primes_of) (G := G_primes_of) (b := b_primes_of) (ps := ["number"]) (body := defBody s_primes_of) (params := defArgs s_primes_of) F (He.glo_ok z.X z.G (z.ok (mem_at 17 rfl))) sc_primes_of k_primes_of (fun _ _ _ _ _ _ us hl => match us, hl with | [_], _ => rfl) (.cons (B_is_whole z) (by decide) .nil) (.cons (z.int (mem_at 52 rfl)) .nil) (exz z) (blz z)
theorem sc_side_of : FnScope c_side_of.N ["number", "prime"] c_side_of.sc := ⟨rfl, rfl, rfl, by decide +kernel, rfl, by decide +kernel, by decide +kernel⟩
theorem k_side_of : chkSs c_side_of b_side_of (defBody s_side_of) = true := by decide +kernel
theorem B_side_of (z : Z K mg base) : FnB P w K mg base 2 (clK K) "side_of" sem_side_of := by
  obtain ⟨fd, F⟩ := z.s.d.def_ 3 (d := d_side_of) rfl
  exact fn_step (c := c_side_of) (G := G_side_of) (b := b_side_of) (ps := ["number", "prime"]) (body := defBody s_side_of) (params := defArgs s_side_of) F (He.glo_ok z.X z.G (z.ok (mem_at 18 rfl))) sc_side_of k_side_of (fun _ _ _ _ _ _ us hl => match us, hl with | [_, _], _ => rfl) (.cons (B_left_of_power z) (by decide) .nil) .nil (exz z) (blz z)
theorem sc_is_form : FnScope c_is_form.N ["form"] c_is_form.sc := ⟨rfl, rfl, rfl, by decide +kernel, rfl, by decide +kernel, by decide +kernel⟩
theorem k_is_form : chkSs c_is_form b_is_form (defBody s_is_form) = true := by decide +kernel
theorem B_is_form (z : Z K mg base) : FnB P w K mg base 2 (clK K) "is_form" sem_is_form := by
  obtain ⟨fd, F⟩ := z.s.d.def_ 4 (d := d_is_form) rfl
  exact fn_step (c := c_is_form) (G := G_is_form) (b := b_is_form) (ps := ["form"]) (body := defBody s_is_form) (params := defArgs s_is_form) F (He.glo_ok z.X z.G (z.ok (mem_at 19 rfl))) sc_is_form k_is_form (fun _ _ _ _ _ _ us hl => match us, hl with | [_], _ => rfl) (.cons (B_is_whole z) (by decide) .nil) .nil (exz z) (blz z)
theorem sc_asked_form : FnScope c_asked_form.N ["form"] c_asked_form.sc := ⟨rfl, rfl, rfl, by decide +kernel, rfl, by decide +kernel, by decide +kernel⟩
theorem k_asked_form : chkSs c_asked_form b_asked_form (defBody s_asked_form) = true := by decide +kernel
theorem B_asked_form (z : Z K mg base) : FnB P w K mg base 3 (clK K) "asked_form" sem_asked_form := by
  obtain ⟨fd, F⟩ := z.s.d.def_ 5 (d := d_asked_form) rfl
  exact fn_step (c := c_asked_form) (G := G_asked_form) (b := b_asked_form) (ps := ["form"]) (body := defBody s_asked_form) (params := defArgs s_asked_form) F (He.glo_ok z.X z.G (z.ok (mem_at 20 rfl))) sc_asked_form k_asked_form (fun _ _ _ _ _ _ us hl => match us, hl with | [_], _ => rfl) (.cons (B_is_form z) (by decide) .nil) .nil (exz z) (blz z)
theorem sc_asked_turning : FnScope c_asked_turning.N ["turning"] c_asked_turning.sc := ⟨rfl, rfl, rfl, by decide +kernel, rfl, by decide +kernel, by decide +kernel⟩
theorem k_asked_turning : chkSs c_asked_turning b_asked_turning (defBody s_asked_turning) = true := by decide +kernel
theorem B_asked_turning (z : Z K mg base) : FnB P w K mg base 2 (clK K) "asked_turning" sem_asked_turning := by
  obtain ⟨fd, F⟩ := z.s.d.def_ 6 (d := d_asked_turning) rfl
  exact fn_step (c := c_asked_turning) (G := G_asked_turning) (b := b_asked_turning) (ps := ["turning"]) (body := defBody s_asked_turning) (params := defArgs s_asked_turning) F (He.glo_ok z.X z.G (z.ok (mem_at 21 rfl))) sc_asked_turning k_asked_turning (fun _ _ _ _ _ _ us hl => match us, hl with | [_], _ => rfl) (.cons (B_is_whole z) (by decide) .nil) .nil (exz z) (blz z)
theorem sc_turned : FnScope c_turned.N ["form", "turning"] c_turned.sc := ⟨rfl, rfl, rfl, by decide +kernel, rfl, by decide +kernel, by decide +kernel⟩
theorem k_turned : chkSs c_turned b_turned (defBody s_turned) = true := by decide +kernel
theorem B_turned (z : Z K mg base) : FnB P w K mg base 4 (clK K) "turned" sem_turned := by
  obtain ⟨fd, F⟩ := z.s.d.def_ 7 (d := d_turned) rfl
  exact fn_step (c := c_turned) (G := G_turned) (b := b_turned) (ps := ["form", "turning"]) (body := defBody s_turned) (params := defArgs s_turned) F (He.glo_ok z.X z.G (z.ok (mem_at 22 rfl))) sc_turned k_turned (fun _ _ _ _ _ _ us hl => match us, hl with | [_, _], _ => rfl) (.cons (B_asked_form z) (by decide) (.cons (B_asked_turning z) (by decide) .nil)) .nil (exz z) (blz z)
theorem sc_behind : FnScope c_behind.N ["one", "other"] c_behind.sc := ⟨rfl, rfl, rfl, by decide +kernel, rfl, by decide +kernel, by decide +kernel⟩
theorem k_behind : chkSs c_behind b_behind (defBody s_behind) = true := by decide +kernel
theorem B_behind (z : Z K mg base) : FnB P w K mg base 3 (clK K) "behind" sem_behind := by
  obtain ⟨fd, F⟩ := z.s.d.def_ 8 (d := d_behind) rfl
  exact fn_step (c := c_behind) (G := G_behind) (b := b_behind) (ps := ["one", "other"]) (body := defBody s_behind) (params := defArgs s_behind) F (He.glo_ok z.X z.G (z.ok (mem_at 23 rfl))) sc_behind k_behind (fun _ _ _ _ _ _ us hl => match us, hl with | [_, _], _ => rfl) (.cons (B_asked_turning z) (by decide) .nil) .nil (exz z) (blz z)
theorem sc_is_least : FnScope c_is_least.N ["form"] c_is_least.sc := ⟨rfl, rfl, rfl, by decide +kernel, rfl, by decide +kernel, by decide +kernel⟩
theorem k_is_least : chkSs c_is_least b_is_least (defBody s_is_least) = true := by decide +kernel
theorem B_is_least (z : Z K mg base) : FnB P w K mg base 4 (clK K) "is_least" sem_is_least := by
  obtain ⟨fd, F⟩ := z.s.d.def_ 9 (d := d_is_least) rfl
  exact fn_step (c := c_is_least) (G := G_is_least) (b := b_is_least) (ps := ["form"]) (body := defBody s_is_least) (params := defArgs s_is_least) F (He.glo_ok z.X z.G (z.ok (mem_at 24 rfl))) sc_is_least k_is_least (fun _ _ _ _ _ _ us hl => match us, hl with | [_], _ => rfl) (.cons (B_asked_form z) (by decide) .nil) .nil (exz z) (blz z)
theorem sc_shift_of : FnScope c_shift_of.N ["form"] c_shift_of.sc := ⟨rfl, rfl, rfl, by decide +kernel, rfl, by decide +kernel, by decide +kernel⟩
theorem k_shift_of : chkSs c_shift_of b_shift_of (defBody s_shift_of) = true := by decide +kernel
theorem B_shift_of (z : Z K mg base) : FnB P w K mg base 1 (clK K) "shift_of" sem_shift_of := by
  obtain ⟨fd, F⟩ := z.s.d.def_ 10 (d := d_shift_of) rfl
  exact fn_step (c := c_shift_of) (G := G_shift_of) (b := b_shift_of) (ps := ["form"]) (body := defBody s_shift_of) (params := defArgs s_shift_of) F (He.glo_ok z.X z.G (z.ok (mem_at 25 rfl))) sc_shift_of k_shift_of (fun _ _ _ _ _ _ us hl => match us, hl with | [_], _ => rfl) .nil .nil (exz z) (blz z)
theorem sc_least_of : FnScope c_least_of.N ["form"] c_least_of.sc := ⟨rfl, rfl, rfl, by decide +kernel, rfl, by decide +kernel, by decide +kernel⟩
theorem k_least_of : chkSs c_least_of b_least_of (defBody s_least_of) = true := by decide +kernel
theorem B_least_of (z : Z K mg base) : FnB P w K mg base 5 (clK K) "least_of" sem_least_of := by
  obtain ⟨fd, F⟩ := z.s.d.def_ 11 (d := d_least_of) rfl
  exact fn_step (c := c_least_of) (G := G_least_of) (b := b_least_of) (ps := ["form"]) (body := defBody s_least_of) (params := defArgs s_least_of) F (He.glo_ok z.X z.G (z.ok (mem_at 26 rfl))) sc_least_of k_least_of (fun _ _ _ _ _ _ us hl => match us, hl with | [_], _ => rfl) (.cons (B_asked_form z) (by decide) (.cons (B_is_least z) (by decide) (.cons (B_shift_of z) (by decide) (.cons (B_turned z) (by decide) (.cons (B_behind z) (by decide) .nil))))) (.cons (z.tup (ns := [1, 0, 0, 1]) (mem_at 45 rfl) ((ba z.s.x).1)) (.cons (z.tup (ns := [0, (-1), 1, 0]) (mem_at 46 rfl) ((ba z.s.x).2)) .nil)) (exz z) (blz z)
theorem sc_asked_bar : FnScope c_asked_bar.N ["bar", "lowest"] c_asked_bar.sc := ⟨rfl, rfl, rfl, by decide +kernel, rfl, by decide +kernel, by decide +kernel⟩
theorem k_asked_bar : chkSs c_asked_bar b_asked_bar (defBody s_asked_bar) = true := by decide +kernel
theorem B_asked_bar (z : Z K mg base) : FnB P w K mg base 2 (clK K) "asked_bar" sem_asked_bar := by
  obtain ⟨fd, F⟩ := z.s.d.def_ 12 (d := d_asked_bar) rfl
  exact fn_step (c := c_asked_bar) (G := G_asked_bar) (b := b_asked_bar) (ps := ["bar", "lowest"]) (body := defBody s_asked_bar) (params := defArgs s_asked_bar) F (He.glo_ok z.X z.G (z.ok (mem_at 27 rfl))) sc_asked_bar k_asked_bar (fun _ _ _ _ _ _ us hl => match us, hl with | [_, _], _ => rfl) (.cons (B_is_whole z) (by decide) .nil) .nil (exz z) (blz z)
theorem sc_asked_prime : FnScope c_asked_prime.N ["bar", "prime"] c_asked_prime.sc := ⟨rfl, rfl, rfl, by decide +kernel, rfl, by decide +kernel, by decide +kernel⟩
theorem k_asked_prime : chkSs c_asked_prime b_asked_prime (defBody s_asked_prime) = true := by decide +kernel
theorem B_asked_prime (z : Z K mg base) : FnB P w K mg base 3 (clK K) "asked_prime" sem_asked_prime := by
  obtain ⟨fd, F⟩ := z.s.d.def_ 13 (d := d_asked_prime) rfl
  exact fn_step (c := c_asked_prime) (G := G_asked_prime) (b := b_asked_prime) (ps := ["bar", "prime"]) (body := defBody s_asked_prime) (params := defArgs s_asked_prime) F (He.glo_ok z.X z.G (z.ok (mem_at 28 rfl))) sc_asked_prime k_asked_prime (fun _ _ _ _ _ _ us hl => match us, hl with | [_, _], _ => rfl) (.cons (B_is_whole z) (by decide) (.cons (B_primes_of z) (by decide) .nil)) (.cons (z.int (mem_at 53 rfl)) .nil) (exz z) (blz z)
theorem sc_root_by : FnScope c_root_by.N ["bar", "prime"] c_root_by.sc := ⟨rfl, rfl, rfl, by decide +kernel, rfl, by decide +kernel, by decide +kernel⟩
theorem k_root_by : chkSs c_root_by b_root_by (defBody s_root_by) = true := by decide +kernel
theorem B_root_by (z : Z K mg base) : FnB P w K mg base 1 (clK K) "root_by" sem_root_by := by
  obtain ⟨fd, F⟩ := z.s.d.def_ 14 (d := d_root_by) rfl
  exact fn_step (c := c_root_by) (G := G_root_by) (b := b_root_by) (ps := ["bar", "prime"]) (body := defBody s_root_by) (params := defArgs s_root_by) F (He.glo_ok z.X z.G (z.ok (mem_at 29 rfl))) sc_root_by k_root_by (fun _ _ _ _ _ _ us hl => match us, hl with | [_, _], _ => rfl) .nil .nil (exz z) (blz z)
theorem sc_prime_told : FnScope c_prime_told.N ["bar", "prime"] c_prime_told.sc := ⟨rfl, rfl, rfl, by decide +kernel, rfl, by decide +kernel, by decide +kernel⟩
theorem k_prime_told : chkSs c_prime_told b_prime_told (defBody s_prime_told) = true := by decide +kernel
theorem B_prime_told (z : Z K mg base) : FnB P w K mg base 6 (clK K) "prime_told" sem_prime_told := by
  obtain ⟨fd, F⟩ := z.s.d.def_ 15 (d := d_prime_told) rfl
  exact fn_step (c := c_prime_told) (G := G_prime_told) (b := b_prime_told) (ps := ["bar", "prime"]) (body := defBody s_prime_told) (params := defArgs s_prime_told) F (He.glo_ok z.X z.G (z.ok (mem_at 30 rfl))) sc_prime_told k_prime_told (fun _ _ _ _ _ _ us hl => match us, hl with | [_, _], _ => rfl) (.cons (B_asked_bar z) (by decide) (.cons (B_asked_prime z) (by decide) (.cons (B_side_of z) (by decide) (.cons (B_root_by z) (by decide) (.cons (B_least_of z) (by decide) .nil))))) (.cons (z.int (mem_at 52 rfl)) .nil) (exz z) (blz z)
theorem sc__law_ints : FnScope c__law_ints.N ["_law_found", "_law_size"] c__law_ints.sc := ⟨rfl, rfl, rfl, by decide +kernel, rfl, by decide +kernel, by decide +kernel⟩
theorem k__law_ints : chkSs c__law_ints b__law_ints (defBody s__law_ints) = true := by decide +kernel
theorem B__law_ints (z : Z K mg base) : FnB P w K mg base 1 (clK K) "_law_ints" sem__law_ints := by
  obtain ⟨fd, F⟩ := z.s.d.def_ 16 (d := d__law_ints) rfl
  exact fn_step (c := c__law_ints) (G := G__law_ints) (b := b__law_ints) (ps := ["_law_found", "_law_size"]) (body := defBody s__law_ints) (params := defArgs s__law_ints) F (He.glo_ok z.X z.G (z.ok (mem_at 31 rfl))) sc__law_ints k__law_ints (fun _ _ _ _ _ _ us hl => match us, hl with | [_, _], _ => rfl) .nil .nil (exz z) (blz z)
theorem sc__law_cell_at : FnScope c__law_cell_at.N ["_law_script", "_law_k"] c__law_cell_at.sc := ⟨rfl, rfl, rfl, by decide +kernel, rfl, by decide +kernel, by decide +kernel⟩
theorem k__law_cell_at : chkSs c__law_cell_at b__law_cell_at (defBody s__law_cell_at) = true := by decide +kernel
theorem B__law_cell_at (z : Z K mg base) : FnB P w K mg base 1 (clK K) "_law_cell_at" sem__law_cell_at := by
  obtain ⟨fd, F⟩ := z.s.d.def_ 17 (d := d__law_cell_at) rfl
  exact fn_step (c := c__law_cell_at) (G := G__law_cell_at) (b := b__law_cell_at) (ps := ["_law_script", "_law_k"]) (body := defBody s__law_cell_at) (params := defArgs s__law_cell_at) F (He.glo_ok z.X z.G (z.ok (mem_at 32 rfl))) sc__law_cell_at k__law_cell_at (fun _ _ _ _ _ _ us hl => match us, hl with | [_, _], _ => rfl) .nil .nil (exz z) (blz z)
theorem sc__law_great : FnScope c__law_great.N ["_law_cell", "_law_other"] c__law_great.sc := ⟨rfl, rfl, rfl, by decide +kernel, rfl, by decide +kernel, by decide +kernel⟩
theorem k__law_great : chkSs c__law_great b__law_great (defBody s__law_great) = true := by decide +kernel
theorem B__law_great (z : Z K mg base) : FnB P w K mg base 1 (clK K) "_law_great" sem__law_great := by
  obtain ⟨fd, F⟩ := z.s.d.def_ 18 (d := d__law_great) rfl
  exact fn_step (c := c__law_great) (G := G__law_great) (b := b__law_great) (ps := ["_law_cell", "_law_other"]) (body := defBody s__law_great) (params := defArgs s__law_great) F (He.glo_ok z.X z.G (z.ok (mem_at 33 rfl))) sc__law_great k__law_great (fun _ _ _ _ _ _ us hl => match us, hl with | [_, _], _ => rfl) .nil .nil (exz z) (blz z)
theorem sc__law_worth : FnScope c__law_worth.N ["_law_form", "_law_place"] c__law_worth.sc := ⟨rfl, rfl, rfl, by decide +kernel, rfl, by decide +kernel, by decide +kernel⟩
theorem k__law_worth : chkSs c__law_worth b__law_worth (defBody s__law_worth) = true := by decide +kernel
theorem B__law_worth (z : Z K mg base) : FnB P w K mg base 1 (clK K) "_law_worth" sem__law_worth := by
  obtain ⟨fd, F⟩ := z.s.d.def_ 19 (d := d__law_worth) rfl
  exact fn_step (c := c__law_worth) (G := G__law_worth) (b := b__law_worth) (ps := ["_law_form", "_law_place"]) (body := defBody s__law_worth) (params := defArgs s__law_worth) F (He.glo_ok z.X z.G (z.ok (mem_at 34 rfl))) sc__law_worth k__law_worth (fun _ _ _ _ _ _ us hl => match us, hl with | [_, _], _ => rfl) .nil .nil (exz z) (blz z)
theorem sc__law_sent : FnScope c__law_sent.N ["_law_turning", "_law_place"] c__law_sent.sc := ⟨rfl, rfl, rfl, by decide +kernel, rfl, by decide +kernel, by decide +kernel⟩
theorem k__law_sent : chkSs c__law_sent b__law_sent (defBody s__law_sent) = true := by decide +kernel
theorem B__law_sent (z : Z K mg base) : FnB P w K mg base 1 (clK K) "_law_sent" sem__law_sent := by
  obtain ⟨fd, F⟩ := z.s.d.def_ 20 (d := d__law_sent) rfl
  exact fn_step (c := c__law_sent) (G := G__law_sent) (b := b__law_sent) (ps := ["_law_turning", "_law_place"]) (body := defBody s__law_sent) (params := defArgs s__law_sent) F (He.glo_ok z.X z.G (z.ok (mem_at 35 rfl))) sc__law_sent k__law_sent (fun _ _ _ _ _ _ us hl => match us, hl with | [_, _], _ => rfl) .nil .nil (exz z) (blz z)
theorem sc__law_good : FnScope c__law_good.N ["_law_form"] c__law_good.sc := ⟨rfl, rfl, rfl, by decide +kernel, rfl, by decide +kernel, by decide +kernel⟩
theorem k__law_good : chkSs c__law_good b__law_good (defBody s__law_good) = true := by decide +kernel
theorem B__law_good (z : Z K mg base) : FnB P w K mg base 2 (clK K) "_law_good" sem__law_good := by
  obtain ⟨fd, F⟩ := z.s.d.def_ 21 (d := d__law_good) rfl
  exact fn_step (c := c__law_good) (G := G__law_good) (b := b__law_good) (ps := ["_law_form"]) (body := defBody s__law_good) (params := defArgs s__law_good) F (He.glo_ok z.X z.G (z.ok (mem_at 36 rfl))) sc__law_good k__law_good (fun _ _ _ _ _ _ us hl => match us, hl with | [_], _ => rfl) (.cons (B__law_ints z) (by decide) .nil) .nil (exz z) (blz z)
theorem sc__law_prime_from : FnScope c__law_prime_from.N ["_law_number", "_law_bar"] c__law_prime_from.sc := ⟨rfl, rfl, rfl, by decide +kernel, rfl, by decide +kernel, by decide +kernel⟩
theorem k__law_prime_from : chkSs c__law_prime_from b__law_prime_from (defBody s__law_prime_from) = true := by decide +kernel
theorem B__law_prime_from (z : Z K mg base) : FnB P w K mg base 1 (clK K) "_law_prime_from" sem__law_prime_from := by
  obtain ⟨fd, F⟩ := z.s.d.def_ 22 (d := d__law_prime_from) rfl
  exact fn_step (c := c__law_prime_from) (G := G__law_prime_from) (b := b__law_prime_from) (ps := ["_law_number", "_law_bar"]) (body := defBody s__law_prime_from) (params := defArgs s__law_prime_from) F (He.glo_ok z.X z.G (z.ok (mem_at 37 rfl))) sc__law_prime_from k__law_prime_from (fun _ _ _ _ _ _ us hl => match us, hl with | [_, _], _ => rfl) .nil .nil (exz z) (blz z)
theorem sc__law_side : FnScope c__law_side.N ["_law_number", "_law_prime"] c__law_side.sc := ⟨rfl, rfl, rfl, by decide +kernel, rfl, by decide +kernel, by decide +kernel⟩
theorem k__law_side : chkSs c__law_side b__law_side (defBody s__law_side) = true := by decide +kernel
theorem B__law_side (z : Z K mg base) : FnB P w K mg base 1 (clK K) "_law_side" sem__law_side := by
  obtain ⟨fd, F⟩ := z.s.d.def_ 23 (d := d__law_side) rfl
  exact fn_step (c := c__law_side) (G := G__law_side) (b := b__law_side) (ps := ["_law_number", "_law_prime"]) (body := defBody s__law_side) (params := defArgs s__law_side) F (He.glo_ok z.X z.G (z.ok (mem_at 38 rfl))) sc__law_side k__law_side (fun _ _ _ _ _ _ us hl => match us, hl with | [_, _], _ => rfl) .nil .nil (exz z) (blz z)
theorem sc_law : FnScope c_law.N ["_law_script"] c_law.sc := ⟨rfl, rfl, rfl, by decide +kernel, rfl, by decide +kernel, by decide +kernel⟩
theorem k_law : chkSs c_law b_law (defBody s_law) = true := by decide +kernel
theorem B_law (z : Z K mg base) : FnB P w K mg base 7 (clK K) "law" sem_law := by
  obtain ⟨fd, F⟩ := z.s.d.def_ 24 (d := d_law) rfl
  exact fn_step (c := c_law) (G := G_law) (b := b_law) (ps := ["_law_script"]) (body := defBody s_law) (params := defArgs s_law) F (He.glo_ok z.X z.G (z.ok (mem_at 39 rfl))) sc_law k_law (fun _ _ _ _ _ _ us hl => match us, hl with | [_], _ => rfl) (.cons (B__law_cell_at z) (by decide) (.cons (B__law_prime_from z) (by decide) (.cons (B_prime_told z) (by decide) (.cons (B__law_side z) (by decide) (.cons (B__law_good z) (by decide) (.cons (B__law_ints z) (by decide) (.cons (B__law_worth z) (by decide) .nil))))))) .nil (exz z) (blz z)
end
/-! ### the head -/
abbrev Rr : PySem.W.OpenRow := PySem.W.OpenLaw.row PySem.Challenge.rw_formturn_k18_primes_told
abbrev hk : PySem.W.Hook := hookX 4 fa fn ex
def ob (s : PySem.W.SharedT) : AlX := obsXG 4 fa fn ex (HandSHeadRun.getT s)
theorem ob_eq (s : PySem.W.SharedT) : ob s = hk.obs s.abs := obsXG_eq (HandSHeadRun.getT_eq s)
theorem run (w : World) : HandSHeadRun.RunEq Rr (PySem.W.view Rr.prog [41]) hk ob 6000 loose w := by
  intro os
  kernel_rfl
theorem law_fd {K : PySem.W.Frag} {mg : Str → Option Value} {h : Heap} {f : Addr} (z : Z K mg h) (hfa : mg ("law" : Str) = some (.ref f)) (P : Program) (w : World)
    (T : ∀ ns : List Int, ns.length ≤ 63 → (∀ z ∈ ns, Builtin.Int.intBits z ≤ 1048576) → sem_law [.list (ns.map .int)] = .ok (.bool true)) :
    ∃ (fd : FuncData) (sp : Sp), (∀ (s : Shared) (v : Value), BindsTo s fd ⟨[v], []⟩ [("_law_script", v)]) ∧
      (∀ (H : Hp) (a : Addr) (ns : List Int), ns.length ≤ 63 → (∀ z ∈ ns, Builtin.Int.intBits z ≤ 1048576) → Only H → SqL K H a (ns.map V.int) → sp [.ref a] H (fun v _ => v = .bl true) fun _ _ _ => False) ∧
      ∀ base : Heap, K.In base → base.Ns mainGlobals mg → FnOk P w K mg base (L2.CX P w) 7 f fd ["_law_script"] sp := by
  obtain ⟨fd, F⟩ := z.s.d.def_ 24 (d := d_law) rfl
  have e := hfa.symm.trans (He.glo_ok z.X z.G (z.ok (f := .glo "law") (mem_at 39 rfl)))
  cases e
  have b := FunD.bindsA (ps := ["_law_script"]) F fun _ _ _ _ _ _ us hl => match us, hl with | [_], _ => rfl
  refine ⟨fd, spF K (clK K) sem_law, fun s v => b s [v] rfl, fun H a ns h1 h2 _ hS => law_sp (f := sem_law) (cl := clK K) (fun B H ds vs Q E q1 q2 q3 => ⟨B, ds, q1, q2, q3⟩) hS (T ns h1 h2), fun base hX hG => ?_⟩
  have z : Z K mg base := ⟨z.s, hX, hG⟩
  exact fn_core (c := c_law) (G := G_law) (b := b_law) (ps := ["_law_script"]) (body := defBody s_law) (params := defArgs s_law) F sc_law k_law (.cons (B__law_cell_at z) (by decide) (.cons (B__law_prime_from z) (by decide) (.cons (B_prime_told z) (by decide) (.cons (B__law_side z) (by decide) (.cons (B__law_good z) (by decide) (.cons (B__law_ints z) (by decide) (.cons (B__law_worth z) (by decide) .nil))))))) .nil (exz z) (blz z)
end FT

open PySem PySem.W PySem.Calls PyProof.Rows
set_option maxRecDepth 100000 in
set_option maxHeartbeats 0 in
theorem PySem.Challenge.cw_formturn_k18_primes_told_holds : PySem.Challenge.rw_formturn_k18_primes_told.Holds := by
  w_on; o_law
  refine HandSHeadRun.head_any (r := OpenLaw.row PySem.Challenge.rw_formturn_k18_primes_told) (q := view (OpenLaw.row PySem.Challenge.rw_formturn_k18_primes_told).prog [41]) (H := FT.hk) (ob := FT.ob) (M := 6000) (loose := FT.loose) (d := HandSHeadRun.topDef (OpenLaw.row PySem.Challenge.rw_formturn_k18_primes_told).prog 41) (kwd := []) FT.ob_eq
    (by kernel_rfl) (fun s => by kernel_rfl) FT.run (by kernel_rfl) (by kernel_rfl) (by kernel_rfl) (by rfl) (by first | assumption | decide +kernel) (by decide +kernel) ⟨rfl, rfl, rfl, rfl, rfl, by decide +kernel⟩ ?hw ?hc
  case hw => w_witness2
  case hc =>
    refine FT.walk_ofEB (l := PySem.Challenge.rw_formturn_k18_primes_told) (n := 63) (k := 7) (x := "_law_script") (CX := fun w => L2.CX (PySem.Challenge.rw_formturn_k18_primes_told).prog w) rfl (by decide) (by kernel_rfl) ⟨rfl, by decide, by decide⟩ ?F (fun _ _ _ _ _ z => FT.cx_end z)
    intro w mg fa h Y G hmg0
    obtain ⟨K, KX, c⟩ := Y
    have hmg : mg ("law" : PySem.Str) = some (.ref fa) := by
      have e : (HandSHeadRun.topDef (OpenLaw.row PySem.Challenge.rw_formturn_k18_primes_told).prog 41).name = ("law" : PySem.Str) := by kernel_rfl
      rw [← e]
      exact hmg0
    obtain ⟨fd, sp, hb, hsp, hF⟩ := FT.law_fd (K := K) (h := h) ⟨c, KX, G⟩ hmg (PySem.Challenge.rw_formturn_k18_primes_told).prog w FT.law_true
    exact ⟨K, fd, sp, KX, hb, hsp, hF⟩
