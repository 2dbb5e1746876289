import PyProof.Rows.All
import Wide.All
import OpenK.AllK
import Wide.FinOn
import HandS.ForMost
import HandS.ForExc
import HandS.IsInst
import HandS.TupAny
import HandS.TupMul
import HandS.TryMany
import HandS.CallSlots
import HandS.CallLocal
import HandS.Walk
import HandS.Zip
import HandS.Deep
import HandS.Wide
import HandS.Lambda
import KE.GoesMore
import KE.GoesEnum
import HandS.Style
import HandS.TupLe
import HandS.HeadHook4
import HandS.HeadWalk
import HandS.Head2
import HandS.HeadNt
import PySem.Challenge.RW_anyumbrellas_k01_books_and_weathers_reco
set_option Elab.async false
set_option linter.all false
set_option maxRecDepth 100000
set_option maxHeartbeats 4000000
/-! the data layer: what an expression gives, told of plain data -/
namespace AU
open PySem PySem.Spec PyProof.Rows L2

/-! ### data -/
inductive DD where
  | non | bl (b : Bool) | int (i : Int) | str (s : Str) | lst (xs : List DD) | tup (xs : List DD) | raw (v : V) | dct (ks vs : List DD)

mutual
def DD.py : DD → PyData
  | .non => .none
  | .bl b => .bool b
  | .int i => .int i
  | .str s => .str s
  | .lst xs => .list (DD.pyA xs)
  | .tup xs => .tuple (DD.pyA xs)
  | .raw _ => .none
  | .dct _ _ => .none
def DD.pyA : List DD → List PyData
  | [] => []
  | x :: xs => x.py :: DD.pyA xs
end
mutual
def DD.pure : DD → Bool
  | .lst xs => DD.pureA xs
  | .tup xs => DD.pureA xs
  | .raw _ => false
  | .dct _ _ => false
  | _ => true
def DD.pureA : List DD → Bool
  | [] => true
  | x :: xs => x.pure && DD.pureA xs
end

mutual
inductive Rp (K : PySem.W.Frag) (F : Hp) : V → DD → Prop
  | non : Rp K F .non .non
  | bl (b : Bool) : Rp K F (.bl b) (.bl b)
  | int (i : Int) : Rp K F (.int i) (.int i)
  | str (x : Str) : Rp K F (.str x) (.str x)
  | lst {a : Addr} {xs : List V} {ds : List DD} : F a = some (.lst xs) → RpA K F xs ds → Rp K F (.ref a) (.lst ds)
  | tup {a : Addr} {xs : List V} {ds : List DD} : SqT K F a xs → RpA K F xs ds → Rp K F (.ref a) (.tup ds)
  | raw (v : V) : Rp K F v (.raw v)
inductive RpA (K : PySem.W.Frag) (F : Hp) : List V → List DD → Prop
  | nil : RpA K F [] []
  | cons {v : V} {vs : List V} {d : DD} {ds : List DD} : Rp K F v d → RpA K F vs ds → RpA K F (v :: vs) (d :: ds)
end

section
variable {K : PySem.W.Frag} {F F' : Hp}
theorem sqT_same {a : Addr} {xs : List V} (e : Same F F') (h : SqT K F a xs) : SqT K F' a xs := by
  rcases h with (h | ⟨o, h⟩) | h
  · exact .inl (.inl (e _ _ h))
  · exact .inl (.inr ⟨o, e _ _ h⟩)
  · exact .inr h
mutual
theorem Rp.same (e : Same F F') : ∀ {v : V} (d : DD), Rp K F v d → Rp K F' v d
  | _, .non, h => by cases h; exact .non
  | _, .bl b, h => by cases h; exact .bl b
  | _, .int i, h => by cases h; exact .int i
  | _, .str x, h => by cases h; exact .str x
  | _, .lst ds, h => by
    cases h with
    | lst h1 h2 => exact .lst (e _ _ h1) (RpA.same e ds h2)
  | _, .tup ds, h => by
    cases h with
    | tup h1 h2 => exact .tup (sqT_same e h1) (RpA.same e ds h2)
  | _, .raw _, h => by cases h; exact .raw _
  | _, .dct _ _, h => by cases h
theorem RpA.same (e : Same F F') : ∀ {vs : List V} (ds : List DD), RpA K F vs ds → RpA K F' vs ds
  | _, [], h => by cases h; exact .nil
  | _, d :: ds, h => by
    cases h with
    | cons h1 h2 => exact .cons (Rp.same e d h1) (RpA.same e ds h2)
end
mutual
theorem Rp.dp : ∀ {v : V} (d : DD), d.pure = true → Rp K F v d → Dp K F v d.py
  | _, .non, _, h => by cases h; exact .non
  | _, .bl b, _, h => by cases h; exact .bl b
  | _, .int i, _, h => by cases h; exact .int i
  | _, .str x, _, h => by cases h; exact .str x
  | _, .lst ds, p, h => by
    cases h with
    | lst h1 h2 => exact .lst (SqL.of h1) (RpA.dp ds (by simpa [DD.pure] using p) h2)
  | _, .tup ds, p, h => by
    cases h with
    | tup h1 h2 => exact .tup h1 (RpA.dp ds (by simpa [DD.pure] using p) h2)
  | _, .raw v, p, _ => by simp [DD.pure] at p
  | _, .dct _ _, p, _ => by simp [DD.pure] at p
theorem RpA.dp : ∀ {vs : List V} (ds : List DD), DD.pureA ds = true → RpA K F vs ds → DpAll K F vs (DD.pyA ds)
  | _, [], _, h => by cases h; exact .nil
  | _, d :: ds, p, h => by
    simp only [DD.pureA, Bool.and_eq_true] at p
    cases h with
    | cons h1 h2 => exact .cons (Rp.dp d p.1 h1) (RpA.dp ds p.2 h2)
end
theorem RpA.length : ∀ {vs : List V} {ds : List DD}, RpA K F vs ds → vs.length = ds.length
  | _, _, .nil => rfl
  | _, _, .cons _ h => by simp [RpA.length h]
theorem RpA.get : ∀ {vs : List V} {ds : List DD} {i : Nat} {d : DD}, RpA K F vs ds → ds[i]? = some d → ∃ v, vs[i]? = some v ∧ Rp K F v d
  | _, _, i, _, .nil, h => by simp at h
  | _, _, 0, _, .cons h1 _, h => by
    simp at h
    subst h
    exact ⟨_, rfl, h1⟩
  | _, _, i + 1, _, .cons _ h2, h => by
    obtain ⟨v, e, r⟩ := RpA.get (i := i) h2 (by simpa using h)
    exact ⟨v, by simpa using e, r⟩
theorem RpA.get' : ∀ {vs : List V} {ds : List DD} {i : Nat} {v : V}, RpA K F vs ds → vs[i]? = some v → ∃ d, ds[i]? = some d ∧ Rp K F v d
  | _, _, i, _, .nil, h => by simp at h
  | _, _, 0, _, .cons h1 _, h => by
    simp at h
    subst h
    exact ⟨_, rfl, h1⟩
  | _, _, i + 1, _, .cons _ h2, h => by
    obtain ⟨v, e, r⟩ := RpA.get' (i := i) h2 (by simpa using h)
    exact ⟨v, by simpa using e, r⟩
theorem RpA.append : ∀ {vs ws : List V} {ds es : List DD}, RpA K F vs ds → RpA K F ws es → RpA K F (vs ++ ws) (ds ++ es)
  | _, _, _, _, .nil, h => h
  | _, _, _, _, .cons h1 h2, h => .cons h1 (RpA.append h2 h)
theorem RpA.take : ∀ {vs : List V} {ds : List DD} (n : Nat), RpA K F vs ds → RpA K F (vs.take n) (ds.take n)
  | _, _, 0, _ => by simp; exact .nil
  | _, _, n + 1, .nil => .nil
  | _, _, n + 1, .cons h1 h2 => .cons h1 (RpA.take n h2)
theorem RpA.drop : ∀ {vs : List V} {ds : List DD} (n : Nat), RpA K F vs ds → RpA K F (vs.drop n) (ds.drop n)
  | _, _, 0, h => h
  | _, _, n + 1, .nil => .nil
  | _, _, n + 1, .cons h1 h2 => RpA.drop n h2
theorem RpA.set : ∀ {vs : List V} {ds : List DD} {v : V} {d : DD} (n : Nat), RpA K F vs ds → Rp K F v d → RpA K F (vs.set n v) (ds.set n d)
  | _, _, _, _, _, .nil, _ => .nil
  | _, _, _, _, 0, .cons h1 h2, h => .cons h h2
  | _, _, _, _, n + 1, .cons h1 h2, h => .cons h1 (RpA.set n h2 h)
theorem RpA.rep : ∀ {vs : List V} {ds : List DD} (n : Nat), RpA K F vs ds → RpA K F (List.replicate n vs).flatten (List.replicate n ds).flatten
  | _, _, 0, _ => .nil
  | _, _, n + 1, h => by
    rw [List.replicate_succ, List.replicate_succ, List.flatten_cons, List.flatten_cons]
    exact h.append (RpA.rep n h)
theorem Rp.int_inv {v : V} {i : Int} (h : Rp K F v (.int i)) : v = .int i := by cases h; rfl
theorem Rp.bl_inv {v : V} {i : Bool} (h : Rp K F v (.bl i)) : v = .bl i := by cases h; rfl
theorem Rp.str_inv {v : V} {i : Str} (h : Rp K F v (.str i)) : v = .str i := by cases h; rfl
theorem Rp.non_inv {v : V} (h : Rp K F v .non) : v = .non := by cases h; rfl
theorem Rp.raw_inv {v w : V} (h : Rp K F v (.raw w)) : v = w := by cases h; rfl
theorem Rp.tup_inv {v : V} {ds : List DD} (h : Rp K F v (.tup ds)) : ∃ a xs, v = .ref a ∧ SqT K F a xs ∧ RpA K F xs ds := by
  cases h with
  | tup h1 h2 => exact ⟨_, _, rfl, h1, h2⟩
theorem Rp.lst_inv {v : V} {ds : List DD} (h : Rp K F v (.lst ds)) : ∃ a xs, v = .ref a ∧ F a = some (.lst xs) ∧ RpA K F xs ds := by
  cases h with
  | lst h1 h2 => exact ⟨_, _, rfl, h1, h2⟩
end

/-! ### the reckoning: a source of two ints that draws change; errors -/
abbrev Sr := Int × Int
structure Ex where
  k : Nat
  arg : Option (Str × DD)
abbrev M (α : Type) := Sr → Option (Except Ex α × Sr)
def ret {α : Type} (x : α) : M α := fun S => some (.ok x, S)
def stk {α : Type} : M α := fun _ => none
def thr {α : Type} (e : Ex) : M α := fun S => some (.error e, S)
def bnd {α β : Type} (m : M α) (k : α → M β) : M β := fun S => match m S with
  | none => none
  | some (.ok x, S') => k x S'
  | some (.error e, S') => some (.error e, S')
@[simp] theorem bnd_ret {α β : Type} (x : α) (k : α → M β) : bnd (ret x) k = k x := rfl
@[simp] theorem bnd_stk {α β : Type} (k : α → M β) : bnd (stk : M α) k = stk := rfl
@[simp] theorem bnd_thr {α β : Type} (e : Ex) (k : α → M β) : bnd (thr e : M α) k = thr e := rfl
theorem bnd_assoc {α β γ : Type} (m : M α) (k : α → M β) (l : β → M γ) : bnd (bnd m k) l = bnd m fun x => bnd (k x) l := by
  funext S
  unfold bnd
  cases h : m S with
  | none => rfl
  | some p =>
    obtain ⟨r, S'⟩ := p
    cases r <;> rfl
def Post {α : Type} (good : α → Sr → Prop) (bad : Ex → Sr → Prop) : Option (Except Ex α × Sr) → Prop
  | none => False
  | some (.ok a, S) => good a S
  | some (.error e, S) => bad e S
theorem Post.bnd {α β : Type} {good : β → Sr → Prop} {bad : Ex → Sr → Prop} {m : M α} {k : α → M β} {S : Sr} (h : Post good bad (AU.bnd m k S)) : Post (fun a S' => Post good bad (k a S')) bad (m S) := by
  unfold AU.bnd at h
  cases e : m S with
  | none => rw [e] at h; exact h
  | some p =>
    obtain ⟨r, S'⟩ := p
    rw [e] at h
    cases r <;> exact h
theorem Post.mono {α : Type} {good good' : α → Sr → Prop} {bad bad' : Ex → Sr → Prop} {r : Option (Except Ex α × Sr)} (h : Post good bad r) (hg : ∀ a S, good a S → good' a S) (hb : ∀ e S, bad e S → bad' e S) : Post good' bad' r := by
  cases r with
  | none => exact h
  | some p =>
    obtain ⟨r, S'⟩ := p
    cases r with
    | ok a => exact hg _ _ h
    | error e => exact hb _ _ h
theorem Post.imp {α : Type} {good good' : α → Sr → Prop} {bad : Ex → Sr → Prop} {r : Option (Except Ex α × Sr)} (h : Post good bad r) (hg : ∀ a S, good a S → good' a S) : Post good' bad r := h.mono hg fun _ _ z => z

/-! ### what the slots hold -/
inductive It where
  | d (x : DD) | l (xs : List DD) | s | sc (ns : List Int)
abbrev Env := List (Option It)
structure Bs where
  K : PySem.W.Frag
  F0 : Hp
  H0 : Hp
  sa0 : Option Addr
  T : List (Addr × Str)
  cls : Nat → Value

/-- an object that is kept (where lambdas are made the tables of code objects turn) -/
def Kp (B : Bs) (o : HO) : Prop := B.T = [] ∨ ∀ ps, o ≠ .tbl ps
theorem Kp.lst {B : Bs} {xs : List V} : Kp B (.lst xs) := .inr fun _ z => by cases z
/-- nothing that is kept stands there -/
def Fr (B : Bs) (H : Hp) (a : Addr) : Prop := ∀ o, H a = some o → ¬ Kp B o
theorem Fr.of {B : Bs} {H : Hp} {a : Addr} (h : H a = none) : Fr B H a := fun o e => by rw [h] at e; cases e
def ItOk (B : Bs) (F H : Hp) (sa : Option Addr) : It → V → Prop
  | .d x, v => Rp B.K F v x
  | .l xs, v => ∃ a vs, v = .ref a ∧ F a = none ∧ Fr B B.H0 a ∧ sa ≠ some a ∧ H a = some (.lst vs) ∧ RpA B.K F vs xs
  | .s, v => ∃ a, v = .ref a ∧ sa = some a
  | .sc ns, v => ∃ a, v = .ref a ∧ SqL B.K F a (ns.map V.int)

structure Ok (B : Bs) (env : Env) (S : Sr) (σ : L2.St) (F H : Hp) (sa : Option Addr) : Prop where
  ff : Same B.F0 F
  fh : Same F H
  hh : ∀ a o, B.H0 a = some o → B.sa0 ≠ some a → Kp B o → H a = some o
  nf : ∀ a o, B.H0 a = some o → Kp B o → B.F0 a = none → F a = none
  tb : LamX.Tabs B.T H
  sa0 : sa = B.sa0 ∨ B.sa0 = none
  so : ∀ a, sa = some a → F a = none ∧ H a = some (.lst [.int S.1, .int S.2]) ∧ (B.sa0 = some a ∨ Fr B B.H0 a)
  len : env.length = σ.length
  sl : ∀ (i : Nat) (it : It), env[i]? = some (some it) → ∃ v, σ[i]? = some (some v) ∧ ItOk B F H sa it v
  dj : ∀ (i j : Nat) (xs ys : List DD) (a : Addr), i ≠ j → env[i]? = some (some (.l xs)) → env[j]? = some (some (.l ys)) → σ[i]? = some (some (.ref a)) → σ[j]? ≠ some (some (.ref a))
  ft : ∀ a ps, F a ≠ some (.tbl ps)

/-- how the heaps grow: what is laid down stays, what was there stays but the source and the tables, what was not laid down is not -/
structure Gw (B : Bs) (sa : Option Addr) (F H F' H' : Hp) : Prop where
  ff : Same F F'
  kp : ∀ a o, H a = some o → sa ≠ some a → Kp B o → H' a = some o
  nf : ∀ a o, H a = some o → Kp B o → F a = none → F' a = none
  hh : ∀ a o, H a = some o → Kp B o → ∃ o', H' a = some o' ∧ Kp B o'
theorem Gw.refl {B : Bs} {sa : Option Addr} {F H : Hp} : Gw B sa F H F H := ⟨Same.refl F, fun _ _ e _ _ => e, fun _ _ _ _ e => e, fun _ o e k => ⟨o, e, k⟩⟩
theorem Gw.trans {B : Bs} {sa : Option Addr} {F H F1 H1 F2 H2 : Hp} (a : Gw B sa F H F1 H1) (b : Gw B sa F1 H1 F2 H2) : Gw B sa F H F2 H2 :=
  ⟨a.ff.trans b.ff, fun c o e h1 h2 => b.kp c o (a.kp c o e h1 h2) h1 h2, fun c o e h1 h2 => let ⟨o', e', k'⟩ := a.hh c o e h1; b.nf c o' e' k' (a.nf c o e h1 h2), fun c o e h => let ⟨o', e', k'⟩ := a.hh c o e h; b.hh c o' e' k'⟩

/-- what is wished of an error -/
def ExP (B : Bs) (W : WX) (e : Ex) (σ : L2.St) (F H : Hp) : Prop := match e.arg with
  | none => W (B.cls e.k) none σ H
  | some (f, x) => ∀ d v, F d = none → H d = some (.xd [(f, v)]) → Rp B.K F v x → W (B.cls e.k) (some d) σ H
def Bad (B : Bs) (W : WX) (env : Env) (σ : L2.St) (F H : Hp) (sa : Option Addr) : Ex → Sr → Prop := fun e S => ∀ F' H', Ok B env S σ F' H' sa → Gw B sa F H F' H' → ExP B W e σ F' H'
def Good (B : Bs) (env : Env) (σ : L2.St) (F H : Hp) (sa : Option Addr) (Q : VK) : DD → Sr → Prop := fun d S => ∀ v F' H', Ok B env S σ F' H' sa → Gw B sa F H F' H' → Rp B.K F' v d → Q v H'
def GoodB (B : Bs) (env : Env) (σ : L2.St) (F H : Hp) (sa : Option Addr) (Q : Bool → Hp → Prop) : Bool → Sr → Prop := fun b S => ∀ F' H', Ok B env S σ F' H' sa → Gw B sa F H F' H' → Q b H'
def GoodL (B : Bs) (env : Env) (σ : L2.St) (F H : Hp) (sa : Option Addr) (Q : List V → Hp → Prop) : List DD → Sr → Prop := fun ds S => ∀ vs F' H', Ok B env S σ F' H' sa → Gw B sa F H F' H' → RpA B.K F' vs ds → Q vs H'

def SndE (B : Bs) (W : WX) (te : TE) (f : Env → M DD) : Prop := ∀ env S σ F H sa, Ok B env S σ F H sa → ∀ Q : VK, Post (Good B env σ F H sa Q) (Bad B W env σ F H sa) (f env S) → te σ H Q
def SndT (B : Bs) (W : WX) (tt : TT) (f : Env → M Bool) : Prop := ∀ env S σ F H sa, Ok B env S σ F H sa → ∀ Q : Bool → Hp → Prop, Post (GoodB B env σ F H sa Q) (Bad B W env σ F H sa) (f env S) → tt σ H Q
def SndA (B : Bs) (W : WX) (ta : TA) (f : Env → M (List DD)) : Prop := ∀ env S σ F H sa, Ok B env S σ F H sa → ∀ Q : List V → Hp → Prop, Post (GoodL B env σ F H sa Q) (Bad B W env σ F H sa) (f env S) → ta σ H Q
structure DE (X : Cx) (B : Bs) (W : WX) (e : Expr) (f : Env → M DD) : Prop where
  ex : ∃ te, PE X e te ∧ SndE B W te f
structure DT (X : Cx) (B : Bs) (W : WX) (e : Expr) (f : Env → M Bool) : Prop where
  ex : ∃ te, PT X e te ∧ SndT B W te f
structure DW (X : Cx) (B : Bs) (W : WX) (e : Expr) (f : Env → M Bool) : Prop where
  ex : ∃ te, PW X e te ∧ SndT B W te f
structure DA (X : Cx) (B : Bs) (W : WX) (es : List Expr) (f : Env → M (List DD)) : Prop where
  ex : ∃ te, PA X es te ∧ SndA B W te f

/-! ### how what is known goes on -/
section
variable {B : Bs} {env : Env} {S : Sr} {σ : L2.St} {F H : Hp} {sa : Option Addr}
theorem Ok.there (k : Ok B env S σ F H sa) {a : Addr} {u : HO} (q : B.H0 a = some u) (ku : Kp B u) : ∃ o, H a = some o ∧ Kp B o := by
  by_cases hs : B.sa0 = some a
  · rcases k.sa0 with e | e
    · exact ⟨_, (k.so a (by rw [e]; exact hs)).2.1, .lst⟩
    · rw [e] at hs
      cases hs
  · exact ⟨u, k.hh a u q hs ku, ku⟩
theorem Ok.fr0 (k : Ok B env S σ F H sa) {p : Addr} (hp : Fr B H p) : Fr B B.H0 p := fun u q ku => by
  obtain ⟨o, e, ko⟩ := k.there q ku
  exact hp o e ko
/-- a new object of data is laid -/
theorem Ok.new (k : Ok B env S σ F H sa) {p : Addr} (hp : H p = none) (o : HO) (ho : ∀ ps, o ≠ .tbl ps := by intro ps z; cases z) : Ok B env S σ (upd F p o) (upd H p o) sa := by
  have fp : F p = none := k.fh.free hp
  have f0p : B.F0 p = none := k.ff.free fp
  have sF : Same F (upd F p o) := fun b u e => by
    rw [upd_ne (ne_of_none e fp)]
    exact e
  have sH : Same H (upd H p o) := fun b u e => by
    rw [upd_ne (ne_of_none e hp)]
    exact e
  refine ⟨k.ff.trans sF, fun b u e => ?_, fun a u e h1 h2 => sH _ _ (k.hh a u e h1 h2), fun a u h0 h1 h2 => ?_, k.tb.ext sH, k.sa0, fun a e => ?_, k.len, fun i it e => ?_, fun i j xs ys a h1 h2 h3 h4 => k.dj i j xs ys a h1 h2 h3 h4, fun a ps e => ?_⟩
  · by_cases hb : b = p
    · subst hb
      rw [upd_same] at e ⊢
      exact e
    · rw [upd_ne hb] at e ⊢
      exact k.fh _ _ e
  · have h3 := k.nf a u h0 h1 h2
    obtain ⟨o', e', _⟩ := k.there h0 h1
    rw [upd_ne (ne_of_none e' hp)]
    exact h3
  · obtain ⟨h1, h2, h4⟩ := k.so a e
    have ne : a ≠ p := ne_of_none h2 hp
    exact ⟨by rw [upd_ne ne]; exact h1, by rw [upd_ne ne]; exact h2, h4⟩
  · obtain ⟨v, h1, h2⟩ := k.sl i it e
    refine ⟨v, h1, ?_⟩
    cases it with
    | d x => exact Rp.same sF x h2
    | l xs =>
      obtain ⟨a, vs, e1, e2, e3, e4, e5, e6⟩ := h2
      have ne : a ≠ p := ne_of_none e5 hp
      exact ⟨a, vs, e1, by rw [upd_ne ne]; exact e2, e3, e4, by rw [upd_ne ne]; exact e5, RpA.same sF xs e6⟩
    | s => exact h2
    | sc ns =>
      obtain ⟨a, e1, e2⟩ := h2
      exact ⟨a, e1, Same.seq sF e2⟩
  · by_cases hb : a = p
    · rw [hb, upd_same] at e
      exact ho ps (Option.some.inj e)
    · rw [upd_ne hb] at e
      exact k.ft a ps e
theorem Ok.gw (k : Ok B env S σ F H sa) {p : Addr} (hp : H p = none) (o : HO) : Gw B sa F H (upd F p o) (upd H p o) := by
  refine ⟨fun b u e => ?_, fun b u e _ _ => ?_, fun b u e h1 h2 => ?_, fun b u e h => ⟨u, ?_, h⟩⟩
  · rw [upd_ne (ne_of_none e (k.fh.free hp))]
    exact e
  · rw [upd_ne (ne_of_none e hp)]
    exact e
  · rw [upd_ne (ne_of_none e hp)]
    exact h2
  · rw [upd_ne (ne_of_none e hp)]
    exact e
theorem Ok.sF (k : Ok B env S σ F H sa) {p : Addr} (hp : H p = none) (o : HO) : Same F (upd F p o) := fun b u e => by
  rw [upd_ne (ne_of_none e (k.fh.free hp))]
  exact e
end
end AU
namespace AU
open PySem PySem.Spec PyProof.Rows L2

def OpSnd (B : Bs) (W : WX) (r : R2) (op : DD → DD → M DD) : Prop := ∀ env S σ F H sa v w x y, Ok B env S σ F H sa → Rp B.K F v x → Rp B.K F w y → ∀ Q : VK, Post (Good B env σ F H sa Q) (Bad B W env σ F H sa) (op x y S) → r v w H Q
def eOp (op : DD → DD → M DD) (a b : Env → M DD) : Env → M DD := fun env => bnd (a env) fun x => bnd (b env) fun y => op x y
theorem Bad.of {B : Bs} {W : WX} {env : Env} {σ : L2.St} {F F' H H' : Hp} {sa : Option Addr} {e : Ex} {S : Sr} (g : Gw B sa F H F' H') (b : Bad B W env σ F H sa e S) : Bad B W env σ F' H' sa e S := fun F2 H2 k s => b F2 H2 k (g.trans s)
theorem Good.of {B : Bs} {env : Env} {σ : L2.St} {F F' H H' : Hp} {sa : Option Addr} {Q : VK} {d : DD} {S : Sr} (e : Gw B sa F H F' H') (g : Good B env σ F H sa Q d S) : Good B env σ F' H' sa Q d S := fun v F2 H2 k s r => g v F2 H2 k (e.trans s) r
theorem Post.same {B : Bs} {W : WX} {env : Env} {σ : L2.St} {F F' H H' : Hp} {sa : Option Addr} {Q : VK} {r : Option (Except Ex DD × Sr)} (e : Gw B sa F H F' H') (g : Post (Good B env σ F H sa Q) (Bad B W env σ F H sa) r) : Post (Good B env σ F' H' sa Q) (Bad B W env σ F' H' sa) r :=
  g.mono (fun _ _ => Good.of e) fun _ _ => Bad.of e
theorem GoodB.of {B : Bs} {env : Env} {σ : L2.St} {F F' H H' : Hp} {sa : Option Addr} {Q : Bool → Hp → Prop} {d : Bool} {S : Sr} (e : Gw B sa F H F' H') (g : GoodB B env σ F H sa Q d S) : GoodB B env σ F' H' sa Q d S := fun F2 H2 k s => g F2 H2 k (e.trans s)
theorem Post.sameB {B : Bs} {W : WX} {env : Env} {σ : L2.St} {F F' H H' : Hp} {sa : Option Addr} {Q : Bool → Hp → Prop} {r : Option (Except Ex Bool × Sr)} (e : Gw B sa F H F' H') (g : Post (GoodB B env σ F H sa Q) (Bad B W env σ F H sa) r) : Post (GoodB B env σ F' H' sa Q) (Bad B W env σ F' H' sa) r :=
  g.mono (fun _ _ => GoodB.of e) fun _ _ => Bad.of e
theorem GoodL.of {B : Bs} {env : Env} {σ : L2.St} {F F' H H' : Hp} {sa : Option Addr} {Q : List V → Hp → Prop} {d : List DD} {S : Sr} (e : Gw B sa F H F' H') (g : GoodL B env σ F H sa Q d S) : GoodL B env σ F' H' sa Q d S := fun vs F2 H2 k s r => g vs F2 H2 k (e.trans s) r
theorem Post.sameL {B : Bs} {W : WX} {env : Env} {σ : L2.St} {F F' H H' : Hp} {sa : Option Addr} {Q : List V → Hp → Prop} {r : Option (Except Ex (List DD) × Sr)} (e : Gw B sa F H F' H') (g : Post (GoodL B env σ F H sa Q) (Bad B W env σ F H sa) r) : Post (GoodL B env σ F' H' sa Q) (Bad B W env σ F' H' sa) r :=
  g.mono (fun _ _ => GoodL.of e) fun _ _ => Bad.of e

section
variable {B : Bs} {W : WX} {X : Cx} {a b c : Expr} {fa fb fc : Env → M DD} {pos : Pos} {ta tb tc : TE}
theorem sndE_op {r : R2} {op : DD → DD → M DD} (ho : OpSnd B W r op) (ha : SndE B W ta fa) (hb : SndE B W tb fb) : SndE B W (tOp r ta tb) (eOp op fa fb) := fun env S σ F H sa k Q h =>
  ha env S σ F H sa k _ (Post.bnd h |>.imp fun x S1 h1 v F1 H1 k1 s1 r1 =>
    hb env S1 σ F1 H1 sa k1 _ ((Post.bnd (h1.same s1)).imp fun y S2 h2 w F2 H2 k2 s2 r2 =>
      ho env S2 σ F2 H2 sa v w x y k2 (Rp.same s2.ff x r1) r2 Q (h2.same s2)))
theorem de_op {r : R2} {op : Operator} {f : DD → DD → M DD} (ho : OpR X (binaryOp op) r) (hs : OpSnd B W r f) (ha : DE X B W a fa) (hb : DE X B W b fb) : DE X B W (.BinOp a op b pos) (eOp f fa fb) := by
  obtain ⟨ta, pa, sa⟩ := ha.ex
  obtain ⟨tb, pb, sb⟩ := hb.ex
  exact ⟨_, pe_op ho pa pb, sndE_op hs sa sb⟩
theorem de_cmp {r : R2} {op : CmpOp} {f : DD → DD → M DD} (ho : OpR X (compareOp op) r) (hs : OpSnd B W r f) (ha : DE X B W a fa) (hb : DE X B W b fb) (hm : behindInMarks op b = false := by first | exact nomark _ | rfl) : DE X B W (.Compare a [op] [b] pos) (eOp f fa fb) := by
  obtain ⟨ta, pa, sa⟩ := ha.ex
  obtain ⟨tb, pb, sb⟩ := hb.ex
  exact ⟨_, pe_cmpR ho pa pb hm, sndE_op hs sa sb⟩
theorem OpR.or {f : Value → Value → Sem Value} {r r' : R2} (h : OpR X f r) (h' : OpR X f r') : OpR X f (fun x y H Q => r x y H Q ∨ r' x y H Q) := by
  intro pins s σ H x y v u Q I rx ry q
  rcases q with q | q
  · exact h pins s σ H x y v u Q I rx ry q
  · exact h' pins s σ H x y v u Q I rx ry q

/-! ### names, constants -/
def eVar (i : Nat) : Env → M DD := fun env => match env[i]? with
  | some (some (.d x)) => ret x
  | _ => stk
theorem sndE_var (i : Nat) : SndE B W (tVar i) (eVar i) := fun env S σ F H sa k Q h => by
  unfold eVar at h
  cases e : env[i]? with
  | none => rw [e] at h; exact h.elim
  | some o =>
    cases o with
    | none => rw [e] at h; exact h.elim
    | some it =>
      cases it with
      | d x =>
        rw [e] at h
        obtain ⟨v, h1, h2⟩ := k.sl i _ e
        exact ⟨v, h1, h v F H k Gw.refl h2⟩
      | l xs => rw [e] at h; exact h.elim
      | s => rw [e] at h; exact h.elim
      | sc ns => rw [e] at h; exact h.elim
theorem de_var (i : Nat) {x : Str} (hN : X.N[i]? = some x := by rfl) (hv : Vis X.env.scope x := by first | exact Or.inl rfl | exact Or.inr (Or.inl rfl) | exact Or.inr (Or.inr rfl)) (hd : (x == ("__debug__" : Str)) = false := by decide)
    (hcd : (x == ("__classdict__" : Str)) = false := by decide) : DE X B W (.Name x pos) (eVar i) := ⟨_, pe_var hN hv hd hcd, sndE_var i⟩
def eC (d : DD) : Env → M DD := fun _ => ret d
theorem sndE_c {v : V} {d : DD} (h : ∀ F, Rp B.K F v d) : SndE B W (tC v) (eC d) := fun env S σ F H sa k Q q => q v F H k Gw.refl (h F)
theorem de_int {i : Int} {j : Nat} : DE X B W (.Constant (.int i) j pos) (eC (.int i)) := ⟨_, pe_int, sndE_c fun _ => .int i⟩
theorem de_bl {i : Bool} {j : Nat} : DE X B W (.Constant (.bool i) j pos) (eC (.bl i)) := ⟨_, pe_bl, sndE_c fun _ => .bl i⟩
theorem de_non {j : Nat} : DE X B W (.Constant .none j pos) (eC .non) := ⟨_, pe_non, sndE_c fun _ => .non⟩
theorem de_str {x : Str} {j : Nat} : DE X B W (.Constant (.str x) j pos) (eC (.str x)) := ⟨_, pe_str, sndE_c fun _ => .str x⟩
theorem de_glob {x : Str} {v : V} {u : Value} {d : DD} (hm : X.mg x = some u) (r : RelV v u) (h : ∀ F, Rp B.K F v d) (hg : Gl X x := by rfl) (hd : (x == ("__debug__" : Str)) = false := by decide) : DE X B W (.Name x pos) (eC d) := ⟨_, pe_glob hg hm r hd, sndE_c h⟩

/-! ### the operators -/
def szOk (n : Nat) : Bool := decide (n ≤ 100000)
theorem szOk.le {n : Nat} (h : szOk n = true) : n ≤ sizeLine := Nat.le_trans (of_decide_eq_true h) (by rw [sizeLine_eq]; decide)
def opAdd : DD → DD → M DD
  | .int i, .int j => ret (.int (i + j))
  | .str x, .str y => if szOk (x.length + y.length) = true then ret (.str (x ++ y)) else stk
  | .lst x, .lst y => if szOk (x.length + y.length) = true then ret (.lst (x ++ y)) else stk
  | .tup x, .tup y => if szOk (x.length + y.length) = true then ret (.tup (x ++ y)) else stk
  | _, _ => stk
def rAddD (K : PySem.W.Frag) : R2 := fun x y H Q => (rI0 fun i j => .int (i + j)) x y H Q ∨ (∃ i j, x = .str i ∧ y = .str j ∧ i.length + j.length ≤ sizeLine ∧ Q (.str (i ++ j)) H) ∨ rCat x y H Q ∨ rCatA K x y H Q
theorem or_add : OpR X (binaryOp .Add) (rAddD X.K) := OpR.or op_add (OpR.or op_add_str (OpR.or op_cat op_catA))
theorem post_if {α : Type} {good : α → Sr → Prop} {bad : Ex → Sr → Prop} {c : Bool} {m : M α} {S : Sr} (h : Post good bad ((if c = true then m else stk) S)) : c = true ∧ Post good bad (m S) := by
  cases c with
  | true => exact ⟨rfl, h⟩
  | false => exact h.elim
theorem good_new {env : Env} {S : Sr} {σ : L2.St} {F H : Hp} {sa : Option Addr} {Q : VK} {d : DD} {o : HO} (k : Ok B env S σ F H sa) (g : Good B env σ F H sa Q d S) (hr : ∀ p F', Same F F' → F' p = some o → Rp B.K F' (.ref p) d) (ho : ∀ ps, o ≠ .tbl ps := by intro ps z; cases z) : ∀ p, H p = none → Q (.ref p) (upd H p o) := fun p hp =>
  g _ _ _ (k.new hp o ho) (k.gw hp o) (hr p _ (k.sF hp o) upd_same)
theorem snd_add : OpSnd B W (rAddD B.K) opAdd := fun env S σ F H sa v w x y k rx ry Q h => by
  cases x with
  | int i =>
    cases y with
    | int j =>
      cases rx.int_inv
      cases ry.int_inv
      exact .inl ⟨i, j, rfl, rfl, h _ F H k Gw.refl (.int _)⟩
    | _ => exact h.elim
  | str i =>
    cases y with
    | str j =>
      cases rx.str_inv
      cases ry.str_inv
      obtain ⟨hc, h⟩ := post_if h
      exact .inr (.inl ⟨i, j, rfl, rfl, szOk.le hc, h _ F H k Gw.refl (.str _)⟩)
    | _ => exact h.elim
  | lst xs =>
    cases y with
    | lst ys =>
      obtain ⟨p, vs, rfl, h1, h2⟩ := rx.lst_inv
      obtain ⟨q, ws, rfl, h3, h4⟩ := ry.lst_inv
      obtain ⟨hc, h⟩ := post_if h
      refine .inr (.inr (.inl ⟨p, q, vs, ws, rfl, rfl, k.fh _ _ h1, k.fh _ _ h3, ?_, good_new k h fun p F' e hp => .lst hp (RpA.same e _ (h2.append h4))⟩))
      rw [h2.length, h4.length]
      exact szOk.le hc
    | _ => exact h.elim
  | tup xs =>
    cases y with
    | tup ys =>
      obtain ⟨p, vs, rfl, h1, h2⟩ := rx.tup_inv
      obtain ⟨q, ws, rfl, h3, h4⟩ := ry.tup_inv
      obtain ⟨hc, h⟩ := post_if h
      refine .inr (.inr (.inr ⟨p, q, vs, ws, rfl, rfl, sqT_same k.fh h1, sqT_same k.fh h3, ?_, fun e => ?_, fun _ e => ?_, fun _ _ => good_new k h fun p F' e hp => .tup (SqT.of hp) (RpA.same e _ (h2.append h4))⟩))
      · rw [h2.length, h4.length]
        exact szOk.le hc
      · subst e
        cases h2
        exact h _ F H k Gw.refl (.tup h3 h4)
      · subst e
        cases h4
        rw [List.append_nil] at h
        exact h _ F H k Gw.refl (.tup h1 h2)
    | _ => exact h.elim
  | _ => exact h.elim
theorem de_add (hK : B.K = X.K) (ha : DE X B W a fa) (hb : DE X B W b fb) : DE X B W (.BinOp a .Add b pos) (eOp opAdd fa fb) := de_op or_add (hK ▸ snd_add) ha hb

/-- ints in -/
def opI (C : Int → Int → Bool) (g : Int → Int → DD) : DD → DD → M DD
  | .int i, .int j => if C i j = true then ret (g i j) else stk
  | _, _ => stk
theorem snd_I {C : Int → Int → Bool} {C' : Int → Int → Prop} {g : Int → Int → DD} {g' : Int → Int → V} (hc : ∀ i j, C i j = true → C' i j) (hg : ∀ F i j, Rp B.K F (g' i j) (g i j)) : OpSnd B W (rI C' g') (opI C g) := fun env S σ F H sa v w x y k rx ry Q h => by
  cases x with
  | int i =>
    cases y with
    | int j =>
      cases rx.int_inv
      cases ry.int_inv
      obtain ⟨c, h⟩ := post_if h
      exact ⟨i, j, rfl, rfl, hc i j c, h _ F H k Gw.refl (hg F i j)⟩
    | _ => exact h.elim
  | _ => exact h.elim
theorem snd_I0 {g : Int → Int → DD} {g' : Int → Int → V} (hg : ∀ F i j, Rp B.K F (g' i j) (g i j)) : OpSnd B W (rI0 g') (opI (fun _ _ => true) g) := fun env S σ F H sa v w x y k rx ry Q h => by
  cases x with
  | int i =>
    cases y with
    | int j =>
      cases rx.int_inv
      cases ry.int_inv
      exact ⟨i, j, rfl, rfl, h _ F H k Gw.refl (hg F i j)⟩
    | _ => exact h.elim
  | _ => exact h.elim
def opSub := opI (fun _ _ => true) fun i j => .int (i - j)
def cDiv (_ j : Int) : Bool := decide (0 < j) && decide (j < 10 ^ 40)
def opDiv := opI cDiv fun i j => .int (i / j)
def opMod := opI (fun _ j => decide (0 < j)) fun i j => .int (i % j)
def opPow := opI (fun i j => decide (0 ≤ j) && decide (j ≤ 1000) && decide (i.natAbs < 1000)) fun i j => .int (i ^ j.toNat)
def opLt := opI (fun _ _ => true) fun i j => .bl (decide (i < j))
def opLe := opI (fun _ _ => true) fun i j => .bl (decide (i ≤ j))
def opGt := opI (fun _ _ => true) fun i j => .bl (decide (j < i))
def opGe := opI (fun _ _ => true) fun i j => .bl (decide (j ≤ i))
theorem de_sub (ha : DE X B W a fa) (hb : DE X B W b fb) : DE X B W (.BinOp a .Sub b pos) (eOp opSub fa fb) := de_op op_sub (snd_I0 fun _ _ _ => .int _) ha hb
theorem de_div (ha : DE X B W a fa) (hb : DE X B W b fb) : DE X B W (.BinOp a .FloorDiv b pos) (eOp opDiv fa fb) := de_op op_fdivW (snd_I (C := cDiv) (fun i j h => by
  unfold cDiv at h
  simp only [Bool.and_eq_true, decide_eq_true_eq] at h
  exact wide_div (b := 200) h.1 (by
    have e : (10 : Int) ^ 40 < 2 ^ 200 := by decide
    have e2 : ((2 : Nat) ^ 200 : Nat) = ((2 : Int) ^ 200).toNat := by decide
    omega) (by decide) (by decide)) fun _ _ _ => .int _) ha hb
theorem de_mod (ha : DE X B W a fa) (hb : DE X B W b fb) : DE X B W (.BinOp a .Mod b pos) (eOp opMod fa fb) := de_op op_mod (snd_I (C := fun _ j => decide (0 < j)) (fun _ _ h => of_decide_eq_true h) fun _ _ _ => .int _) ha hb
theorem de_pow (ha : DE X B W a fa) (hb : DE X B W b fb) : DE X B W (.BinOp a .Pow b pos) (eOp opPow fa fb) := de_op op_pow (snd_I (fun i j h => by
  simp only [Bool.and_eq_true, decide_eq_true_eq] at h
  exact ⟨h.1.1, by omega, by omega⟩) fun _ _ _ => .int _) ha hb
theorem de_lt (ha : DE X B W a fa) (hb : DE X B W b fb) : DE X B W (.Compare a [.Lt] [b] pos) (eOp opLt fa fb) := de_cmp op_lt (snd_I0 fun _ _ _ => .bl _) ha hb (nomark _)
theorem de_le (ha : DE X B W a fa) (hb : DE X B W b fb) : DE X B W (.Compare a [.LtE] [b] pos) (eOp opLe fa fb) := de_cmp op_le (snd_I0 fun _ _ _ => .bl _) ha hb (nomark _)
theorem de_gt (ha : DE X B W a fa) (hb : DE X B W b fb) : DE X B W (.Compare a [.Gt] [b] pos) (eOp opGt fa fb) := de_cmp op_gt (snd_I0 fun _ _ _ => .bl _) ha hb (nomark _)
theorem de_ge (ha : DE X B W a fa) (hb : DE X B W b fb) : DE X B W (.Compare a [.GtE] [b] pos) (eOp opGe fa fb) := de_cmp op_ge (snd_I0 fun _ _ _ => .bl _) ha hb (nomark _)
/-- products: two ints (one of them small), a tuple or a list again and again -/
def opMul : DD → DD → M DD
  | .int i, .int j => if (decide (i.natAbs < 2 ^ 64) || decide (j.natAbs < 2 ^ 64)) = true then ret (.int (i * j)) else stk
  | .tup xs, .int k => if (!xs.isEmpty && decide (2 ≤ k) && decide (k ≤ 1000) && decide (xs.length ≤ 1000)) = true then ret (.tup (List.replicate k.toNat xs).flatten) else stk
  | .lst xs, .int k => if (decide (0 ≤ k) && decide (k ≤ 1000) && decide (xs.length ≤ 100)) = true then ret (.lst (List.replicate k.toNat xs).flatten) else stk
  | _, _ => stk
def rMulD (K : PySem.W.Frag) : R2 := fun x y H Q => (rI CMul fun i j => .int (i * j)) x y H Q ∨ rRepT K x y H Q ∨ rRep x y H Q
theorem or_mul : OpR X (binaryOp .Mult) (rMulD X.K) := OpR.or op_mul (OpR.or op_repT op_rep)
theorem snd_mul : OpSnd B W (rMulD B.K) opMul := fun env S σ F H sa v w x y k rx ry Q h => by
  cases x with
  | int i =>
    cases y with
    | int j =>
      cases rx.int_inv
      cases ry.int_inv
      obtain ⟨c, h⟩ := post_if h
      simp only [Bool.or_eq_true, decide_eq_true_eq] at c
      refine .inl ⟨i, j, rfl, rfl, ?_, h _ F H k Gw.refl (.int _)⟩
      rcases c with c | c
      · exact .inl (by omega)
      · exact .inr (by omega)
    | _ => exact h.elim
  | tup xs =>
    cases y with
    | int j =>
      cases ry.int_inv
      obtain ⟨p, vs, rfl, h1, h2⟩ := rx.tup_inv
      obtain ⟨c, h⟩ := post_if h
      simp only [Bool.and_eq_true, decide_eq_true_eq, Bool.not_eq_true'] at c
      have hl := h2.length
      refine .inr (.inl ⟨p, j, vs, rfl, rfl, sqT_same k.fh h1, fun e => ?_, c.1.1.2, c.1.2, by omega, good_new k h fun p F' e hp => .tup (SqT.of hp) (RpA.same e _ (h2.rep _))⟩)
      subst e
      cases h2
      exact absurd c.1.1.1 (by decide)
    | _ => exact h.elim
  | lst xs =>
    cases y with
    | int j =>
      cases ry.int_inv
      obtain ⟨p, vs, rfl, h1, h2⟩ := rx.lst_inv
      obtain ⟨c, h⟩ := post_if h
      simp only [Bool.and_eq_true, decide_eq_true_eq] at c
      have hl := h2.length
      refine .inr (.inr ⟨p, j, vs, rfl, rfl, k.fh _ _ h1, by omega, by omega, ?_, good_new k h fun p F' e hp => .lst hp (RpA.same e _ (h2.rep _))⟩)
      have a1 : vs.length * j.toNat ≤ 100 * 1000 := Nat.mul_le_mul (by omega) (by omega)
      rw [sizeLine_eq]
      omega
    | _ => exact h.elim
  | _ => exact h.elim
theorem de_mul (hK : B.K = X.K) (ha : DE X B W a fa) (hb : DE X B W b fb) : DE X B W (.BinOp a .Mult b pos) (eOp opMul fa fb) := de_op or_mul (hK ▸ snd_mul) ha hb
/-- == and != of data -/
def eqOk (d : DD) : Bool := d.pure && SeqAt.shaped d.py
def opEq (x y : DD) : M DD := if (eqOk x && eqOk y) = true then ret (.bl (PyData.eqv x.py y.py)) else stk
def opNe (x y : DD) : M DD := if (eqOk x && eqOk y) = true then ret (.bl (!PyData.eqv x.py y.py)) else stk
theorem dp_of {F H : Hp} {K : PySem.W.Frag} {v : V} {d : DD} (e : Same F H) (h : eqOk d = true) (r : Rp K F v d) : Dp K H v d.py ∧ SeqAt.shaped d.py = true := by
  unfold eqOk at h
  simp only [Bool.and_eq_true] at h
  exact ⟨Rp.dp d h.1 (Rp.same e d r), h.2⟩
theorem snd_eq : OpSnd B W (rEqD B.K) opEq := fun env S σ F H sa v w x y k rx ry Q h => by
  obtain ⟨c, h⟩ := post_if h
  simp only [Bool.and_eq_true] at c
  obtain ⟨d1, s1⟩ := dp_of k.fh c.1 rx
  obtain ⟨d2, s2⟩ := dp_of k.fh c.2 ry
  exact ⟨_, _, d1, d2, s1, s2, h _ F H k Gw.refl (.bl _)⟩
theorem snd_ne : OpSnd B W (rNeD B.K) opNe := fun env S σ F H sa v w x y k rx ry Q h => by
  obtain ⟨c, h⟩ := post_if h
  simp only [Bool.and_eq_true] at c
  obtain ⟨d1, s1⟩ := dp_of k.fh c.1 rx
  obtain ⟨d2, s2⟩ := dp_of k.fh c.2 ry
  exact ⟨_, _, d1, d2, s1, s2, h _ F H k Gw.refl (.bl _)⟩
theorem de_eq {n : Nat} (hK : B.K = X.K) (hr : Room n X.A) (ha : DE X B W a fa) (hb : DE X B W b fb) : DE X B W (.Compare a [.Eq] [b] pos) (eOp opEq fa fb) := de_cmp (op_eqD hr.units) (hK ▸ snd_eq) ha hb (nomark _)
theorem de_ne {n : Nat} (hK : B.K = X.K) (hr : Room n X.A) (ha : DE X B W a fa) (hb : DE X B W b fb) : DE X B W (.Compare a [.NotEq] [b] pos) (eOp opNe fa fb) := de_cmp (op_neD hr.units) (hK ▸ snd_ne) ha hb (nomark _)
/-- is None, is not None; is, is not of truth values -/
def opIs : DD → DD → M DD
  | .raw _, _ => stk
  | .dct _ _, _ => stk
  | .non, .non => ret (.bl true)
  | _, .non => ret (.bl false)
  | _, _ => stk
def opIsNot (x y : DD) : M DD := bnd (opIs x y) fun z => match z with
  | .bl b => ret (.bl (!b))
  | _ => stk
theorem opIs_snd {env : Env} {S : Sr} {σ : L2.St} {F H : Hp} {sa : Option Addr} {v w : V} {x y : DD} {good : DD → Sr → Prop} {bad : Ex → Sr → Prop} (rx : Rp B.K F v x) (ry : Rp B.K F w y) (h : Post good bad (opIs x y S)) : w = .non ∧ good (.bl (decide (v = .non))) S := by
  cases y with
  | non =>
    refine ⟨ry.non_inv, ?_⟩
    cases x with
    | non => cases rx; exact h
    | bl b => cases rx; exact h
    | int i => cases rx; exact h
    | str i => cases rx; exact h
    | lst i => cases rx; exact h
    | tup i => cases rx; exact h
    | raw i => exact h.elim
    | dct _ _ => exact h.elim
  | _ => cases x <;> exact h.elim
theorem snd_is : OpSnd B W (fun x y H Q => y = .non ∧ Q (.bl (decide (x = .non))) H) opIs := fun env S σ F H sa v w x y k rx ry Q h => by
  obtain ⟨e, g⟩ := opIs_snd (env := env) (σ := σ) (H := H) (sa := sa) rx ry h
  exact ⟨e, g _ F H k Gw.refl (.bl _)⟩
theorem snd_isnot : OpSnd B W (fun x y H Q => y = .non ∧ Q (.bl (!decide (x = .non))) H) opIsNot := fun env S σ F H sa v w x y k rx ry Q h => by
  obtain ⟨e, g⟩ := opIs_snd (env := env) (σ := σ) (H := H) (sa := sa) rx ry (Post.bnd h)
  exact ⟨e, g _ F H k Gw.refl (.bl _)⟩
theorem de_isN (ha : DE X B W a fa) (hb : DE X B W b fb) : DE X B W (.Compare a [.Is] [b] pos) (eOp opIs fa fb) := de_cmp op_isN snd_is ha hb (nomark _)
theorem de_notN (ha : DE X B W a fa) (hb : DE X B W b fb) : DE X B W (.Compare a [.IsNot] [b] pos) (eOp opIsNot fa fb) := de_cmp op_notN snd_isnot ha hb (nomark _)

/-! ### subscripts, slices -/
def ofO {α : Type} : Option α → M α
  | some x => ret x
  | none => stk
theorem post_ofO {α : Type} {good : α → Sr → Prop} {bad : Ex → Sr → Prop} {o : Option α} {S : Sr} (h : Post good bad (ofO o S)) : ∃ d, o = some d ∧ good d S := by
  cases o with
  | none => exact h.elim
  | some d => exact ⟨d, rfl, h⟩
def opIx : DD → DD → M DD
  | .lst xs, .int i => ofO (atI xs i)
  | .tup xs, .int i => ofO (atI xs i)
  | .str z, .int i => if szOk z.length = true then ofO ((atI z.cps.toList i).map fun c => .str ⟨#[c]⟩) else stk
  | _, _ => stk
theorem RpA.atI {K : PySem.W.Frag} {F : Hp} {vs : List V} {ds : List DD} {i : Int} {d : DD} (r : RpA K F vs ds) (h : L2.atI ds i = some d) : ∃ v, L2.atI vs i = some v ∧ Rp K F v d := by
  unfold L2.atI at h ⊢
  rw [r.length]
  cases e : ixN ds.length i with
  | none => rw [e] at h; cases h
  | some j =>
    rw [e] at h
    exact r.get h
theorem snd_ix : OpSnd B W (rIx B.K) opIx := fun env S σ F H sa v w x y k rx ry Q h => by
  cases x with
  | lst xs =>
    cases y with
    | int i =>
      cases ry.int_inv
      obtain ⟨p, vs, rfl, h1, h2⟩ := rx.lst_inv
      obtain ⟨d, e, h⟩ := post_ofO h
      obtain ⟨z, hz, rz⟩ := h2.atI e
      exact .inl ⟨p, vs, i, z, rfl, rfl, SqL.of (k.fh _ _ h1), hz, h _ F H k Gw.refl rz⟩
    | _ => exact h.elim
  | tup xs =>
    cases y with
    | int i =>
      cases ry.int_inv
      obtain ⟨p, vs, rfl, h1, h2⟩ := rx.tup_inv
      obtain ⟨d, e, h⟩ := post_ofO h
      obtain ⟨z, hz, rz⟩ := h2.atI e
      exact .inr (.inl ⟨p, vs, i, z, rfl, rfl, sqT_same k.fh h1, hz, h _ F H k Gw.refl rz⟩)
    | _ => exact h.elim
  | str z =>
    cases y with
    | int i =>
      cases ry.int_inv
      cases rx.str_inv
      obtain ⟨c, h⟩ := post_if h
      obtain ⟨d, e, h⟩ := post_ofO h
      cases e2 : L2.atI z.cps.toList i with
      | none => rw [e2] at e; cases e
      | some c2 =>
        rw [e2] at e
        cases e
        exact .inr (.inr ⟨z, i, c2, rfl, rfl, szOk.le c, e2, h _ F H k Gw.refl (.str _)⟩)
    | _ => exact h.elim
  | _ => exact h.elim
theorem de_ix (hK : B.K = X.K) (ha : DE X B W a fa) (hb : DE X B W b fb) (hs : PlainIx b := by exact fun _ _ => rfl) : DE X B W (.Subscript a b pos) (eOp opIx fa fb) := by
  obtain ⟨ta, pa, sa⟩ := ha.ex
  obtain ⟨tb, pb, sb⟩ := hb.ex
  exact ⟨_, pe_ix ix_seq pa pb hs, sndE_op (hK ▸ snd_ix) sa sb⟩
end
end AU
namespace AU
open PySem PySem.Spec PyProof.Rows L2

/-! ### argument lists, displays -/
def aNil : Env → M (List DD) := fun _ => ret []
def aCons (f : Env → M DD) (r : Env → M (List DD)) : Env → M (List DD) := fun env => bnd (f env) fun x => bnd (r env) fun xs => ret (x :: xs)
section
variable {B : Bs} {W : WX} {X : Cx} {a b c e : Expr} {es : List Expr} {fa fb fc : Env → M DD} {fr : Env → M (List DD)} {pos : Pos} {ta tb tc : TE} {tr : TA}
theorem sndA_nil : SndA B W tNil aNil := fun env S σ F H sa k Q h => h [] F H k Gw.refl .nil
theorem sndA_cons (ha : SndE B W ta fa) (hr : SndA B W tr fr) : SndA B W (tCons ta tr) (aCons fa fr) := fun env S σ F H sa k Q h =>
  ha env S σ F H sa k _ ((Post.bnd h).imp fun x S1 h1 v F1 H1 k1 s1 r1 =>
    hr env S1 σ F1 H1 sa k1 _ ((Post.bnd (h1.sameL s1)).imp fun xs S2 h2 vs F2 H2 k2 s2 r2 => h2 (v :: vs) F2 H2 k2 s2 (.cons (Rp.same s2.ff x r1) r2)))
theorem da_nil : DA X B W [] aNil := ⟨_, pa_nil, sndA_nil⟩
theorem da_cons (ha : DE X B W e fa) (hr : DA X B W es fr) (hs : starEach (e :: es) X.env = (false, eval e X.env) :: starEach es X.env := by rfl) : DA X B W (e :: es) (aCons fa fr) := by
  obtain ⟨ta, pa, sa⟩ := ha.ex
  obtain ⟨tr, pr, sr⟩ := hr.ex
  exact ⟨_, pa_cons pa pr hs, sndA_cons sa sr⟩
def eTup (f : Env → M (List DD)) : Env → M DD := fun env => bnd (f env) fun ds => if szOk ds.length = true then ret (.tup ds) else stk
def eLst (f : Env → M (List DD)) : Env → M DD := fun env => bnd (f env) fun ds => if szOk ds.length = true then ret (.lst ds) else stk
theorem good_sameF {env : Env} {S : Sr} {σ : L2.St} {F H F1 H1 : Hp} {sa : Option Addr} {Q : VK} {d : DD} {o : HO} (s1 : Gw B sa F H F1 H1) (k : Ok B env S σ F1 H1 sa) (g : Good B env σ F H sa Q d S) (hr : ∀ p F', Same F1 F' → F' p = some o → Rp B.K F' (.ref p) d) (ho : ∀ ps, o ≠ .tbl ps := by intro ps z; cases z) : ∀ p, H1 p = none → Q (.ref p) (upd H1 p o) :=
  good_new k (Good.of s1 g) hr ho
theorem sndE_tup (h : SndA B W tr fr) : SndE B W (tTup tr) (eTup fr) := fun env S σ F H sa k Q hq =>
  h env S σ F H sa k _ ((Post.bnd hq).imp fun ds S1 h1 vs F1 H1 k1 s1 r1 => by
    obtain ⟨c, g⟩ := post_if h1
    exact ⟨by rw [r1.length]; exact szOk.le c, good_sameF s1 k1 g fun p F' e hp => .tup (SqT.of hp) (RpA.same e _ r1)⟩)
theorem sndE_lst (h : SndA B W tr fr) : SndE B W (tLst tr) (eLst fr) := fun env S σ F H sa k Q hq =>
  h env S σ F H sa k _ ((Post.bnd hq).imp fun ds S1 h1 vs F1 H1 k1 s1 r1 => by
    obtain ⟨c, g⟩ := post_if h1
    exact ⟨by rw [r1.length]; exact szOk.le c, good_sameF s1 k1 g fun p F' e hp => .lst hp (RpA.same e _ r1)⟩)
theorem de_tup {x1} (h : DA X B W es fr) : DE X B W (.Tuple es x1 pos) (eTup fr) := by
  obtain ⟨t, p, s⟩ := h.ex
  exact ⟨_, pe_tup p, sndE_tup s⟩
theorem de_lst (h : DA X B W es fr) : DE X B W (.List es pos) (eLst fr) := by
  obtain ⟨t, p, s⟩ := h.ex
  exact ⟨_, pe_lst p, sndE_lst s⟩

/-! ### slices -/
def GoodO (B : Bs) (env : Env) (σ : L2.St) (F H : Hp) (sa : Option Addr) (Q : Option Int → Hp → Prop) : Option Int → Sr → Prop := fun o S => ∀ F' H', Ok B env S σ F' H' sa → Gw B sa F H F' H' → Q o H'
def SndO (B : Bs) (W : WX) (to : TO) (f : Env → M (Option Int)) : Prop := ∀ env S σ F H sa, Ok B env S σ F H sa → ∀ Q : Option Int → Hp → Prop, Post (GoodO B env σ F H sa Q) (Bad B W env σ F H sa) (f env S) → to σ H Q
structure DO (X : Cx) (B : Bs) (W : WX) (e : Option Expr) (f : Env → M (Option Int)) : Prop where
  ex : ∃ t, PO X e t ∧ SndO B W t f
def oNo : Env → M (Option Int) := fun _ => ret none
def oSome (f : Env → M DD) : Env → M (Option Int) := fun env => bnd (f env) fun d => match d with
  | .int i => ret (some i)
  | _ => stk
theorem do_no : DO X B W none oNo := ⟨_, po_none, fun env S σ F H sa k Q h => h F H k Gw.refl⟩
theorem do_some (h : DE X B W e fa) : DO X B W (some e) (oSome fa) := by
  obtain ⟨t, p, s⟩ := h.ex
  refine ⟨_, po_some p, fun env S σ F H sa k Q hq => s env S σ F H sa k _ ((Post.bnd hq).imp fun d S1 h1 v F1 H1 k1 s1 r1 => ?_)⟩
  cases d with
  | int i =>
    cases r1.int_inv
    exact ⟨i, rfl, h1 F1 H1 k1 s1⟩
  | _ => exact h1.elim
def cutD {α : Type} (xs : List α) (lo hi : Option Int) : List α := (xs.drop (HT.sIx xs.length 0 lo)).take (HT.sIx xs.length xs.length hi - HT.sIx xs.length 0 lo)
theorem RpA.cut {K : PySem.W.Frag} {F : Hp} {vs : List V} {ds : List DD} (r : RpA K F vs ds) (lo hi : Option Int) : RpA K F (cutV vs lo hi) (cutD ds lo hi) := by
  unfold cutV cutD
  rw [r.length]
  exact (r.drop _).take _
def opSl (x : DD) (lo hi : Option Int) : M DD := match x with
  | .lst xs => ret (.lst (cutD xs lo hi))
  | .tup xs => ret (.tup (cutD xs lo hi))
  | .str z => if szOk z.length = true then ret (.str (cutS z lo hi)) else stk
  | _ => stk
def rSlAll (K : PySem.W.Frag) : V → Option Int → Option Int → Hp → VK → Prop := fun x lo hi H Q => rSlL K x lo hi H Q ∨ (rSlA K x lo hi H Q ∨ rSlS x lo hi H Q)
theorem sl_all : SlR X (rSlAll X.K) := SlR.or sl_list (SlR.or sl_tupA sl_str)
theorem sIx_full {α : Type} {xs : List α} {lo hi : Option Int} (h : HT.sIx xs.length 0 lo = 0 ∧ HT.sIx xs.length xs.length hi = xs.length) : cutD xs lo hi = xs := by
  unfold cutD
  rw [h.1, h.2]
  simp
theorem snd_sl {env : Env} {S : Sr} {σ : L2.St} {F H : Hp} {sa : Option Addr} {v : V} {x : DD} {lo hi : Option Int} {Q : VK} (k : Ok B env S σ F H sa) (rx : Rp B.K F v x) (h : Post (Good B env σ F H sa Q) (Bad B W env σ F H sa) (opSl x lo hi S)) : rSlAll B.K v lo hi H Q := by
  cases x with
  | lst xs =>
    obtain ⟨p, vs, rfl, h1, h2⟩ := rx.lst_inv
    exact .inl ⟨p, vs, rfl, SqL.of (k.fh _ _ h1), good_new k h fun p F' e hp => .lst hp (RpA.same e _ (h2.cut lo hi))⟩
  | tup xs =>
    obtain ⟨p, vs, rfl, h1, h2⟩ := rx.tup_inv
    refine .inr (.inl ⟨p, vs, rfl, sqT_same k.fh h1, fun hw => ?_, fun hw => good_new k h fun p F' e hp => .tup (SqT.of hp) (RpA.same e _ (h2.cut lo hi))⟩)
    have e : cutD xs lo hi = xs := sIx_full (by rw [← h2.length]; exact hw)
    refine h _ F H k Gw.refl ?_
    rw [e]
    exact .tup h1 h2
  | str z =>
    cases rx.str_inv
    obtain ⟨c, h⟩ := post_if h
    exact .inr (.inr ⟨z, rfl, szOk.le c, h _ F H k Gw.refl (.str _)⟩)
  | _ => exact h.elim
def eSl (f : Env → M DD) (lo hi : Env → M (Option Int)) : Env → M DD := fun env => bnd (f env) fun x => bnd (lo env) fun l => bnd (hi env) fun h => opSl x l h
theorem de_slice (hK : B.K = X.K) {lo hi : Option Expr} {fl fh : Env → M (Option Int)} {p2 : Pos} (he : DE X B W e fa) (hl : DO X B W lo fl) (hh : DO X B W hi fh) : DE X B W (.Subscript e (.Slice lo hi none p2) pos) (eSl fa fl fh) := by
  obtain ⟨t, p, s⟩ := he.ex
  obtain ⟨t1, p1, s1⟩ := hl.ex
  obtain ⟨t2, p2, s2⟩ := hh.ex
  refine ⟨_, pe_slice sl_all p p1 p2, fun env S σ F H sa k Q hq => s env S σ F H sa k _ ((Post.bnd hq).imp fun x S1 h1 v F1 H1 k1 e1 r1 => ?_)⟩
  refine s1 env S1 σ F1 H1 sa k1 _ ((Post.bnd (h1.same e1)).imp fun l S2 h2 F2 H2 k2 e2 => ?_)
  refine s2 env S2 σ F2 H2 sa k2 _ ((Post.bnd (h2.same e2)).imp fun u S3 h3 F3 H3 k3 e3 => ?_)
  rw [← hK]
  exact snd_sl (W := W) k3 (Rp.same (e2.trans e3).ff x r1) (h3.same e3)

/-! ### calls of built-ins -/
def CSnd (B : Bs) (W : WX) (r : List V → Hp → VK → Prop) (f : List DD → M DD) : Prop := ∀ env S σ F H sa vs ds, Ok B env S σ F H sa → RpA B.K F vs ds → ∀ Q : VK, Post (Good B env σ F H sa Q) (Bad B W env σ F H sa) (f ds S) → r vs H Q
def eB (f : List DD → M DD) (as : Env → M (List DD)) : Env → M DD := fun env => bnd (as env) f
theorem sndE_cb {r : List V → Hp → VK → Prop} {f : List DD → M DD} (hs : CSnd B W r f) (h : SndA B W tr fr) : SndE B W (tCB r tr) (eB f fr) := fun env S σ F H sa k Q hq =>
  h env S σ F H sa k _ ((Post.bnd hq).imp fun ds S1 h1 vs F1 H1 k1 s1 r1 => hs env S1 σ F1 H1 sa vs ds k1 r1 Q (h1.same s1))
theorem de_cb {id : String} {x : Str} {p : Pos} {r : List V → Hp → VK → Prop} {f : List DD → M DD} (hc : CallR X (.builtin id) r) (hs : CSnd B W r f) (hm : X.mg x = none) (ha : DA X B W (e :: es) fr) (hg : Gl X x := by rfl) (hv : bootBuiltins x = some (.builtin id) := by decide +kernel) (hn : x ≠ "__name__" := by decide) (hdb : (x == ("__debug__" : Str)) = false := by decide)
    (he : starEach (e :: es) X.env = (false, eval e X.env) :: starEach es X.env := by rfl) (hpl : (backTo pos (starEach es X.env)).any (·.1) = false := by rfl) : DE X B W (.Call (.Name x p) (e :: es) [] pos) (eB f fr) := by
  obtain ⟨t, pp, s⟩ := ha.ex
  exact ⟨_, pe_callB hc hg hm hv pp hn hdb he hpl, sndE_cb hs s⟩
theorem de_ct {T : String} {x : Str} {p : Pos} {r : List V → Hp → VK → Prop} {f : List DD → M DD} (hc : CallR X (.type T) r) (hs : CSnd B W r f) (hm : X.mg x = none) (ha : DA X B W (e :: es) fr) (hg : Gl X x := by rfl) (hv : bootBuiltins x = some (.type T) := by decide +kernel) (hn : x ≠ "__name__" := by decide) (hdb : (x == ("__debug__" : Str)) = false := by decide)
    (he : starEach (e :: es) X.env = (false, eval e X.env) :: starEach es X.env := by rfl) (hpl : (backTo pos (starEach es X.env)).any (·.1) = false := by rfl) : DE X B W (.Call (.Name x p) (e :: es) [] pos) (eB f fr) := by
  obtain ⟨t, pp, s⟩ := ha.ex
  exact ⟨_, pe_callTy hc hg hm hv pp hn hdb he hpl, sndE_cb hs s⟩
def bLen : List DD → M DD
  | [.str z] => if szOk z.length = true then ret (.int z.length) else stk
  | [.lst xs] => ret (.int xs.length)
  | [.tup xs] => ret (.int xs.length)
  | _ => stk
theorem rpa1 {K : PySem.W.Frag} {F : Hp} {vs : List V} {d : DD} (r : RpA K F vs [d]) : ∃ v, vs = [v] ∧ Rp K F v d := by
  cases r with
  | cons h1 h2 =>
    cases h2
    exact ⟨_, rfl, h1⟩
theorem rpa2 {K : PySem.W.Frag} {F : Hp} {vs : List V} {d d' : DD} (r : RpA K F vs [d, d']) : ∃ v w, vs = [v, w] ∧ Rp K F v d ∧ Rp K F w d' := by
  cases r with
  | cons h1 h2 =>
    obtain ⟨w, rfl, h3⟩ := rpa1 h2
    exact ⟨_, _, rfl, h1, h3⟩
theorem snd_len : CSnd B W (fun xs H Q => ∃ x n, xs = [x] ∧ LenV B.K x H n ∧ Q (.int n) H) bLen := fun env S σ F H sa vs ds k r Q h => by
  match ds, r, h with
  | [.str z], r, h =>
    obtain ⟨v, rfl, r1⟩ := rpa1 r
    cases r1.str_inv
    obtain ⟨c, h⟩ := post_if h
    exact ⟨_, z.length, rfl, ⟨szOk.le c, rfl⟩, h _ F H k Gw.refl (.int _)⟩
  | [.lst xs], r, h =>
    obtain ⟨v, rfl, r1⟩ := rpa1 r
    obtain ⟨p, vs, rfl, h1, h2⟩ := r1.lst_inv
    exact ⟨_, xs.length, rfl, .inl ⟨vs, SqL.of (k.fh _ _ h1), by rw [h2.length]⟩, h _ F H k Gw.refl (.int _)⟩
  | [.tup xs], r, h =>
    obtain ⟨v, rfl, r1⟩ := rpa1 r
    obtain ⟨p, vs, rfl, h1, h2⟩ := r1.tup_inv
    exact ⟨_, xs.length, rfl, .inr ⟨vs, sqT_same k.fh h1, by rw [h2.length]⟩, h _ F H k Gw.refl (.int _)⟩
  | [], r, h => exact h.elim
  | [.non], r, h => exact h.elim
  | [.bl _], r, h => exact h.elim
  | [.int _], r, h => exact h.elim
  | [.raw _], r, h => exact h.elim
  | [.dct _ _], r, h => exact h.elim
  | x :: _ :: _, r, h => cases x <;> exact h.elim
theorem de_len (hK : B.K = X.K) {p : Pos} (hm : X.mg "len" = none) (ha : DA X B W [e] fr) (hg : Gl X "len" := by rfl)
    (he : starEach [e] X.env = (false, eval e X.env) :: starEach [] X.env := by rfl) (hpl : (backTo pos (starEach [] X.env)).any (·.1) = false := by rfl) : DE X B W (.Call (.Name "len" p) [e] [] pos) (eB bLen fr) :=
  de_cb call_len (hK ▸ snd_len) hm ha hg PySem.boot_len (by decide) (by decide) he hpl
def bInt : List DD → M DD
  | [.int i] => ret (.int i)
  | [.bl b] => ret (.int (if b then 1 else 0))
  | _ => stk
theorem snd_int : CSnd B W (fun xs H Q => (∃ i, xs = [.int i] ∧ Q (.int i) H) ∨ ∃ k, xs = [.bl k] ∧ Q (.int (if k then 1 else 0)) H) bInt := fun env S σ F H sa vs ds k r Q h => by
  match ds, r, h with
  | [.int i], r, h =>
    obtain ⟨v, rfl, r1⟩ := rpa1 r
    cases r1.int_inv
    exact .inl ⟨_, rfl, h _ F H k Gw.refl (.int _)⟩
  | [.bl i], r, h =>
    obtain ⟨v, rfl, r1⟩ := rpa1 r
    cases r1.bl_inv
    exact .inr ⟨_, rfl, h _ F H k Gw.refl (.int _)⟩
  | [], r, h => exact h.elim
  | [.non], r, h => exact h.elim
  | [.str _], r, h => exact h.elim
  | [.lst _], r, h => exact h.elim
  | [.tup _], r, h => exact h.elim
  | [.raw _], r, h => exact h.elim
  | [.dct _ _], r, h => exact h.elim
  | x :: _ :: _, r, h => cases x <;> exact h.elim
theorem de_int1 {p : Pos} (hm : X.mg "int" = none) (ha : DA X B W [e] fr) (hg : Gl X "int" := by rfl)
    (he : starEach [e] X.env = (false, eval e X.env) :: starEach [] X.env := by rfl) (hpl : (backTo pos (starEach [] X.env)).any (·.1) = false := by rfl) : DE X B W (.Call (.Name "int" p) [e] [] pos) (eB bInt fr) :=
  de_ct call_int1 snd_int hm ha hg (by decide +kernel) (by decide) (by decide) he hpl
def bAbs : List DD → M DD
  | [.int i] => ret (.int (if i < 0 then -i else i))
  | _ => stk
theorem snd_abs : CSnd B W (fun xs H Q => ∃ i, xs = [.int i] ∧ Q (.int (if i < 0 then -i else i)) H) bAbs := fun env S σ F H sa vs ds k r Q h => by
  match ds, r, h with
  | [.int i], r, h =>
    obtain ⟨v, rfl, r1⟩ := rpa1 r
    cases r1.int_inv
    exact ⟨_, rfl, h _ F H k Gw.refl (.int _)⟩
  | [], r, h => exact h.elim
  | [.non], r, h => exact h.elim
  | [.bl _], r, h => exact h.elim
  | [.str _], r, h => exact h.elim
  | [.lst _], r, h => exact h.elim
  | [.tup _], r, h => exact h.elim
  | [.raw _], r, h => exact h.elim
  | [.dct _ _], r, h => exact h.elim
  | x :: _ :: _, r, h => cases x <;> exact h.elim
theorem de_abs {p : Pos} (hm : X.mg "abs" = none) (ha : DA X B W [e] fr) (hg : Gl X "abs" := by rfl)
    (he : starEach [e] X.env = (false, eval e X.env) :: starEach [] X.env := by rfl) (hpl : (backTo pos (starEach [] X.env)).any (·.1) = false := by rfl) : DE X B W (.Call (.Name "abs" p) [e] [] pos) (eB bAbs fr) :=
  de_cb call_abs snd_abs hm ha hg (by decide +kernel) (by decide) (by decide) he hpl
def b2I (g : Int → Int → Int) : List DD → M DD
  | [.int i, .int j] => ret (.int (g i j))
  | _ => stk
theorem snd_2I {g : Int → Int → Int} : CSnd B W (fun xs H Q => ∃ i j, xs = [.int i, .int j] ∧ Q (.int (g i j)) H) (b2I g) := fun env S σ F H sa vs ds k r Q h => by
  unfold b2I at h
  split at h
  · obtain ⟨v, w, rfl, r1, r2⟩ := rpa2 r
    cases r1.int_inv
    cases r2.int_inv
    exact ⟨_, _, rfl, h _ F H k Gw.refl (.int _)⟩
  · exact h.elim
theorem de_min {e2 : Expr} {p : Pos} (hc : X.calm = true) (hm : X.mg "min" = none) (ha : DA X B W [e, e2] fr) (hg : Gl X "min" := by rfl)
    (he : starEach [e, e2] X.env = (false, eval e X.env) :: starEach [e2] X.env := by rfl) (hpl : (backTo pos (starEach [e2] X.env)).any (·.1) = false := by rfl) : DE X B W (.Call (.Name "min" p) [e, e2] [] pos) (eB (b2I fun i j => if j < i then j else i) fr) :=
  de_cb (call_min2 hc) snd_2I hm ha hg (by decide +kernel) (by decide) (by decide) he hpl
theorem de_max {e2 : Expr} {p : Pos} (hc : X.calm = true) (hm : X.mg "max" = none) (ha : DA X B W [e, e2] fr) (hg : Gl X "max" := by rfl)
    (he : starEach [e, e2] X.env = (false, eval e X.env) :: starEach [e2] X.env := by rfl) (hpl : (backTo pos (starEach [e2] X.env)).any (·.1) = false := by rfl) : DE X B W (.Call (.Name "max" p) [e, e2] [] pos) (eB (b2I fun i j => if j > i then j else i) fr) :=
  de_cb (call_max2 hc) snd_2I hm ha hg (by decide +kernel) (by decide) (by decide) he hpl
/-- all, any of truth values -/
def blsOf : List DD → Option (List Bool)
  | [] => some []
  | .bl b :: r => (blsOf r).map (b :: ·)
  | _ => none
theorem RpA.bls {K : PySem.W.Frag} {F : Hp} : ∀ {vs : List V} {ds : List DD} {bs : List Bool}, RpA K F vs ds → blsOf ds = some bs → vs = bs.map V.bl
  | _, [], bs, .nil, h => by cases h; rfl
  | _, d :: ds, bs, .cons h1 h2, h => by
    cases d with
    | bl b =>
      have h : (blsOf ds).map (b :: ·) = some bs := h
      cases e : blsOf ds with
      | none => rw [e] at h; cases h
      | some cs =>
        rw [e] at h
        cases h
        cases h1.bl_inv
        rw [RpA.bls h2 e]
        rfl
    | _ => cases h
def bAll : List DD → M DD
  | [.lst xs] => match blsOf xs with
    | some bs => ret (.bl (bs.all id))
    | none => stk
  | _ => stk
def bAny : List DD → M DD
  | [.lst xs] => match blsOf xs with
    | some bs => ret (.bl (bs.any id))
    | none => stk
  | _ => stk
theorem snd_all : CSnd B W (rAll B.K) bAll := fun env S σ F H sa vs ds k r Q h => by
  unfold bAll at h
  split at h
  · rename_i xs
    obtain ⟨v, rfl, r1⟩ := rpa1 r
    obtain ⟨p, ws, rfl, h1, h2⟩ := r1.lst_inv
    cases e : blsOf xs with
    | none => rw [e] at h; exact h.elim
    | some bs =>
      rw [e] at h
      refine ⟨p, bs, rfl, ?_, h _ F H k Gw.refl (.bl _)⟩
      rw [← h2.bls e]
      exact SqL.of (k.fh _ _ h1)
  · exact h.elim
theorem snd_any : CSnd B W (rAny B.K) bAny := fun env S σ F H sa vs ds k r Q h => by
  unfold bAny at h
  split at h
  · rename_i xs
    obtain ⟨v, rfl, r1⟩ := rpa1 r
    obtain ⟨p, ws, rfl, h1, h2⟩ := r1.lst_inv
    cases e : blsOf xs with
    | none => rw [e] at h; exact h.elim
    | some bs =>
      rw [e] at h
      refine ⟨p, bs, rfl, ?_, h _ F H k Gw.refl (.bl _)⟩
      rw [← h2.bls e]
      exact SqL.of (k.fh _ _ h1)
  · exact h.elim
theorem de_all (hK : B.K = X.K) {p : Pos} (hc : X.calm = true) (hm : X.mg "all" = none) (ha : DA X B W [e] fr) (hg : Gl X "all" := by rfl)
    (he : starEach [e] X.env = (false, eval e X.env) :: starEach [] X.env := by rfl) (hpl : (backTo pos (starEach [] X.env)).any (·.1) = false := by rfl) : DE X B W (.Call (.Name "all" p) [e] [] pos) (eB bAll fr) :=
  de_cb (cr_all hc) (hK ▸ snd_all) hm ha hg (by decide +kernel) (by decide) (by decide) he hpl
theorem de_any (hK : B.K = X.K) {p : Pos} (hc : X.calm = true) (hm : X.mg "any" = none) (ha : DA X B W [e] fr) (hg : Gl X "any" := by rfl)
    (he : starEach [e] X.env = (false, eval e X.env) :: starEach [] X.env := by rfl) (hpl : (backTo pos (starEach [] X.env)).any (·.1) = false := by rfl) : DE X B W (.Call (.Name "any" p) [e] [] pos) (eB bAny fr) :=
  de_cb (cr_any hc) (hK ▸ snd_any) hm ha hg (by decide +kernel) (by decide) (by decide) he hpl
/-- tuple(x), list(x) -/
def bTuple : List DD → M DD
  | [.lst xs] => ret (.tup xs)
  | [.tup xs] => ret (.tup xs)
  | _ => stk
def bList : List DD → M DD
  | [.lst xs] => ret (.lst xs)
  | [.tup xs] => ret (.lst xs)
  | _ => stk
theorem snd_tuple : CSnd B W (fun xs H Q => ∃ p ys, xs = [.ref p] ∧ ((SqL B.K H p ys ∧ ∀ l, H l = none → Q (.ref l) (upd H l (.tup ys))) ∨ (SqT B.K H p ys ∧ Q (.ref p) H))) bTuple := fun env S σ F H sa vs ds k r Q h => by
  unfold bTuple at h
  split at h
  · obtain ⟨v, rfl, r1⟩ := rpa1 r
    obtain ⟨p, ws, rfl, h1, h2⟩ := r1.lst_inv
    exact ⟨p, ws, rfl, .inl ⟨SqL.of (k.fh _ _ h1), good_new k h fun p F' e hp => .tup (SqT.of hp) (RpA.same e _ h2)⟩⟩
  · obtain ⟨v, rfl, r1⟩ := rpa1 r
    obtain ⟨p, ws, rfl, h1, h2⟩ := id r1.tup_inv
    exact ⟨p, ws, rfl, .inr ⟨sqT_same k.fh h1, h _ F H k Gw.refl r1⟩⟩
  · exact h.elim
theorem snd_list : CSnd B W (fun xs H Q => ∃ p ys, xs = [.ref p] ∧ (SqL B.K H p ys ∨ SqT B.K H p ys) ∧ ∀ l, H l = none → Q (.ref l) (upd H l (.lst ys))) bList := fun env S σ F H sa vs ds k r Q h => by
  unfold bList at h
  split at h
  · obtain ⟨v, rfl, r1⟩ := rpa1 r
    obtain ⟨p, ws, rfl, h1, h2⟩ := r1.lst_inv
    exact ⟨p, ws, rfl, .inl (SqL.of (k.fh _ _ h1)), good_new k h fun p F' e hp => .lst hp (RpA.same e _ h2)⟩
  · obtain ⟨v, rfl, r1⟩ := rpa1 r
    obtain ⟨p, ws, rfl, h1, h2⟩ := r1.tup_inv
    exact ⟨p, ws, rfl, .inr (sqT_same k.fh h1), good_new k h fun p F' e hp => .lst hp (RpA.same e _ h2)⟩
  · exact h.elim
theorem de_tuple (hK : B.K = X.K) {p : Pos} (hm : X.mg "tuple" = none) (ha : DA X B W [e] fr) (hg : Gl X "tuple" := by rfl)
    (he : starEach [e] X.env = (false, eval e X.env) :: starEach [] X.env := by rfl) (hpl : (backTo pos (starEach [] X.env)).any (·.1) = false := by rfl) : DE X B W (.Call (.Name "tuple" p) [e] [] pos) (eB bTuple fr) :=
  de_ct call_tuple_of (hK ▸ snd_tuple) hm ha hg (by decide +kernel) (by decide) (by decide) he hpl
theorem de_list (hK : B.K = X.K) {p : Pos} (hm : X.mg "list" = none) (ha : DA X B W [e] fr) (hg : Gl X "list" := by rfl)
    (he : starEach [e] X.env = (false, eval e X.env) :: starEach [] X.env := by rfl) (hpl : (backTo pos (starEach [] X.env)).any (·.1) = false := by rfl) : DE X B W (.Call (.Name "list" p) [e] [] pos) (eB bList fr) :=
  de_ct call_list_of (hK ▸ snd_list) hm ha hg (by decide +kernel) (by decide) (by decide) he hpl
/-- isinstance with a built-in type -/
def tyName : DD → Option String
  | .non => some "NoneType"
  | .bl _ => some "bool"
  | .int _ => some "int"
  | .str _ => some "str"
  | .lst _ => some "list"
  | .tup _ => some "tuple"
  | _ => none
def bIsi : List DD → M DD
  | [x, .raw (.ty n)] => match tyName x with
    | some t => match kitB t n with
      | some b => ret (.bl b)
      | none => stk
    | none => stk
  | _ => stk
theorem tyX_of {K : PySem.W.Frag} {F H : Hp} {v : V} {x : DD} {t : String} (fh : Same F H) (r : Rp K F v x) (h : tyName x = some t) : TyX K H v (.type t) := by
  cases x with
  | non => cases h; cases r; exact .base .non
  | bl b => cases h; cases r; exact .base (.bl b)
  | int b => cases h; cases r; exact .base (.int b)
  | str b => cases h; cases r; exact .base (.str b)
  | lst xs =>
    cases h
    obtain ⟨p, ws, rfl, h1, h2⟩ := r.lst_inv
    exact .base (.lst (fh _ _ h1))
  | tup xs =>
    cases h
    obtain ⟨p, ws, rfl, h1, h2⟩ := r.tup_inv
    rcases h1 with (h1 | ⟨o, h1⟩) | ⟨o, its, n, e1, e2, _⟩
    · exact .base (.tup (fh _ _ h1))
    · exact .fTuple (fh _ _ h1)
    · exact .kTuple e1 e2
  | _ => cases h
theorem snd_isi : CSnd B W (rIsi B.K) bIsi := fun env S σ F H sa vs ds k r Q h => by
  unfold bIsi at h
  split at h
  · rename_i x n
    obtain ⟨v, w, rfl, r1, r2⟩ := rpa2 r
    cases r2.raw_inv
    cases e : tyName x with
    | none => rw [e] at h; exact h.elim
    | some t =>
      rw [e] at h
      cases e2 : kitB t n with
      | none =>
        simp only [e2] at h
        exact h.elim
      | some b =>
        simp only [e2] at h
        exact ⟨v, .ty n, .type t, .type n, b, rfl, .ty n, tyX_of k.fh r1 e, kit_ty e2, h _ F H k Gw.refl (.bl _)⟩
  · exact h.elim
theorem de_ty {x : Str} {n : String} (hm : X.mg x = none) (hg : Gl X x := by rfl) (hv : bootBuiltins x = some (.type n) := by decide +kernel) (hn : x ≠ "__name__" := by decide) (hd : (x == ("__debug__" : Str)) = false := by decide) : DE X B W (.Name x pos) (eC (.raw (.ty n))) :=
  ⟨_, pe_bltn (v := .ty n) hg hm hv (show L2.RelV (.ty n) (.type n) from rfl) hn hd, sndE_c fun _ => .raw _⟩
theorem de_isi (hK : B.K = X.K) {e2 : Expr} {p : Pos} (hm : X.mg "isinstance" = none) (ha : DA X B W [e, e2] fr) (hg : Gl X "isinstance" := by rfl)
    (he : starEach [e, e2] X.env = (false, eval e X.env) :: starEach [e2] X.env := by rfl) (hpl : (backTo pos (starEach [e2] X.env)).any (·.1) = false := by rfl) : DE X B W (.Call (.Name "isinstance" p) [e, e2] [] pos) (eB bIsi fr) :=
  de_cb call_isi (hK ▸ snd_isi) hm ha hg (by decide +kernel) (by decide) (by decide) he hpl
theorem de_neg {j : Nat} (ha : DE X B W a fa) : DE X B W (.UnaryOp .USub a pos) (fun env => bnd (fa env) fun x => match x with | .int i => ret (.int (-i)) | _ => stk) := by
  obtain ⟨t, p, s⟩ := ha.ex
  refine ⟨_, pe_un un_neg p, fun env S σ F H sa k Q hq => s env S σ F H sa k _ ((Post.bnd hq).imp fun x S1 h1 v F1 H1 k1 e1 r1 => ?_)⟩
  cases x with
  | int i =>
    cases r1.int_inv
    exact ⟨i, rfl, h1 _ F1 H1 k1 e1 (.int _)⟩
  | _ => exact h1.elim

/-! ### tests, and, or, not, if -/
def tV (f : Env → M DD) : Env → M Bool := fun env => bnd (f env) fun d => match d with
  | .bl b => ret b
  | _ => stk
theorem dt_val (h : DE X B W e fa) (he : ∀ whole, isTrue e X.env whole = (do let v ← whole; standAt e.pos; holding [v] (truthy v)) := by intro _; rfl) : DT X B W e (tV fa) := by
  obtain ⟨t, p, s⟩ := h.ex
  refine ⟨_, pt_val p he, fun env S σ F H sa k Q hq => s env S σ F H sa k _ ((Post.bnd hq).imp fun x S1 h1 v F1 H1 k1 e1 r1 => ?_)⟩
  cases x with
  | bl i =>
    cases r1.bl_inv
    exact ⟨i, rfl, h1 F1 H1 k1 e1⟩
  | _ => exact h1.elim
variable {ft fu : Env → M Bool} {rest : List Expr}
def tAndD (t u : Env → M Bool) : Env → M Bool := fun env => bnd (t env) fun c => if c = true then u env else ret false
def tOrD (t u : Env → M Bool) : Env → M Bool := fun env => bnd (t env) fun c => if c = true then ret true else u env
def tNotD (t : Env → M Bool) : Env → M Bool := fun env => bnd (t env) fun c => ret (!c)
theorem dw_and1 (ha : DT X B W a ft) : DW X B W (.BoolOp .And [a] pos) ft := by
  obtain ⟨t, p, s⟩ := ha.ex
  exact ⟨_, pw_and1 p, s⟩
theorem dw_or1 (ha : DT X B W a ft) : DW X B W (.BoolOp .Or [a] pos) ft := by
  obtain ⟨t, p, s⟩ := ha.ex
  exact ⟨_, pw_or1 p, s⟩
theorem dw_and (ha : DT X B W a ft) (hb : DW X B W (.BoolOp .And (b :: rest) pos) fu) : DW X B W (.BoolOp .And (a :: b :: rest) pos) (tAndD ft fu) := by
  obtain ⟨t, p, s⟩ := ha.ex
  obtain ⟨t2, p2, s2⟩ := hb.ex
  refine ⟨_, pw_and p p2, fun env S σ F H sa k Q hq => s env S σ F H sa k _ ((Post.bnd hq).imp fun c S1 h1 F1 H1 k1 e1 => ?_)⟩
  cases c with
  | true => exact iteT (s2 env S1 σ F1 H1 sa k1 Q (Post.sameB e1 h1))
  | false => exact iteF (h1 F1 H1 k1 e1)
theorem dw_or (ha : DT X B W a ft) (hb : DW X B W (.BoolOp .Or (b :: rest) pos) fu) : DW X B W (.BoolOp .Or (a :: b :: rest) pos) (tOrD ft fu) := by
  obtain ⟨t, p, s⟩ := ha.ex
  obtain ⟨t2, p2, s2⟩ := hb.ex
  refine ⟨_, pw_or p p2, fun env S σ F H sa k Q hq => s env S σ F H sa k _ ((Post.bnd hq).imp fun c S1 h1 F1 H1 k1 e1 => ?_)⟩
  cases c with
  | true => exact iteT (h1 F1 H1 k1 e1)
  | false => exact iteF (s2 env S1 σ F1 H1 sa k1 Q (Post.sameB e1 h1))
theorem dw_pt (h : DW X B W e ft) : DT X B W e ft := by
  obtain ⟨t, p, s⟩ := h.ex
  exact ⟨_, p.pt, s⟩
theorem dt_not (ha : DT X B W a ft) : DT X B W (.UnaryOp .Not a pos) (tNotD ft) := by
  obtain ⟨t, p, s⟩ := ha.ex
  exact ⟨_, pt_not p, fun env S σ F H sa k Q hq => s env S σ F H sa k _ ((Post.bnd hq).imp fun c S1 h1 F1 H1 k1 e1 => h1 F1 H1 k1 e1)⟩
/-- as values -/
def eAnd (f g : Env → M DD) : Env → M DD := fun env => bnd (f env) fun d => match d with
  | .bl true => g env
  | .bl false => ret (.bl false)
  | _ => stk
def eOr (f g : Env → M DD) : Env → M DD := fun env => bnd (f env) fun d => match d with
  | .bl false => g env
  | .bl true => ret (.bl true)
  | _ => stk
def eNot (f : Env → M DD) : Env → M DD := fun env => bnd (f env) fun d => match d with
  | .bl b => ret (.bl (!b))
  | _ => stk
theorem de_one {op} (h : DE X B W a fa) : DE X B W (.BoolOp op [a] pos) fa := by
  obtain ⟨t, p, s⟩ := h.ex
  exact ⟨_, pe_one p, s⟩
theorem de_and (ha : DE X B W a fa) (hb : DE X B W (.BoolOp .And (b :: rest) pos) fb) : DE X B W (.BoolOp .And (a :: b :: rest) pos) (eAnd fa fb) := by
  obtain ⟨t, p, s⟩ := ha.ex
  obtain ⟨t2, p2, s2⟩ := hb.ex
  refine ⟨_, pe_and p p2, fun env S σ F H sa k Q hq => s env S σ F H sa k _ ((Post.bnd hq).imp fun c S1 h1 v F1 H1 k1 e1 r1 => ?_)⟩
  cases c with
  | bl c =>
    cases r1.bl_inv
    cases c with
    | true => exact ⟨true, rfl, iteT (s2 env S1 σ F1 H1 sa k1 Q (Post.same e1 h1))⟩
    | false => exact ⟨false, rfl, iteF (h1 _ F1 H1 k1 e1 (.bl _))⟩
  | _ => exact h1.elim
theorem de_or (ha : DE X B W a fa) (hb : DE X B W (.BoolOp .Or (b :: rest) pos) fb) : DE X B W (.BoolOp .Or (a :: b :: rest) pos) (eOr fa fb) := by
  obtain ⟨t, p, s⟩ := ha.ex
  obtain ⟨t2, p2, s2⟩ := hb.ex
  refine ⟨_, pe_or p p2, fun env S σ F H sa k Q hq => s env S σ F H sa k _ ((Post.bnd hq).imp fun c S1 h1 v F1 H1 k1 e1 r1 => ?_)⟩
  cases c with
  | bl c =>
    cases r1.bl_inv
    cases c with
    | true => exact ⟨true, rfl, iteT (h1 _ F1 H1 k1 e1 (.bl _))⟩
    | false => exact ⟨false, rfl, iteF (s2 env S1 σ F1 H1 sa k1 Q (Post.same e1 h1))⟩
  | _ => exact h1.elim
theorem de_not (ha : DE X B W a fa) : DE X B W (.UnaryOp .Not a pos) (eNot fa) := by
  obtain ⟨t, p, s⟩ := ha.ex
  refine ⟨_, pe_not p, fun env S σ F H sa k Q hq => s env S σ F H sa k _ ((Post.bnd hq).imp fun c S1 h1 v F1 H1 k1 e1 r1 => ?_)⟩
  cases c with
  | bl c =>
    cases r1.bl_inv
    exact ⟨c, rfl, h1 _ F1 H1 k1 e1 (.bl _)⟩
  | _ => exact h1.elim
def eIf (t : Env → M Bool) (f g : Env → M DD) : Env → M DD := fun env => bnd (t env) fun c => if c = true then f env else g env
theorem de_if {c : Expr} (hc : DT X B W c ft) (ha : DE X B W a fa) (hb : DE X B W b fb) : DE X B W (.IfExp c a b pos) (eIf ft fa fb) := by
  obtain ⟨t, p, s⟩ := hc.ex
  obtain ⟨t1, p1, s1⟩ := ha.ex
  obtain ⟨t2, p2, s2⟩ := hb.ex
  refine ⟨_, pe_ifExp p p1 p2, fun env S σ F H sa k Q hq => s env S σ F H sa k _ ((Post.bnd hq).imp fun c S1 h1 F1 H1 k1 e1 => ?_)⟩
  cases c with
  | true => exact iteT (s1 env S1 σ F1 H1 sa k1 Q (Post.same e1 h1))
  | false => exact iteF (s2 env S1 σ F1 H1 sa k1 Q (Post.same e1 h1))
def eChain (op op' : DD → DD → M DD) (f g h : Env → M DD) : Env → M DD := fun env => bnd (f env) fun x => bnd (g env) fun y => bnd (op x y) fun z => match z with
  | .bl true => bnd (h env) fun w => op' y w
  | .bl false => ret (.bl false)
  | _ => stk
theorem de_chain {op op' : CmpOp} {r r' : R2} {g g' : DD → DD → M DD} (ho : OpR X (compareOp op) r) (ho' : OpR X (compareOp op') r') (hs : OpSnd B W r g) (hs' : OpSnd B W r' g') (ha : DE X B W a fa) (hb : DE X B W b fb) (hc : DE X B W c fc)
    (hm : lastMarks [op, op'] [b, c] = false := by with_unfolding_all rfl) : DE X B W (.Compare a [op, op'] [b, c] pos) (eChain g g' fa fb fc) := by
  obtain ⟨t, p, s⟩ := ha.ex
  obtain ⟨t1, p1, s1⟩ := hb.ex
  obtain ⟨t2, p2, s2⟩ := hc.ex
  refine ⟨_, pe_chain ho ho' p p1 p2 hm, fun env S σ F H sa k Q hq => s env S σ F H sa k _ ((Post.bnd hq).imp fun x S1 h1 v F1 H1 k1 e1 r1 => ?_)⟩
  refine s1 env S1 σ F1 H1 sa k1 _ ((Post.bnd (h1.same e1)).imp fun y S2 h2 w F2 H2 k2 e2 r2 => ?_)
  refine hs env S2 σ F2 H2 sa v w x y k2 (Rp.same e2.ff x r1) r2 _ ((Post.bnd (h2.same e2)).imp fun z S3 h3 u F3 H3 k3 e3 r3 => ?_)
  cases z with
  | bl z =>
    cases r3.bl_inv
    cases z with
    | true =>
      refine ⟨true, rfl, iteT (s2 env S3 σ F3 H3 sa k3 _ ((Post.bnd (Post.same e3 h3)).imp fun q S4 h4 u4 F4 H4 k4 e4 r4 => ?_))⟩
      exact hs' env S4 σ F4 H4 sa w u4 y q k4 (Rp.same (e3.trans e4).ff y r2) r4 Q (Post.same e4 h4)
    | false => exact ⟨false, rfl, iteF (h3 _ F3 H3 k3 e3 (.bl _))⟩
  | _ => exact h3.elim
theorem de_lele (ha : DE X B W a fa) (hb : DE X B W b fb) (hc : DE X B W c fc) : DE X B W (.Compare a [.LtE, .LtE] [b, c] pos) (eChain opLe opLe fa fb fc) :=
  de_chain op_le op_le (snd_I0 fun _ _ _ => .bl _) (snd_I0 fun _ _ _ => .bl _) ha hb hc (show lastMarks [CmpOp.LtE, CmpOp.LtE] [b, c] = false from nomark (op := .LtE) c)
end
end AU
/-! enumerate of a tuple; a walk over a list or a tuple -/
namespace PySem
open Sem (wp)
open AutoSeq1 (wpAny_loadPart')
set_option maxHeartbeats 4000000 in
theorem au_enumerate_newB {v : Value} {o : Obj} {H : Heap → Prop} (B : Begins v o H) :
    Meets (Builtin.«enumerate.__new__» ⟨[.type "enumerate", v], []⟩) (fun _ R s => H s.heap ∧
      R (.ok (.ret (.ref (s.heap.push o).objs.size))) { s with heap := (s.heap.push o).push { cls := .type "enumerate", data := .fields #[.none, .bool false, .ref s.heap.objs.size, rawInt 0, .none, .none] } }) :=
  .of_wp fun prog w A R s h => by
    obtain ⟨hp, g, d, tk, os⟩ := s; obtain ⟨h1, h⟩ := h
    have hsub := sub_enumerate
    have q1 : ∀ {A' : Around} {E : Value → Shared → Prop} {Q : Value → Shared → Prop}, Q (.ref hp.objs.size) ⟨hp.push o, g, d, tk, os⟩ → wpAny (model prog w) A' (pyIter v) Q E ⟨hp, g, d, tk, os⟩ :=
      fun q => B.iter prog w _ _ ⟨hp, g, d, tk, os⟩ _ h1 q
    wp_walk using q1
    refine wpAny_stack_any fun st => wpAny_pure ?_
    split
    · rename_i c _ _ _ _ _
      cases (c == Value.type "enumerate")
      · wp_walk using q1
        exact ⟨_, rfl, h⟩
      · wp_walk using q1
        exact ⟨_, rfl, h⟩
    · wp_walk using q1
      exact ⟨_, rfl, h⟩
section
variable {prog : Program} {w : World} {A : Around} {E : Value → Shared → Prop} {s : Shared}
theorem au_enum_begins {v : Value} {o : Obj} {H : Heap → Prop} {Q : Value → Shared → Prop} (B : Begins v o H) (h1 : H s.heap)
    (h : ∀ h', IsEnum h' (s.heap.objs.size + 1) s.heap.objs.size 0 .none → h'.get? s.heap.objs.size = some o → h'.objs.size = s.heap.objs.size + 2 →
      (∀ b o, s.heap.get? b = some o → h'.get? b = some o) → Q (.ref (s.heap.objs.size + 1)) { s with heap := h' }) :
    wpAny (model prog w) A (call (.type "enumerate") [v]) Q E s := by
  refine callType_new F.called_enumerate (by decide) (F.typeCall_enumerate_1 _) (F.newCall_enumerate_1 _) (fun obj => F.args_object_init_2 obj _) F.entry_enumerate_new
    (au_enumerate_newB B) ⟨h1, ?_⟩
  have hz : (s.heap.push o).objs.size = s.heap.objs.size + 1 := Heap.size_push ..
  show _ ∧ _
  rw [hz]
  have he : IsEnum ((s.heap.push o).push { cls := .type "enumerate", data := .fields #[.none, .bool false, .ref s.heap.objs.size, rawInt 0, .none, .none] }) (s.heap.objs.size + 1) s.heap.objs.size 0 .none := by
    have := Heap.get?_push_size (s.heap.push o) (o := { cls := .type "enumerate", data := .fields #[.none, .bool false, .ref s.heap.objs.size, rawInt 0, .none, .none] }) rfl
    rw [hz] at this; exact this
  refine ⟨⟨_, he, rfl⟩, h _ he (Heap.get?_push_of_some _ (Heap.get?_push_size _ B.free)) (by rw [Heap.size_push, hz]) fun b o x => Heap.get?_push_of_some _ (Heap.get?_push_of_some _ x)⟩
end
end PySem
namespace AU
open PySem PySem.Spec PyProof.Rows L2
/-- the tuple at a, each item in a new pair -/
def IteT (K : PySem.W.Frag) (a : Addr) : L2.It :=
  ⟨fun i H => ∃ (xs : List V) (x : V), SqT K H a xs ∧ xs[i]? = some x, fun i H v H' => ∃ T x, v = .ref T ∧ H T = none ∧ H' = upd H T (.tup [.int (i : Nat), x]) ∧ ∀ xs, SqT K H a xs → xs[i]? = some x, fun i H => ∃ xs : List V, SqT K H a xs ∧ xs.length ≤ i⟩
theorem turn_enumT {P : Program} {w : World} {K : PySem.W.Frag} {elts : List Expr} {kk : Nat} {tpos : Pos} (a e it : Addr) :
    Turn P w K (.Tuple elts kk tpos) (IteT K a) [e, it] e (fun i h => (∃ old, IsEnum h e it ((i : Nat) : Int) old) ∧ h.IsTupleIter it a i ∧ e ≠ it ∧ e ≠ a ∧ a ≠ it) where
  mem := by simp
  obj := fun i h st b hb => by
    obtain ⟨⟨old, he⟩, ⟨o, ho, hc, hd⟩, _⟩ := st
    have e' : b = e ∨ b = it := by simpa using hb
    rcases e' with z | z
    · rw [z]; exact ⟨_, he, fun v q => nomatch q⟩
    · rw [z]; exact ⟨o, ho, fun v q => by rw [hd] at q; cases q⟩
  keep := fun i h h' st k => let ⟨⟨old, he⟩, hi, hne⟩ := st; ⟨⟨old, k e (by simp) _ he⟩, hi.at fun o q => k it (by simp) o q, hne⟩
  item := by
    intro X hP hw hK hc i pins s σ H E I hf st hg
    subst hP hw hK
    obtain ⟨⟨old, he⟩, hit, hne, hea, hai⟩ := st
    obtain ⟨xs, x, hq, hx⟩ := hg
    obtain ⟨its, rv, p, hz⟩ := I.tuple hq
    obtain ⟨u, hu, ru⟩ := rv.get hx
    have hel : e < s.heap.objs.size := Heap.lt_size he
    have hil : it < s.heap.objs.size := by obtain ⟨_, q, _⟩ := hit; exact Heap.lt_size q
    have hp : s.heap.IsTuple a its.toArray := p
    have D := Draws.tuple (prog := X.prog) (w := X.w) (A := X.A.in1) (I.ok.hd hc) it a hai its.toArray
    have hlt : i < its.toArray.size := by
      have := (List.getElem?_eq_some_iff.mp hu).1
      simpa using this
    refine wpAny_pyNext_enum_itemD D he ⟨hit, hp⟩ hlt hne (by simp [hne, hea]) fun x' h' tk hPx ho hst hT hsz hk => ?_
    obtain rfl : x' = u := by
      have h1 : its[i]? = some x' := by simpa using hPx
      rw [hu] at h1
      exact (Option.some.inj h1).symm
    refine ⟨_, rfl, wpAny_letOwnedTupleGo_enum (s := { s with heap := h', toks := tk + 1 }) ho fun h'' he' sb => ?_⟩
    have hT2 : h''.get? s.heap.objs.size = some { cls := .type "tuple", data := .seq #[.int i tk, x'] } := (sb.2 _ (Nat.ne_of_gt hel)).trans hT
    have new : ObjOk X.prog X.w (upd H s.heap.objs.size (.tup [.int (i : Nat), x])) h'' s.heap.objs.size (.tup [.int (i : Nat), x]) :=
      ⟨by show 2 ≤ sizeLine; decide, [.int i tk, x'], .cons ⟨_, rfl⟩ (.cons ru .nil), ⟨_, hT2, rfl, _, rfl⟩⟩
    have I1 : Inv X pins σ (upd H s.heap.objs.size (.tup [.int (i : Nat), x])) { s with heap := h'', toks := tk + 1 } :=
      I.turnedNew (ch := [e, it]) (fun b ob hb q => (sb.2 b (fun z => hb (by simp [z]))).trans (hk b ob (fun z => hb (by simp [z])) (fun z => hb (by simp [z])) q)) hf (Nat.le_refl _) new
    refine ⟨.ref s.heap.objs.size, _, I1, rfl, ⟨_, x, rfl, I.hok.fresh (Nat.le_refl _), rfl, fun ys hy => by rw [I.tuple_inj hy hq]; exact hx⟩, ⟨⟨x', ?_⟩, hst.1.at fun o q => (sb.2 it (Ne.symm hne)).trans q, hne, hea, hai⟩, fun b hb => ?_⟩
    · have e1 : ((i + 1 : Nat) : Int) = (i : Int) + 1 := by omega
      rw [e1]; exact he'
    · have hb' : b < s.heap.objs.size := by
        have e' : b = e ∨ b = it := by simpa using hb
        rcases e' with z | z
        · rw [z]; exact hel
        · rw [z]; exact hil
      rw [upd_ne (Nat.ne_of_lt hb')]
      exact (hf b hb).1
  done := by
    intro X hP hw hK hc i pins s σ H E I hf st hg
    subst hP hw hK
    obtain ⟨⟨old, he⟩, hit, hne, hea, hai⟩ := st
    obtain ⟨xs, hq, hx⟩ := hg
    obtain ⟨its, rv, p, hz⟩ := I.tuple hq
    obtain ⟨f0, f1, f2, f3, f4, f5⟩ := hf it (by simp)
    have hl := rv.length
    have hp : s.heap.IsTuple a its.toArray := p
    have hT : s.TypeIs (.ref e) "enumerate" := ⟨_, he, rfl⟩
    unfold pyNext
    refine wpAny_bind (wpAny_attempt (wpAny_callSpecial?_slot (name := Str.ofString "__next__") hT F.slot_enumerate_next
      (wpAny_call_entry F.slot_enumerate_next hT F.entry_enumerate_next ?_ (F.args_enumerate_next_1 _))))
    show wpAny _ _ (field (.ref e) 2 >>= _) _ _ _
    refine wpAny_bind (wpAny_field he rfl (x := .ref it) rfl ?_)
    refine wpAny_bind (wpAny_nextOf_tuple_end (I.ok.hd hc) hit hp (by simp; omega) fun h' x' eb hx' => ?_)
    obtain ⟨o, ho, hcls⟩ := hx'
    refine wpAny_bind (wpAny_isInstance (T := "StopIteration") (b := true) ⟨o, ho, hcls⟩ isSubtype_stop ?_)
    exact wpAny_pure ⟨rfl, I.turned (t' := s.toks) (fun b o hb q => eb b o hb q) f0 f1 f3 f4 f5⟩
  self := fun A i s Q E st h => let ⟨⟨_, he⟩, _⟩ := st; wpAny_pyIter_enum he h
def iEnumA (K : PySem.W.Frag) (ta : TA) : TI := fun σ H R => ta σ H fun vs H1 => ∃ a xs, vs = [.ref a] ∧ ((SqL K H1 a xs ∧ R (Ite K a) H1) ∨ (SqT K H1 a xs ∧ R (IteT K a) H1))
theorem pi_enumA {X : Cx} {e : Expr} {ta : TA} {p pos tpos : Pos} {elts : List Expr} {kk : Nat} (hg : Gl X "enumerate") (hm : X.mg "enumerate" = none) (ha : PA X [e] ta) (hs : starEach [e] X.env = [(false, eval e X.env)] := by rfl) :
    PI X (.Tuple elts kk tpos) (.Call (.Name "enumerate" p) [e] [] pos) (iEnumA X.K ta) := by
  refine ⟨fun pins s σ H R I h => ?_⟩
  refine Call_ (ld_blt I hg hm boot_enumerate (PyProof.Rows.callWith_type1 (thn (ha.run pos pins s σ H _ I h) fun us s1 ⟨vs, H1, I1, r1, q1⟩ => ?_) hs rfl))
  obtain ⟨a, xs, ex, q⟩ := q1
  subst ex
  cases r1 with
  | cons r rr =>
    cases rr
    cases r
    have fp2 : ∀ b ∈ [s1.heap.objs.size + 1, s1.heap.objs.size], FpOk X pins H1 b := fun b hb => by
      have e' : b = s1.heap.objs.size + 1 ∨ b = s1.heap.objs.size := by simpa using hb
      have hle : s1.heap.objs.size ≤ b := by
        rcases e' with z | z
        · rw [z]; exact Nat.le_add_right _ _
        · rw [z]; exact Nat.le_refl _
      exact I1.fpOk hle (I1.hok.fresh hle)
    rcases q with ⟨hq, q⟩ | ⟨hq, q⟩
    · obtain ⟨its, rv, p', hz⟩ := I1.list hq
      refine call_enumerate_list p'.isList fun h' he hit hsz hk => wpAny_pyIter_enum he ?_
      have I2 : Inv X pins σ H1 { s1 with heap := h' } := I1.kept (t' := s1.toks) hk
      exact ⟨s1.heap.objs.size + 1, [s1.heap.objs.size + 1, s1.heap.objs.size], _, _, H1, rfl, I2, turn_enum a (s1.heap.objs.size + 1) s1.heap.objs.size, ⟨⟨.none, he⟩, hit, Nat.succ_ne_self _⟩, fp2, q⟩
    · obtain ⟨its, rv, p', hz⟩ := I1.tuple hq
      have hp : s1.heap.IsTuple a its.toArray := p'
      refine au_enum_begins (begins_tuple a its.toArray) hp fun h' he hit hsz hk => wpAny_pyIter_enum he ?_
      have I2 : Inv X pins σ H1 { s1 with heap := h' } := I1.kept (t' := s1.toks) hk
      have hal : a < s1.heap.objs.size := p'.lt
      exact ⟨s1.heap.objs.size + 1, [s1.heap.objs.size + 1, s1.heap.objs.size], _, _, H1, rfl, I2, turn_enumT a (s1.heap.objs.size + 1) s1.heap.objs.size,
        ⟨⟨.none, he⟩, ⟨_, hit, rfl, rfl⟩, Nat.succ_ne_self _, Nat.ne_of_gt (Nat.lt_succ_of_lt hal), Nat.ne_of_lt hal⟩, fp2, q⟩
/-- a list or a tuple -/
def iSeq (K : PySem.W.Frag) (tl : TE) : TI := fun σ H R => tl σ H fun x H1 => ∃ a, x = .ref a ∧ (((∃ xs, SqL K H1 a xs) ∧ R (Itl K a) H1) ∨ ((∃ xs, SqT K H1 a xs) ∧ R (Itt K a) H1))
theorem pi_seq {X : Cx} {tg l : Expr} {tl : TE} (hl : PE X l tl) : PI X tg l (iSeq X.K tl) := by
  refine ⟨fun pins s σ H R I h => ?_⟩
  refine thn (hl.run pins s σ H _ I h) fun v s1 ⟨x, H1, I1, r1, q1⟩ => ?_
  obtain ⟨a, e, q⟩ := q1
  subst e
  cases r1
  have fp1 : ∀ b ∈ [s1.heap.objs.size], FpOk X pins H1 b := fun b hb => by
    have e : b = s1.heap.objs.size := by simpa using hb
    subst e
    exact I1.fpOk (Nat.le_refl _) (I1.hok.fresh (Nat.le_refl _))
  rcases q with ⟨⟨xs, hq⟩, q⟩ | ⟨⟨xs, hq⟩, q⟩
  · obtain ⟨its, rv, p, hz⟩ := I1.list hq
    refine wpAny_pyIter_list p.isList ?_
    exact ⟨s1.heap.objs.size, [s1.heap.objs.size], _, _, H1, rfl, I1.kept (t' := s1.toks) fun b o e => Heap.get?_push_of_some _ e, turn_list a _, ⟨_, Heap.get?_push_size _ rfl, rfl, rfl⟩, fp1, q⟩
  · obtain ⟨its, rv, p, hz⟩ := I1.tuple hq
    refine wpAny_pyIter_tuple (show s1.heap.IsTuple a its.toArray from p) ?_
    exact ⟨s1.heap.objs.size, [s1.heap.objs.size], _, _, H1, rfl, I1.kept (t' := s1.toks) fun b o e => Heap.get?_push_of_some _ e, turn_tuple a _, ⟨_, Heap.get?_push_size _ rfl, rfl, rfl⟩, fp1, q⟩
end AU
namespace AU
open PySem PySem.Spec PyProof.Rows L2

/-! ### slots -/
section
variable {B : Bs} {env : Env} {S : Sr} {σ : L2.St} {F H : Hp} {sa : Option Addr}
theorem get_set {α : Type} {l : List α} {i j : Nat} {x y : α} (h : (l.set i x)[j]? = some y) : (i = j ∧ y = x ∧ i < l.length) ∨ (i ≠ j ∧ l[j]? = some y) := by
  by_cases e : i = j
  · subst e
    by_cases hl : i < l.length
    · rw [List.getElem?_set_self hl] at h
      exact .inl ⟨rfl, (Option.some.inj h).symm, hl⟩
    · rw [List.getElem?_eq_none (by simpa using hl)] at h
      cases h
  · rw [List.getElem?_set_ne e] at h
    exact .inr ⟨e, h⟩
/-- a slot gets data -/
theorem Ok.setD (k : Ok B env S σ F H sa) (i : Nat) {v : V} {d : DD} (r : Rp B.K F v d) : Ok B (env.set i (some (.d d))) S (σ.set i (some v)) F H sa := by
  refine ⟨k.ff, k.fh, k.hh, k.nf, k.tb, k.sa0, k.so, by simpa using k.len, fun j it e => ?_, fun j1 j2 xs ys a h1 h2 h3 h4 => ?_, k.ft⟩
  · rcases get_set e with ⟨rfl, e2, hl⟩ | ⟨ne, e2⟩
    · cases e2
      exact ⟨v, by rw [List.getElem?_set_self (by rw [← k.len]; exact hl)], r⟩
    · obtain ⟨w, h1, h2⟩ := k.sl j it e2
      exact ⟨w, by rw [List.getElem?_set_ne ne]; exact h1, h2⟩
  · rcases get_set h2 with ⟨_, e2, _⟩ | ⟨n1, e1⟩
    · cases e2
    · rcases get_set h3 with ⟨_, e2, _⟩ | ⟨n2, e2⟩
      · cases e2
      · rw [List.getElem?_set_ne n1] at h4
        rw [List.getElem?_set_ne n2]
        exact k.dj j1 j2 xs ys a h1 e1 e2 h4
/-- a slot is forgotten -/
theorem Ok.unset (k : Ok B env S σ F H sa) (i : Nat) (o : Option V) : Ok B (env.set i none) S (σ.set i o) F H sa := by
  refine ⟨k.ff, k.fh, k.hh, k.nf, k.tb, k.sa0, k.so, by simpa using k.len, fun j it e => ?_, fun j1 j2 xs ys a h1 h2 h3 h4 => ?_, k.ft⟩
  · rcases get_set e with ⟨_, e2, _⟩ | ⟨ne, e2⟩
    · cases e2
    · obtain ⟨w, h1, h2⟩ := k.sl j it e2
      exact ⟨w, by rw [List.getElem?_set_ne ne]; exact h1, h2⟩
  · rcases get_set h2 with ⟨_, e2, _⟩ | ⟨n1, e1⟩
    · cases e2
    · rcases get_set h3 with ⟨_, e2, _⟩ | ⟨n2, e2⟩
      · cases e2
      · rw [List.getElem?_set_ne n1] at h4
        rw [List.getElem?_set_ne n2]
        exact k.dj j1 j2 xs ys a h1 e1 e2 h4
def wipeE (env : Env) : List Nat → Env
  | [] => env
  | v :: vs => (wipeE env vs).set v none
theorem Ok.wipe (k : Ok B env S σ F H sa) : ∀ vs : List Nat, Ok B (wipeE env vs) S (L2.wipe σ vs) F H sa
  | [] => k
  | v :: vs => (Ok.wipe k vs).unset v none
theorem wipe_get (σ : L2.St) : ∀ (vs : List Nat) (i : Nat), i ∉ vs → (L2.wipe σ vs)[i]? = σ[i]?
  | [], i, _ => rfl
  | v :: vs, i, h => by
    unfold L2.wipe
    simp only [List.mem_cons, not_or] at h
    rw [List.getElem?_set_ne (Ne.symm h.1)]
    exact wipe_get σ vs i h.2
theorem wipe_in (σ : L2.St) : ∀ (vs : List Nat) (i : Nat), i ∈ vs → (L2.wipe σ vs)[i]? = if i < σ.length then some none else none
  | [], i, h => by cases h
  | v :: vs, i, h => by
    unfold L2.wipe
    by_cases e : v = i
    · subst e
      by_cases hl : v < σ.length
      · rw [List.getElem?_set_self (by rw [wipe_length]; exact hl), if_pos hl]
      · rw [List.getElem?_eq_none (by rw [List.length_set, wipe_length]; omega), if_neg hl]
    · rw [List.getElem?_set_ne e]
      rcases List.mem_cons.mp h with z | z
      · exact absurd z.symm e
      · exact wipe_in σ vs i z
theorem wipe_eq {σ τ : L2.St} (vs : List Nat) (hl : σ.length = τ.length) (h : ∀ i, i ∉ vs → σ[i]? = τ[i]?) : L2.wipe σ vs = L2.wipe τ vs := by
  apply List.ext_getElem?
  intro i
  by_cases e : i ∈ vs
  · rw [wipe_in σ vs i e, wipe_in τ vs i e, hl]
  · rw [wipe_get σ vs i e, wipe_get τ vs i e]
    exact h i e
/-- the growth of the heaps, the slots as they were -/
theorem tabs_ext {T : List (Addr × Str)} {H H' : Hp} (t : LamX.Tabs T H) (e : ∀ b o, H b = some o → (∀ xs, o ≠ .lst xs) → H' b = some o) : LamX.Tabs T H' := fun p hp => by
  obtain ⟨ps, h1, h2, h3⟩ := t p hp
  refine ⟨ps, e _ _ h1 (fun xs z => by cases z), h2, fun pos cv hc => ?_⟩
  obtain ⟨c, e1, e2⟩ := h3 pos cv hc
  exact ⟨c, e1, e _ _ e2 (fun xs z => by unfold LamX.CodeO at z; cases z)⟩
theorem Ok.grow {S' : Sr} {F' H' : Hp} (k : Ok B env S σ F H sa) (ff : Same F F') (fh : Same F' H') (kp : ∀ a o, H a = some o → sa ≠ some a → H' a = some o) (nf : ∀ a, H a ≠ none → F a = none → F' a = none)
    (so : ∀ a, sa = some a → H' a = some (.lst [.int S'.1, .int S'.2])) (ft : ∀ a ps, F' a ≠ some (.tbl ps)) : Ok B env S' σ F' H' sa ∧ Gw B sa F H F' H' := by
  have there : ∀ a o, H a = some o → Kp B o → ∃ o', H' a = some o' ∧ Kp B o' := fun a o q h => by
    by_cases hs : sa = some a
    · exact ⟨_, so a hs, .lst⟩
    · exact ⟨o, kp a o q hs, h⟩
  have nn : ∀ {a : Addr} {o : HO}, H a = some o → H a ≠ none := fun e z => by rw [e] at z; cases z
  refine ⟨⟨k.ff.trans ff, fh, fun a u e h1 h2 => kp a u (k.hh a u e h1 h2) fun z => ?_, fun a u h0 h1 h2 => (let ⟨_, e', _⟩ := k.there h0 h1; nf a (nn e') (k.nf a u h0 h1 h2)), tabs_ext k.tb fun b o e hne => kp b o e fun z => ?_, k.sa0, fun a e => ?_, k.len, fun i it e => ?_, k.dj, ft⟩,
    ⟨ff, fun a o e h1 _ => kp a o e h1, fun a o e _ h => nf a (nn e) h, there⟩⟩
  · rcases k.sa0 with q | q
    · exact h1 (q ▸ z)
    · rcases (k.so a z).2.2 with q2 | q2
      · rw [q] at q2
        cases q2
      · exact q2 u e h2
  · have z2 := (k.so b z).2.1
    rw [e] at z2
    cases z2
    exact hne _ rfl
  · obtain ⟨h1, h2, h3⟩ := k.so a e
    exact ⟨nf a (fun z => by rw [h2] at z; cases z) h1, so a e, h3⟩
  · obtain ⟨v, h1, h2⟩ := k.sl i it e
    refine ⟨v, h1, ?_⟩
    cases it with
    | d x => exact Rp.same ff x h2
    | l xs =>
      obtain ⟨a, vs, e1, e2, e3, e4, e5, e6⟩ := h2
      exact ⟨a, vs, e1, nf a (fun z => by rw [e5] at z; cases z) e2, e3, e4, kp a _ e5 e4, RpA.same ff xs e6⟩
    | s => exact h2
    | sc ns =>
      obtain ⟨a, e1, e2⟩ := h2
      exact ⟨a, e1, Same.seq ff e2⟩
end

/-! ### calls of the program's own defs -/
def ArgOk (K : PySem.W.Frag) (F : Hp) (sa : Option Addr) : It → V → Prop
  | .d x, v => Rp K F v x
  | .l _, _ => False
  | .s, v => ∃ a, v = .ref a ∧ sa = some a
  | .sc ns, v => ∃ a, v = .ref a ∧ SqL K F a (ns.map V.int)
inductive ArgsOk (K : PySem.W.Frag) (F : Hp) (sa : Option Addr) : List It → List V → Prop
  | nil : ArgsOk K F sa [] []
  | cons {it : It} {its : List It} {v : V} {vs : List V} : ArgOk K F sa it v → ArgsOk K F sa its vs → ArgsOk K F sa (it :: its) (v :: vs)
theorem ArgOk.same {K : PySem.W.Frag} {F F' : Hp} {sa : Option Addr} (e : Same F F') : ∀ {it : It} {v : V}, ArgOk K F sa it v → ArgOk K F' sa it v
  | .d x, _, h => Rp.same e x h
  | .l _, _, h => h.elim
  | .s, _, h => h
  | .sc _, _, ⟨a, e1, e2⟩ => ⟨a, e1, Same.seq e e2⟩
theorem ArgsOk.same {K : PySem.W.Frag} {F F' : Hp} {sa : Option Addr} (e : Same F F') : ∀ {its : List It} {vs : List V}, ArgsOk K F sa its vs → ArgsOk K F' sa its vs
  | _, _, .nil => .nil
  | _, _, .cons h1 h2 => .cons (h1.same e) (h2.same e)
def isS : It → Bool
  | .s => true
  | _ => false
theorem ArgsOk.pure {K : PySem.W.Frag} {F : Hp} {sa sb : Option Addr} : ∀ {its : List It} {vs : List V}, its.any isS = false → ArgsOk K F sa its vs → ArgsOk K F sb its vs
  | _, _, _, .nil => .nil
  | it :: its, _, h, .cons h1 h2 => by
    simp only [List.any_cons, Bool.or_eq_false_iff] at h
    refine .cons ?_ (ArgsOk.pure h.2 h2)
    cases it with
    | d x => exact h1
    | l x => exact h1
    | s => exact absurd h.1 (by decide)
    | sc ns => exact h1
theorem ArgsOk.length {K : PySem.W.Frag} {F : Hp} {sa : Option Addr} : ∀ {its : List It} {vs : List V}, ArgsOk K F sa its vs → vs.length = its.length
  | _, _, .nil => rfl
  | _, _, .cons _ h => by simp [ArgsOk.length h]
structure Grw (sa : Option Addr) (S' : Sr) (F H F' H' : Hp) : Prop where
  ff : Same F F'
  fh : Same F' H'
  kp : ∀ a o, H a = some o → sa ≠ some a → H' a = some o
  nf : ∀ a, H a ≠ none → F a = none → F' a = none
  so : ∀ a, sa = some a → H' a = some (.lst [.int S'.1, .int S'.2])
  ft : ∀ a ps, F' a ≠ some (.tbl ps)
def ExE (K : PySem.W.Frag) (cls : Nat → Value) (E : XK) (e : Ex) (F H : Hp) : Prop := match e.arg with
  | none => E (cls e.k) none H
  | some (f, x) => ∀ d v, F d = none → H d = some (.xd [(f, v)]) → Rp K F v x → E (cls e.k) (some d) H
/-- what a def promises: fn told of data -/
def spI (K : PySem.W.Frag) (cls : Nat → Value) (n : Nat) (fn : List It → M DD) : Sp := fun vs H Q E => ∃ F sa S its, vs.length = n ∧ Same F H ∧ ArgsOk K F sa its vs ∧ (∀ a, sa = some a → F a = none ∧ H a = some (.lst [.int S.1, .int S.2])) ∧ (∀ a ps, F a ≠ some (.tbl ps)) ∧
  Post (fun d S' => ∀ v F' H', Grw sa S' F H F' H' → Rp K F' v d → Q v H') (fun e S' => ∀ F' H', Grw sa S' F H F' H' → ExE K cls E e F' H') (fn its S)
/-- a def of the module and what it reckons -/
structure FnC (P : Program) (w : World) (K : PySem.W.Frag) (mg : Str → Option Value) (base : Heap) (cls : Nat → Value) (x : Str) (n k : Nat) (fn : List It → M DD) : Prop where
  ex : ∃ f fd ps, FnOk P w K mg base (L2.CX P w) k f fd ps (spI K cls n fn) ∧ mg x = some (.ref f) ∧ PySem.W.keepIn K (.ref f) = true ∧ L2.Binds K fd ps []
theorem FnC.mono {P : Program} {w : World} {K : PySem.W.Frag} {mg : Str → Option Value} {base : Heap} {cls : Nat → Value} {x : Str} {n k k' : Nat} {fn : List It → M DD} (h : FnC P w K mg base cls x n k fn) (hk : k ≤ k') : FnC P w K mg base cls x n k' fn := by
  obtain ⟨f, fd, ps, F, r⟩ := h.ex
  exact ⟨f, fd, ps, F.mono hk, r⟩
def callM (fn : List It → M DD) (its : List It) : M DD := fun S => match its.any isS with
  | true => fn its S
  | false => match fn its (0, 0) with
    | none => none
    | some (r, _) => some (r, S)
def GoodI (B : Bs) (env : Env) (σ : L2.St) (F H : Hp) (sa : Option Addr) (Q : List V → Hp → Prop) : List It → Sr → Prop := fun its S => ∀ vs F' H', Ok B env S σ F' H' sa → Gw B sa F H F' H' → ArgsOk B.K F' sa its vs → Q vs H'
theorem Post.sameI {B : Bs} {W : WX} {env : Env} {σ : L2.St} {F F' H H' : Hp} {sa : Option Addr} {Q : List V → Hp → Prop} {r : Option (Except Ex (List It) × Sr)} (e : Gw B sa F H F' H') (g : Post (GoodI B env σ F H sa Q) (Bad B W env σ F H sa) r) : Post (GoodI B env σ F' H' sa Q) (Bad B W env σ F' H' sa) r :=
  g.mono (fun _ _ g vs F2 H2 k s r => g vs F2 H2 k (e.trans s) r) fun _ _ => Bad.of e
def SndI (B : Bs) (W : WX) (ta : TA) (f : Env → M (List It)) : Prop := ∀ env S σ F H sa, Ok B env S σ F H sa → ∀ Q : List V → Hp → Prop, Post (GoodI B env σ F H sa Q) (Bad B W env σ F H sa) (f env S) → ta σ H Q
structure DI (X : Cx) (B : Bs) (W : WX) (es : List Expr) (f : Env → M (List It)) : Prop where
  ex : ∃ te, PA X es te ∧ SndI B W te f ∧ ∀ env S its S', f env S = some (.ok its, S') → its.length = es.length
theorem bnd_ok {α β : Type} {m : M α} {k : α → M β} {S S' : Sr} {y : β} (h : bnd m k S = some (.ok y, S')) : ∃ x S1, m S = some (.ok x, S1) ∧ k x S1 = some (.ok y, S') := by
  unfold bnd at h
  cases e : m S with
  | none => rw [e] at h; cases h
  | some p =>
    obtain ⟨r, S1⟩ := p
    rw [e] at h
    cases r with
    | ok x => exact ⟨x, S1, rfl, h⟩
    | error x => cases h
def iNil : Env → M (List It) := fun _ => ret []
def iCons (f : Env → M DD) (r : Env → M (List It)) : Env → M (List It) := fun env => bnd (f env) fun x => bnd (r env) fun xs => ret (.d x :: xs)
def iSrc (i : Nat) (r : Env → M (List It)) : Env → M (List It) := fun env => match env[i]? with
  | some (some .s) => bnd (r env) fun xs => ret (.s :: xs)
  | some (some (.sc ns)) => bnd (r env) fun xs => ret (.sc ns :: xs)
  | _ => stk
def eCall (fn : List It → M DD) (as : Env → M (List It)) : Env → M DD := fun env => bnd (as env) fun its => callM fn its
section
variable {B : Bs} {W : WX} {X : Cx} {e : Expr} {es : List Expr} {fa : Env → M DD} {fr : Env → M (List It)} {pos : Pos}
theorem di_nil : DI X B W [] iNil := ⟨_, pa_nil, fun env S σ F H sa k Q h => h [] F H k Gw.refl .nil, fun env S its S' h => by cases h; rfl⟩
theorem di_cons (ha : DE X B W e fa) (hr : DI X B W es fr) (hs : starEach (e :: es) X.env = (false, eval e X.env) :: starEach es X.env := by rfl) : DI X B W (e :: es) (iCons fa fr) := by
  obtain ⟨ta, pa, sa⟩ := ha.ex
  obtain ⟨tr, pr, sr, lr⟩ := hr.ex
  refine ⟨_, pa_cons pa pr hs, fun env S σ F H sa' k Q h => sa env S σ F H sa' k _ ((Post.bnd h).imp fun x S1 h1 v F1 H1 k1 s1 r1 => ?_), fun env S its S' h => ?_⟩
  rotate_left
  · obtain ⟨x, S1, h1, h2⟩ := bnd_ok h
    obtain ⟨xs, S2, h3, h4⟩ := bnd_ok h2
    cases h4
    simp [lr _ _ _ _ h3]
  exact sr env S1 σ F1 H1 sa' k1 _ ((Post.bnd (h1.sameI s1)).imp fun xs S2 h2 vs F2 H2 k2 s2 r2 => h2 (v :: vs) F2 H2 k2 s2 (.cons (Rp.same s2.ff x r1) r2))
theorem di_src (i : Nat) {x : Str} (hr : DI X B W es fr) (hN : X.N[i]? = some x := by rfl) (hv : Vis X.env.scope x := by first | exact Or.inl rfl | exact Or.inr (Or.inl rfl) | exact Or.inr (Or.inr rfl)) (hd : (x == ("__debug__" : Str)) = false := by decide)
    (hcd : (x == ("__classdict__" : Str)) = false := by decide) (hs : starEach (.Name x pos :: es) X.env = (false, eval (.Name x pos) X.env) :: starEach es X.env := by rfl) : DI X B W (.Name x pos :: es) (iSrc i fr) := by
  obtain ⟨tr, pr, sr, lr⟩ := hr.ex
  refine ⟨_, pa_cons (pe_var hN hv hd hcd) pr hs, fun env S σ F H sa' k Q h => ?_, fun env S its S' h => ?_⟩
  rotate_left
  · unfold iSrc at h
    cases e : env[i]? with
    | none => rw [e] at h; cases h
    | some o =>
      rw [e] at h
      cases o with
      | none => cases h
      | some it =>
        cases it with
        | d x => cases h
        | l xs => cases h
        | s =>
          obtain ⟨xs, S2, h3, h4⟩ := bnd_ok h
          cases h4
          simp [lr _ _ _ _ h3]
        | sc ns =>
          obtain ⟨xs, S2, h3, h4⟩ := bnd_ok h
          cases h4
          simp [lr _ _ _ _ h3]
  unfold iSrc at h
  cases e : env[i]? with
  | none => rw [e] at h; exact h.elim
  | some o =>
    cases o with
    | none => rw [e] at h; exact h.elim
    | some it =>
      cases it with
      | d x => rw [e] at h; exact h.elim
      | l xs => rw [e] at h; exact h.elim
      | s =>
        rw [e] at h
        obtain ⟨v, h1, h2⟩ := k.sl i _ e
        exact ⟨v, h1, sr env S σ F H sa' k _ ((Post.bnd h).imp fun xs S2 h2' vs F2 H2 k2 s2 r2 => h2' (v :: vs) F2 H2 k2 s2 (.cons h2 r2))⟩
      | sc ns =>
        rw [e] at h
        obtain ⟨v, h1, h2⟩ := k.sl i _ e
        refine ⟨v, h1, sr env S σ F H sa' k _ ((Post.bnd h).imp fun xs S2 h2' vs F2 H2 k2 s2 r2 => h2' (v :: vs) F2 H2 k2 s2 (.cons ?_ r2))⟩
        obtain ⟨a, e1, e2⟩ := h2
        exact ⟨a, e1, Same.seq s2.ff e2⟩
/-- what the call's end means for the caller -/
theorem call_snd {fn : List It → M DD} {n : Nat} {env : Env} {S : Sr} {σ : L2.St} {F H : Hp} {sa : Option Addr} {its : List It} {vs : List V} {Q : VK} (k : Ok B env S σ F H sa) (ha : ArgsOk B.K F sa its vs) (hn : vs.length = n)
    (h : Post (Good B env σ F H sa Q) (Bad B W env σ F H sa) (callM fn its S)) : spI B.K B.cls n fn vs H Q (WE W σ) := by
  unfold callM at h
  cases hS : its.any isS with
  | true =>
    rw [hS] at h
    refine ⟨F, sa, S, its, hn, k.fh, ha, fun a e => ⟨(k.so a e).1, (k.so a e).2.1⟩, k.ft, h.mono (fun d S' g v F' H' w r => ?_) fun e S' g F' H' w => ?_⟩
    · obtain ⟨k', gw⟩ := k.grow w.ff w.fh w.kp w.nf w.so w.ft
      exact g v F' H' k' gw r
    · obtain ⟨k', gw⟩ := k.grow w.ff w.fh w.kp w.nf w.so w.ft
      exact g F' H' k' gw
  | false =>
    rw [hS] at h
    simp only at h
    cases e : fn its (0, 0) with
    | none => rw [e] at h; exact h.elim
    | some p =>
      obtain ⟨r, S0⟩ := p
      rw [e] at h
      refine ⟨F, none, (0, 0), its, hn, k.fh, ha.pure hS, (fun a e => by cases e), k.ft, ?_⟩
      rw [e]
      have gr : ∀ F' H', Grw none S0 F H F' H' → Ok B env S σ F' H' sa ∧ Gw B sa F H F' H' := fun F' H' w =>
        k.grow w.ff w.fh (fun a o q _ => w.kp a o q (fun z => by cases z)) w.nf (fun a q => w.kp a _ (k.so a q).2.1 fun z => by cases z) w.ft
      cases r with
      | ok d =>
        exact fun v F' H' w r => h v F' H' (gr F' H' w).1 (gr F' H' w).2 r
      | error x => exact fun F' H' w => h F' H' (gr F' H' w).1 (gr F' H' w).2
theorem de_call {x : Str} {p : Pos} {n kk m : Nat} {fn : List It → M DD} (Fc : FnC X.prog X.w X.K X.mg X.base B.cls x n kk fn) (hr : Room m X.A) (hkm : kk ≤ m) (hK : B.K = X.K) (tk : Takes X W) (ha : DI X B W (e :: es) fr) (hn : (e :: es).length = n := by rfl)
    (hg : Gl X x := by rfl) (hdb : (x == ("__debug__" : Str)) = false := by decide) (he : starEach (e :: es) X.env = (false, eval e X.env) :: starEach es X.env := by rfl) (hpl : (backTo pos (starEach es X.env)).any (·.1) = false := by rfl) :
    DE X B W (.Call (.Name x p) (e :: es) [] pos) (eCall fn fr) := by
  obtain ⟨f, fd, ps, F, hm, hk, hb⟩ := Fc.ex
  obtain ⟨ta, pa, sa, la⟩ := ha.ex
  refine ⟨_, pe_callS F (hr.mono hkm) hg hm hk hb (fun σ => passAt tk σ) pa hdb he hpl, fun env S σ F H sa' k Q h => ?_⟩
  have h2 := Post.bnd h
  refine sa env S σ F H sa' k _ ?_
  cases q : fr env S with
  | none => rw [q] at h2; exact h2.elim
  | some pr =>
    obtain ⟨r, S1⟩ := pr
    rw [q] at h2
    cases r with
    | error x => exact h2
    | ok its =>
      intro vs F1 H1 k1 s1 r1
      rw [← hK]
      exact call_snd (W := W) k1 r1 (by rw [r1.length, ← hn]; exact la env S its S1 q) (h2.same s1)
end
end AU
namespace AU
open PySem PySem.Spec PyProof.Rows L2

section
variable {B : Bs} {env env2 : Env} {S S2 : Sr} {σ σ2 : L2.St} {F H F' H' : Hp} {sa : Option Addr}
/-- what was known of the slots goes on with the heaps -/
theorem Ok.carry (k : Ok B env S σ F H sa) (g : Gw B sa F H F' H') (k2 : Ok B env2 S2 σ2 F' H' sa) : Ok B env S2 σ F' H' sa := by
  refine ⟨k2.ff, k2.fh, k2.hh, k2.nf, k2.tb, k2.sa0, k2.so, k.len, fun i it e => ?_, k.dj, k2.ft⟩
  obtain ⟨v, h1, h2⟩ := k.sl i it e
  refine ⟨v, h1, ?_⟩
  cases it with
  | d x => exact Rp.same g.ff x h2
  | l xs =>
    obtain ⟨a, vs, e1, e2, e3, e4, e5, e6⟩ := h2
    exact ⟨a, vs, e1, g.nf a _ e5 .lst e2, e3, e4, g.kp a _ e5 e4 .lst, RpA.same g.ff xs e6⟩
  | s => exact h2
  | sc ns =>
    obtain ⟨a, e1, e2⟩ := h2
    exact ⟨a, e1, Same.seq g.ff e2⟩
/-- a new object is laid that is not laid down as data -/
theorem Ok.newH (k : Ok B env S σ F H sa) {p : Addr} (hp : H p = none) (o : HO) : Ok B env S σ F (upd H p o) sa ∧ Gw B sa F H F (upd H p o) ∧ F p = none ∧ Fr B B.H0 p ∧ sa ≠ some p := by
  have sH : Same H (upd H p o) := fun b u e => by
    rw [upd_ne (ne_of_none e hp)]
    exact e
  have fp := k.fh.free hp
  have hsa : sa ≠ some p := fun z => by
    have e := (k.so p z).2.1
    rw [hp] at e
    cases e
  have h0 : Fr B B.H0 p := k.fr0 (Fr.of hp)
  obtain ⟨k1, g1⟩ := k.grow (S' := S) (F' := F) (H' := upd H p o) (Same.refl F) (k.fh.trans sH) (fun a o e _ => sH _ _ e) (fun a _ h => h) (fun a e => sH _ _ (k.so a e).2.1) k.ft
  exact ⟨k1, g1, fp, h0, hsa⟩
/-- the list that stands alone at a changes -/
theorem Ok.mut (k : Ok B env S σ F H sa) {a : Addr} {vs ws : List V} (ha : H a = some (.lst vs)) (hF : F a = none) (h0 : Fr B B.H0 a) (hs : sa ≠ some a) (hsl : ∀ (i : Nat) (xs : List DD), env[i]? = some (some (.l xs)) → σ[i]? ≠ some (some (.ref a))) :
    Ok B env S σ F (upd H a (.lst ws)) sa := by
  refine ⟨k.ff, fun b u e => ?_, fun b u e h1 h2 => ?_, k.nf, fun p hp => ?_, k.sa0, fun b e => ?_, k.len, fun i it e => ?_, k.dj, k.ft⟩
  · rw [upd_ne (ne_of_none e hF)]
    exact k.fh _ _ e
  · have ne : b ≠ a := fun z => h0 u (z ▸ e) h2
    rw [upd_ne ne]
    exact k.hh b u e h1 h2
  · obtain ⟨ps, e1, e2, e3⟩ := k.tb p hp
    have ne1 : p.1 ≠ a := fun z => by
      rw [z, ha] at e1
      cases e1
    refine ⟨ps, by rw [upd_ne ne1]; exact e1, e2, fun pos cv hc => ?_⟩
    obtain ⟨c, c1, c2⟩ := e3 pos cv hc
    have ne2 : c ≠ a := fun z => by
      rw [z, ha] at c2
      unfold LamX.CodeO at c2
      cases c2
    exact ⟨c, c1, by rw [upd_ne ne2]; exact c2⟩
  · obtain ⟨h1, h2, h3⟩ := k.so b e
    have ne : b ≠ a := fun z => hs (z ▸ e)
    exact ⟨h1, by rw [upd_ne ne]; exact h2, h3⟩
  · obtain ⟨v, h1, h2⟩ := k.sl i it e
    refine ⟨v, h1, ?_⟩
    cases it with
    | d x => exact h2
    | l xs =>
      obtain ⟨b, us, e1, e2, e3, e4, e5, e6⟩ := h2
      have ne : b ≠ a := fun z => by
        subst e1
        rw [z] at h1
        exact hsl i xs e h1
      exact ⟨b, us, e1, e2, e3, e4, by rw [upd_ne ne]; exact e5, e6⟩
    | s => exact h2
    | sc ns => exact h2
/-- a slot gets a list of its own -/
theorem Ok.setL (k : Ok B env S σ F H sa) (i : Nat) {p : Addr} {vs : List V} {ds : List DD} (hF : F p = none) (h0 : Fr B B.H0 p) (hs : sa ≠ some p) (hp : H p = some (.lst vs)) (r : RpA B.K F vs ds)
    (hd : ∀ (j : Nat) (ys : List DD), j ≠ i → env[j]? = some (some (.l ys)) → σ[j]? ≠ some (some (.ref p))) : Ok B (env.set i (some (.l ds))) S (σ.set i (some (.ref p))) F H sa := by
  refine ⟨k.ff, k.fh, k.hh, k.nf, k.tb, k.sa0, k.so, by simpa using k.len, fun j it e => ?_, fun j1 j2 xs ys a h1 h2 h3 h4 => ?_, k.ft⟩
  · rcases get_set e with ⟨rfl, e2, hl⟩ | ⟨ne, e2⟩
    · cases e2
      exact ⟨.ref p, by rw [List.getElem?_set_self (by rw [← k.len]; exact hl)], p, vs, rfl, hF, h0, hs, hp, r⟩
    · obtain ⟨w, h1, h2⟩ := k.sl j it e2
      exact ⟨w, by rw [List.getElem?_set_ne ne]; exact h1, h2⟩
  · rcases get_set h2 with ⟨q1, e1, l1⟩ | ⟨n1, e1⟩
    · rcases get_set h3 with ⟨q2, e2, _⟩ | ⟨n2, e2⟩
      · exact absurd (q1.symm.trans q2) h1
      · subst q1
        rw [List.getElem?_set_self (by rw [← k.len]; exact l1)] at h4
        cases h4
        rw [List.getElem?_set_ne n2]
        exact hd j2 ys (Ne.symm n2) e2
    · rw [List.getElem?_set_ne n1] at h4
      rcases get_set h3 with ⟨q2, e2, l2⟩ | ⟨n2, e2⟩
      · subst q2
        rw [List.getElem?_set_self (by rw [← k.len]; exact l2)]
        intro z
        cases z
        exact hd j1 xs (Ne.symm n1) e1 h4
      · rw [List.getElem?_set_ne n2]
        exact k.dj j1 j2 xs ys a h1 e1 e2 h4
/-- a list of its own is laid down as data -/
theorem Ok.freeze (k : Ok B env S σ F H sa) {i : Nat} {xs : List DD} (e : env[i]? = some (some (.l xs))) : ∃ F', Same F F' ∧ Ok B (env.set i (some (.d (.lst xs)))) S σ F' H sa := by
  obtain ⟨v, hv, a, vs, rfl, e2, e3, e4, e5, e6⟩ := k.sl i _ e
  have sF : Same F (upd F a (.lst vs)) := fun b u q => by
    rw [upd_ne (ne_of_none q e2)]
    exact q
  have hi : i < env.length := (List.getElem?_eq_some_iff.mp e).1
  refine ⟨upd F a (.lst vs), sF, k.ff.trans sF, fun b u q => ?_, k.hh, fun b u h0 h1 h2 => ?_, k.tb, k.sa0, fun b q => ?_, by simpa using k.len, fun j it q => ?_, fun j1 j2 ys zs b h1 h2 h3 h4 => ?_, fun b ps hq => ?_⟩
  · by_cases hb : b = a
    · subst hb
      rw [upd_same] at q
      rw [e5, ← q]
    · rw [upd_ne hb] at q
      exact k.fh _ _ q
  · have ne : b ≠ a := fun z => e3 u (z ▸ h0) h1
    rw [upd_ne ne]
    exact k.nf b u h0 h1 h2
  · obtain ⟨h1, h2, h3⟩ := k.so b q
    have ne : b ≠ a := fun z => e4 (z ▸ q)
    exact ⟨by rw [upd_ne ne]; exact h1, h2, h3⟩
  · rcases get_set q with ⟨rfl, q2, _⟩ | ⟨ne, q2⟩
    · cases q2
      exact ⟨.ref a, hv, .lst upd_same (RpA.same sF _ e6)⟩
    · obtain ⟨w, w1, w2⟩ := k.sl j it q2
      refine ⟨w, w1, ?_⟩
      cases it with
      | d x => exact Rp.same sF x w2
      | l ys =>
        obtain ⟨b, us, c1, c2, c3, c4, c5, c6⟩ := w2
        have nb : b ≠ a := fun z => by
          subst c1
          rw [z] at w1
          exact k.dj i j xs ys a ne e q2 hv w1
        exact ⟨b, us, c1, by rw [upd_ne nb]; exact c2, c3, c4, c5, RpA.same sF _ c6⟩
      | s => exact w2
      | sc ns =>
        obtain ⟨b, c1, c2⟩ := w2
        exact ⟨b, c1, Same.seq sF c2⟩
  · rcases get_set h2 with ⟨_, c, _⟩ | ⟨n1, c1⟩
    · cases c
    · rcases get_set h3 with ⟨_, c, _⟩ | ⟨n2, c2⟩
      · cases c
      · exact k.dj j1 j2 ys zs b h1 c1 c2 h4
  · by_cases hb : b = a
    · rw [hb, upd_same] at hq
      cases hq
    · rw [upd_ne hb] at hq
      exact k.ft b ps hq
end

/-! ### targets -/
def SndG (B : Bs) (g : TG) (fg : Env → DD → Option Env) (js : List Nat) : Prop := ∀ env S σ F H sa v d env', Ok B env S σ F H sa → Rp B.K F v d → fg env d = some env' → ∀ Q : L2.St → Hp → Prop,
  (∀ σ', Ok B env' S σ' F H sa → σ'.length = σ.length → (∀ i, i ∉ js → σ'[i]? = σ[i]?) → Q σ' H) → g v σ H Q
def SndGs (B : Bs) (g : TGs) (fg : Env → List DD → Option Env) (js : List Nat) : Prop := ∀ env S σ F H sa vs ds env', Ok B env S σ F H sa → RpA B.K F vs ds → fg env ds = some env' → ∀ Q : L2.St → Hp → Prop,
  (∀ σ', Ok B env' S σ' F H sa → σ'.length = σ.length → (∀ i, i ∉ js → σ'[i]? = σ[i]?) → Q σ' H) → g vs σ H Q
structure DG (X : Cx) (B : Bs) (tg : Expr) (fg : Env → DD → Option Env) (js : List Nat) : Prop where
  ex : ∃ g, PG X tg g ∧ SndG B g fg js
structure DGs (X : Cx) (B : Bs) (tg : List Expr) (fg : Env → List DD → Option Env) (js : List Nat) : Prop where
  ex : ∃ g, PGs X tg g ∧ SndGs B g fg js
def gN (i : Nat) : Env → DD → Option Env := fun env d => some (env.set i (some (.d d)))
def gT (n : Nat) (f : Env → List DD → Option Env) : Env → DD → Option Env := fun env d => match d with
  | .tup ds => if ds.length = n then f env ds else none
  | _ => none
def gsN : Env → List DD → Option Env := fun env ds => match ds with
  | [] => some env
  | _ => none
def gsC (g : Env → DD → Option Env) (r : Env → List DD → Option Env) : Env → List DD → Option Env := fun env ds => match ds with
  | d :: ds => (g env d).bind fun e => r e ds
  | [] => none
section
variable {B : Bs} {X : Cx} {e : Expr} {es : List Expr} {pos : Pos}
theorem sndG_name (i : Nat) : SndG B (gName i) (gN i) [i] := fun env S σ F H sa v d env' k r h Q q => by
  cases h
  exact q _ (k.setD i r) (by simp) fun j hj => List.getElem?_set_ne (fun z => hj (by simp [z]))
theorem dg_name (i : Nat) {x : Str} (hN : X.N.Nodup) (hi : X.N[i]? = some x := by rfl) (hx : Loc X.env.scope x := by first | exact Or.inl rfl | exact Or.inr rfl) (hf : X.fn x = true ∨ X.env.scope.names.lookup x = some .local := by first | exact .inl rfl | exact .inr rfl) : DG X B (.Name x pos) (gN i) [i] :=
  ⟨_, pg_name hN hi hx hf, sndG_name i⟩
theorem dgs_nil : DGs X B [] gsN [] := ⟨_, pgs_nil, fun env S σ F H sa vs ds env' k r h Q q => by
  cases r with
  | nil =>
    cases h
    exact ⟨rfl, q σ k rfl fun _ _ => rfl⟩
  | cons _ _ => cases h⟩
theorem dgs_cons {fg : Env → DD → Option Env} {fr : Env → List DD → Option Env} {js ks : List Nat} (h1 : DG X B e fg js) (h2 : DGs X B es fr ks) (hs : (assignEach (e :: es) X.env).map (·.2) = assign e X.env :: (assignEach es X.env).map (·.2) := by rfl) : DGs X B (e :: es) (gsC fg fr) (js ++ ks) := by
  obtain ⟨g, p, s⟩ := h1.ex
  obtain ⟨g2, p2, s2⟩ := h2.ex
  refine ⟨_, pgs_cons p p2 hs, fun env S σ F H sa vs ds env' k r h Q q => ?_⟩
  cases r with
  | nil => cases h
  | @cons v vs d ds r1 r2 =>
    have h : (fg env d).bind (fun e => fr e ds) = some env' := h
    cases e1 : fg env d with
    | none => rw [e1] at h; cases h
    | some en =>
      rw [e1] at h
      have h : fr en ds = some env' := h
      refine ⟨v, vs, rfl, s env S σ F H sa v d en k r1 e1 _ fun σ1 k1 l1 u1 => ?_⟩
      refine s2 en S σ1 F H sa vs ds env' k1 r2 h _ fun σ2 k2 l2 u2 => q σ2 k2 (l2.trans l1) fun i hi => ?_
      simp only [List.mem_append, not_or] at hi
      rw [u2 i hi.2, u1 i hi.1]
theorem dg_tup {n kk : Nat} {fr : Env → List DD → Option Env} {js : List Nat} (hK : B.K = X.K) (hc : X.calm = true) (h : DGs X B es fr js) (hn : (assignEach es X.env).length = n := by rfl) (hst : (assignEach es X.env).findIdx? (·.1) = none := by rfl) : DG X B (.Tuple es kk pos) (gT n fr) js := by
  obtain ⟨g, p, s⟩ := h.ex
  refine ⟨_, pg_tup hc p hn hst, fun env S σ F H sa v d env' k r h Q q => ?_⟩
  cases d with
  | tup ds =>
    obtain ⟨a, xs, rfl, h1, h2⟩ := r.tup_inv
    unfold gT at h
    simp only at h
    by_cases hl : ds.length = n
    · rw [if_pos hl] at h
      exact ⟨a, xs, rfl, by rw [← hK]; exact sqT_same k.fh h1, by rw [h2.length]; exact hl, s env S σ F H sa xs ds env' k h2 h Q q⟩
    · rw [if_neg hl] at h
      cases h
  | _ => cases h
end
end AU
namespace AU
open PySem PySem.Spec PyProof.Rows L2

/-! ### what is walked -/
structure ItW (K : PySem.W.Frag) (J : L2.It) (items : List DD) (F : Hp) : Prop where
  goes : ∀ (i : Nat) (H : Hp), i < items.length → Same F H → J.go i H
  stops : ∀ H, Same F H → J.stop items.length H
  yields : ∀ (i : Nat) (H : Hp) (v : V) (H' : Hp), i < items.length → Same F H → J.yld i H v H' → (H' = H ∧ ∃ d, items[i]? = some d ∧ Rp K F v d) ∨
    (∃ T vs ds, v = .ref T ∧ H T = none ∧ H' = upd H T (.tup vs) ∧ items[i]? = some (.tup ds) ∧ RpA K F vs ds)
def GoodJ (B : Bs) (env : Env) (σ : L2.St) (F H : Hp) (sa : Option Addr) (R : L2.It → Hp → Prop) : List DD → Sr → Prop := fun items S => ∀ J F' H', Ok B env S σ F' H' sa → Gw B sa F H F' H' → ItW B.K J items F' → R J H'
def SndJ (B : Bs) (W : WX) (wi : TI) (fi : Env → M (List DD)) : Prop := ∀ env S σ F H sa, Ok B env S σ F H sa → ∀ R : L2.It → Hp → Prop, Post (GoodJ B env σ F H sa R) (Bad B W env σ F H sa) (fi env S) → wi σ H R
structure DJ (X : Cx) (B : Bs) (W : WX) (tg iter : Expr) (fi : Env → M (List DD)) : Prop where
  ex : ∃ wi, PI X tg iter wi ∧ SndJ B W wi fi
def jSeq (f : Env → M DD) : Env → M (List DD) := fun env => bnd (f env) fun d => match d with
  | .lst xs => ret xs
  | .tup xs => ret xs
  | _ => stk
def rngD (lo : Int) (n : Nat) : List DD := (List.range n).map fun i => .int (lo + (i : Nat))
def jRng1 (f : Env → M (List DD)) : Env → M (List DD) := fun env => bnd (f env) fun ds => match ds with
  | [.int j] => if (decide (-100000 ≤ j) && decide (j ≤ 100000)) = true then ret (rngD 0 j.toNat) else stk
  | _ => stk
def jRng2 (f : Env → M (List DD)) : Env → M (List DD) := fun env => bnd (f env) fun ds => match ds with
  | [.int i, .int j] => if (decide (-(2 ^ 62) ≤ i) && decide (i < 2 ^ 62) && decide (-(2 ^ 62) ≤ j) && decide (j < 2 ^ 62)) = true then ret (rngD i (j - i).toNat) else stk
  | _ => stk
def enumD : Nat → List DD → List DD
  | _, [] => []
  | i, x :: xs => .tup [.int (i : Nat), x] :: enumD (i + 1) xs
theorem enumD_length : ∀ (i : Nat) (xs : List DD), (enumD i xs).length = xs.length
  | _, [] => rfl
  | i, x :: xs => by simp [enumD, enumD_length (i + 1) xs]
theorem enumD_get : ∀ (k : Nat) (xs : List DD) (i : Nat) (x : DD), xs[i]? = some x → (enumD k xs)[i]? = some (.tup [.int ((k + i : Nat) : Int), x])
  | _, [], i, x, h => by simp at h
  | k, y :: xs, 0, x, h => by
    simp at h
    subst h
    simp [enumD]
  | k, y :: xs, i + 1, x, h => by
    have q := enumD_get (k + 1) xs i x (by simpa using h)
    rw [show k + 1 + i = k + (i + 1) by omega] at q
    simpa [enumD] using q
def jEnum (f : Env → M (List DD)) : Env → M (List DD) := fun env => bnd (f env) fun ds => match ds with
  | [.lst xs] => ret (enumD 0 xs)
  | [.tup xs] => ret (enumD 0 xs)
  | _ => stk
def zipD : List DD → List DD → List DD
  | x :: xs, y :: ys => .tup [x, y] :: zipD xs ys
  | _, _ => []
def jZip (f : Env → M (List DD)) : Env → M (List DD) := fun env => bnd (f env) fun ds => match ds with
  | [.lst xs, .lst ys] => ret (zipD xs ys)
  | [.tup xs, .tup ys] => ret (zipD xs ys)
  | _ => stk
theorem zipD_get : ∀ (xs ys : List DD) (i : Nat) (x y : DD), xs[i]? = some x → ys[i]? = some y → (zipD xs ys)[i]? = some (.tup [x, y])
  | [], _, i, x, y, h, _ => by simp at h
  | _ :: _, [], i, x, y, _, h => by simp at h
  | a :: xs, b :: ys, 0, x, y, h, h2 => by
    simp at h h2
    subst h h2
    rfl
  | a :: xs, b :: ys, i + 1, x, y, h, h2 => by
    have := zipD_get xs ys i x y (by simpa using h) (by simpa using h2)
    simpa [zipD] using this
theorem zipD_length : ∀ (xs ys : List DD), (zipD xs ys).length = min xs.length ys.length
  | [], _ => by simp [zipD]
  | _ :: _, [] => by simp [zipD]
  | a :: xs, b :: ys => by simp [zipD, zipD_length xs ys]
section
variable {K : PySem.W.Frag} {F : Hp} {a b : Addr} {vs ws : List V} {ds es : List DD}
theorem sqL_up {H : Hp} (h : SqL K F a vs) (e : Same F H) : SqL K H a vs := Same.seq e h
theorem itw_list (h : SqL K F a vs) (r : RpA K F vs ds) : ItW K (Itl K a) ds F := by
  have hl := r.length
  refine ⟨fun i H hi e => ⟨vs, vs[i]'(by omega), sqL_up h e, by simp⟩, fun H e => ⟨vs, sqL_up h e, by omega⟩, fun i H v H' hi e y => .inl ⟨y.1, ?_⟩⟩
  exact r.get' (y.2 vs (sqL_up h e))
theorem itw_tup (h : SqT K F a vs) (r : RpA K F vs ds) : ItW K (Itt K a) ds F := by
  have hl := r.length
  refine ⟨fun i H hi e => ⟨vs, vs[i]'(by omega), sqT_same e h, by simp⟩, fun H e => ⟨vs, sqT_same e h, by omega⟩, fun i H v H' hi e y => .inl ⟨y.1, ?_⟩⟩
  exact r.get' (y.2 vs (sqT_same e h))
theorem itw_rng {lo : Int} {n : Nat} : ItW K (Itr lo n) (rngD lo n) F := by
  have hl : (rngD lo n).length = n := by simp [rngD]
  refine ⟨fun i H hi e => (by rw [hl] at hi; exact hi), fun H e => (by rw [hl]; exact Nat.le_refl _), fun i H v H' hi e y => .inl ⟨y.1, .int (lo + (i : Nat)), ?_, ?_⟩⟩
  · rw [hl] at hi
    simp [rngD, hi]
  · rw [y.2]
    exact .int _
theorem itw_enumL (h : SqL K F a vs) (r : RpA K F vs ds) : ItW K (Ite K a) (enumD 0 ds) F := by
  have hl := r.length
  have hn := enumD_length 0 ds
  refine ⟨fun i H hi e => ⟨vs, vs[i]'(by omega), sqL_up h e, by simp⟩, fun H e => ⟨vs, sqL_up h e, by omega⟩, fun i H v H' hi e y => .inr ?_⟩
  obtain ⟨T, x, e1, e2, e3, e4⟩ := y
  obtain ⟨d, hd, rd⟩ := r.get' (e4 vs (sqL_up h e))
  have g := enumD_get 0 ds i d hd
  rw [Nat.zero_add] at g
  exact ⟨T, _, _, e1, e2, e3, g, .cons (.int _) (.cons rd .nil)⟩
theorem itw_enumT (h : SqT K F a vs) (r : RpA K F vs ds) : ItW K (IteT K a) (enumD 0 ds) F := by
  have hl := r.length
  have hn := enumD_length 0 ds
  refine ⟨fun i H hi e => ⟨vs, vs[i]'(by omega), sqT_same e h, by simp⟩, fun H e => ⟨vs, sqT_same e h, by omega⟩, fun i H v H' hi e y => .inr ?_⟩
  obtain ⟨T, x, e1, e2, e3, e4⟩ := y
  obtain ⟨d, hd, rd⟩ := r.get' (e4 vs (sqT_same e h))
  have g := enumD_get 0 ds i d hd
  rw [Nat.zero_add] at g
  exact ⟨T, _, _, e1, e2, e3, g, .cons (.int _) (.cons rd .nil)⟩
theorem itw_zipL (h : SqL K F a vs) (r : RpA K F vs ds) (h2 : SqL K F b ws) (r2 : RpA K F ws es) : ItW K (Itz K a b) (zipD ds es) F := by
  have hl := r.length
  have hl2 := r2.length
  have hn := zipD_length ds es
  refine ⟨fun i H hi e => ⟨vs, ws, vs[i]'(by omega), ws[i]'(by omega), sqL_up h e, sqL_up h2 e, by simp, by simp⟩, fun H e => ⟨vs, ws, sqL_up h e, sqL_up h2 e, by omega⟩, fun i H v H' hi e y => .inr ?_⟩
  obtain ⟨T, x, z, e1, e2, e3, e4, e5⟩ := y
  obtain ⟨d, hd, rd⟩ := r.get' (e4 vs (sqL_up h e))
  obtain ⟨d2, hd2, rd2⟩ := r2.get' (e5 ws (sqL_up h2 e))
  exact ⟨T, _, _, e1, e2, e3, zipD_get ds es i d d2 hd hd2, .cons rd (.cons rd2 .nil)⟩
theorem itw_zipT (h : SqT K F a vs) (r : RpA K F vs ds) (h2 : SqT K F b ws) (r2 : RpA K F ws es) : ItW K (RZ.ItzT K a b) (zipD ds es) F := by
  have hl := r.length
  have hl2 := r2.length
  have hn := zipD_length ds es
  refine ⟨fun i H hi e => ⟨vs, ws, vs[i]'(by omega), ws[i]'(by omega), sqT_same e h, sqT_same e h2, by simp, by simp⟩, fun H e => ⟨vs, ws, sqT_same e h, sqT_same e h2, by omega⟩, fun i H v H' hi e y => .inr ?_⟩
  obtain ⟨T, x, z, e1, e2, e3, e4, e5⟩ := y
  obtain ⟨d, hd, rd⟩ := r.get' (e4 vs (sqT_same e h))
  obtain ⟨d2, hd2, rd2⟩ := r2.get' (e5 ws (sqT_same e h2))
  exact ⟨T, _, _, e1, e2, e3, zipD_get ds es i d d2 hd hd2, .cons rd (.cons rd2 .nil)⟩
end
section
variable {B : Bs} {W : WX} {X : Cx} {tg e e2 : Expr} {fa : Env → M DD} {fr : Env → M (List DD)} {pos : Pos}
theorem dj_seq (hK : B.K = X.K) (h : DE X B W e fa) : DJ X B W tg e (jSeq fa) := by
  obtain ⟨t, p, s⟩ := h.ex
  refine ⟨_, pi_seq p, fun env S σ F H sa k R hr => s env S σ F H sa k _ ((Post.bnd hr).imp fun d S1 h1 v F1 H1 k1 g1 r1 => ?_)⟩
  rw [← hK]
  cases d with
  | lst xs =>
    obtain ⟨a, vs, rfl, q1, q2⟩ := r1.lst_inv
    exact ⟨a, rfl, .inl ⟨⟨vs, SqL.of (k1.fh _ _ q1)⟩, h1 _ F1 H1 k1 g1 (itw_list (SqL.of q1) q2)⟩⟩
  | tup xs =>
    obtain ⟨a, vs, rfl, q1, q2⟩ := r1.tup_inv
    exact ⟨a, rfl, .inr ⟨⟨vs, sqT_same k1.fh q1⟩, h1 _ F1 H1 k1 g1 (itw_tup q1 q2)⟩⟩
  | _ => exact h1.elim
theorem dj_rng1 {p : Pos} (hm : X.mg "range" = none) (ha : DA X B W [e] fr) (hg : Gl X "range" := by rfl) (hs : starEach [e] X.env = [(false, eval e X.env)] := by rfl) : DJ X B W tg (.Call (.Name "range" p) [e] [] pos) (jRng1 fr) := by
  obtain ⟨t, pp, s⟩ := ha.ex
  refine ⟨_, pi_range1 hg hm pp hs, fun env S σ F H sa k R hr => s env S σ F H sa k _ ((Post.bnd hr).imp fun ds S1 h1 vs F1 H1 k1 g1 r1 => ?_)⟩
  split at h1
  · obtain ⟨c, h1⟩ := post_if h1
    obtain ⟨v, rfl, r2⟩ := rpa1 r1
    cases r2.int_inv
    simp only [Bool.and_eq_true, decide_eq_true_eq] at c
    exact ⟨_, rfl, by omega, by omega, h1 _ F1 H1 k1 g1 itw_rng⟩
  · exact h1.elim
theorem dj_rng2 {p : Pos} (hm : X.mg "range" = none) (ha : DA X B W [e, e2] fr) (hg : Gl X "range" := by rfl) (hs : starEach [e, e2] X.env = [(false, eval e X.env), (false, eval e2 X.env)] := by rfl) (hs2 : starEach [e2] X.env = [(false, eval e2 X.env)] := by rfl) : DJ X B W tg (.Call (.Name "range" p) [e, e2] [] pos) (jRng2 fr) := by
  obtain ⟨t, pp, s⟩ := ha.ex
  refine ⟨_, pi_range2 hg hm pp hs hs2, fun env S σ F H sa k R hr => s env S σ F H sa k _ ((Post.bnd hr).imp fun ds S1 h1 vs F1 H1 k1 g1 r1 => ?_)⟩
  split at h1
  · obtain ⟨c, h1⟩ := post_if h1
    obtain ⟨v, w, rfl, r2, r3⟩ := rpa2 r1
    cases r2.int_inv
    cases r3.int_inv
    simp only [Bool.and_eq_true, decide_eq_true_eq] at c
    exact ⟨_, _, rfl, ⟨c.1.1.1, c.1.1.2, c.1.2, c.2⟩, h1 _ F1 H1 k1 g1 itw_rng⟩
  · exact h1.elim
theorem dj_enum {p tpos : Pos} {elts : List Expr} {kk : Nat} (hK : B.K = X.K) (hm : X.mg "enumerate" = none) (ha : DA X B W [e] fr) (hg : Gl X "enumerate" := by rfl) (hs : starEach [e] X.env = [(false, eval e X.env)] := by rfl) : DJ X B W (.Tuple elts kk tpos) (.Call (.Name "enumerate" p) [e] [] pos) (jEnum fr) := by
  obtain ⟨t, pp, s⟩ := ha.ex
  refine ⟨_, pi_enumA hg hm pp hs, fun env S σ F H sa k R hr => s env S σ F H sa k _ ((Post.bnd hr).imp fun ds S1 h1 vs F1 H1 k1 g1 r1 => ?_)⟩
  rw [← hK]
  split at h1
  · obtain ⟨v, rfl, r2⟩ := rpa1 r1
    obtain ⟨a, ws, rfl, q1, q2⟩ := r2.lst_inv
    exact ⟨a, ws, rfl, .inl ⟨SqL.of (k1.fh _ _ q1), h1 _ F1 H1 k1 g1 (itw_enumL (SqL.of q1) q2)⟩⟩
  · obtain ⟨v, rfl, r2⟩ := rpa1 r1
    obtain ⟨a, ws, rfl, q1, q2⟩ := r2.tup_inv
    exact ⟨a, ws, rfl, .inr ⟨sqT_same k1.fh q1, h1 _ F1 H1 k1 g1 (itw_enumT q1 q2)⟩⟩
  · exact h1.elim
theorem dj_zip {p tpos : Pos} {elts : List Expr} {kk : Nat} (hK : B.K = X.K) (hm : X.mg "zip" = none) (ha : DA X B W [e, e2] fr) (hg : Gl X "zip" := by rfl) (hs : starEach [e, e2] X.env = (false, eval e X.env) :: starEach [e2] X.env := by rfl) (hpl : (backTo pos (starEach [e2] X.env)).any (·.1) = false := by rfl) :
    DJ X B W (.Tuple elts kk tpos) (.Call (.Name "zip" p) [e, e2] [] pos) (jZip fr) := by
  obtain ⟨t, pp, s⟩ := ha.ex
  refine ⟨_, RZ.pi_zipA hg hm pp hs hpl, fun env S σ F H sa k R hr => s env S σ F H sa k _ ((Post.bnd hr).imp fun ds S1 h1 vs F1 H1 k1 g1 r1 => ?_)⟩
  rw [← hK]
  split at h1
  · obtain ⟨v, w, rfl, r2, r3⟩ := rpa2 r1
    obtain ⟨a, us, rfl, q1, q2⟩ := r2.lst_inv
    obtain ⟨b, ws, rfl, q3, q4⟩ := r3.lst_inv
    exact ⟨a, b, us, ws, rfl, .inl ⟨SqL.of (k1.fh _ _ q1), SqL.of (k1.fh _ _ q3), h1 _ F1 H1 k1 g1 (itw_zipL (SqL.of q1) q2 (SqL.of q3) q4)⟩⟩
  · obtain ⟨v, w, rfl, r2, r3⟩ := rpa2 r1
    obtain ⟨a, us, rfl, q1, q2⟩ := r2.tup_inv
    obtain ⟨b, ws, rfl, q3, q4⟩ := r3.tup_inv
    exact ⟨a, b, us, ws, rfl, .inr ⟨sqT_same k1.fh q1, sqT_same k1.fh q3, h1 _ F1 H1 k1 g1 (itw_zipT q1 q2 q3 q4)⟩⟩
  · exact h1.elim
end

/-! ### list comprehensions -/
/-- no error comes out -/
def ne {α : Type} (m : M α) : M α := fun S => match m S with
  | some (.ok x, S') => some (.ok x, S')
  | _ => none
@[simp] theorem ne_ret {α : Type} (x : α) : ne (ret x) = ret x := rfl
@[simp] theorem ne_stk {α : Type} : ne (stk : M α) = stk := rfl
theorem post_ne {α : Type} {good : α → Sr → Prop} {bad bad' : Ex → Sr → Prop} {m : M α} {S : Sr} (h : Post good bad (ne m S)) : Post good bad' (m S) := by
  unfold ne at h
  cases e : m S with
  | none => rw [e] at h; exact h.elim
  | some p =>
    obtain ⟨r, S1⟩ := p
    rw [e] at h
    cases r with
    | ok x => exact h
    | error x => exact h.elim
def lcD (fg : Env → DD → Option Env) (ft : Env → M Bool) (fe : Env → M DD) (env : Env) : List DD → M (List DD)
  | [] => ret []
  | d :: ds => match fg env d with
    | none => stk
    | some e => bnd (ne (ft e)) fun b => if b = true then bnd (ne (fe e)) fun x => bnd (lcD fg ft fe env ds) fun r => ret (x :: r) else lcD fg ft fe env ds
def eLc (vs : List Nat) (fi : Env → M (List DD)) (fg : Env → DD → Option Env) (ft : Env → M Bool) (fe : Env → M DD) : Env → M DD := fun env => bnd (fi env) fun items =>
  if szOk items.length = true then bnd (lcD fg ft fe (wipeE env vs) items) fun xs => ret (.lst xs) else stk
def tYesD : Env → M Bool := fun _ => ret true
structure DTs (X : Cx) (B : Bs) (W : WX) (ifs : List Expr) (f : Env → M Bool) : Prop where
  ex : ∃ t, PTs X ifs t ∧ SndT B W t f
theorem dts_nil {X : Cx} {B : Bs} {W : WX} : DTs X B W [] tYesD := ⟨_, pts_nil, fun env S σ F H sa k Q h => h F H k Gw.refl⟩
theorem dts_one {X : Cx} {B : Bs} {W : WX} {c : Expr} {f : Env → M Bool} (h : DT X B W c f) : DTs X B W [c] f := by
  obtain ⟨t, p, s⟩ := h.ex
  exact ⟨_, pts_one p, s⟩
/-- a list that stands alone is laid down as data -/
theorem Ok.lay {B : Bs} {env : Env} {S : Sr} {σ : L2.St} {F H : Hp} {sa : Option Addr} (k : Ok B env S σ F H sa) {a : Addr} {vs : List V} (ha : H a = some (.lst vs)) (hF : F a = none) (h0 : Fr B B.H0 a) (hs : sa ≠ some a) (hsl : ∀ (i : Nat) (xs : List DD), env[i]? = some (some (.l xs)) → σ[i]? ≠ some (some (.ref a))) :
    Same F (upd F a (.lst vs)) ∧ Ok B env S σ (upd F a (.lst vs)) H sa := by
  have sF : Same F (upd F a (.lst vs)) := fun b u q => by
    rw [upd_ne (ne_of_none q hF)]
    exact q
  refine ⟨sF, k.ff.trans sF, fun b u q => ?_, k.hh, fun b u h3 h1 h2 => ?_, k.tb, k.sa0, fun b q => ?_, k.len, fun j it q => ?_, k.dj, fun b ps hq => ?_⟩
  · by_cases hb : b = a
    · subst hb
      rw [upd_same] at q
      rw [ha, ← q]
    · rw [upd_ne hb] at q
      exact k.fh _ _ q
  · have ne : b ≠ a := fun z => h0 u (z ▸ h3) h1
    rw [upd_ne ne]
    exact k.nf b u h3 h1 h2
  · obtain ⟨h1, h2, h3⟩ := k.so b q
    have ne : b ≠ a := fun z => hs (z ▸ q)
    exact ⟨by rw [upd_ne ne]; exact h1, h2, h3⟩
  · obtain ⟨w, w1, w2⟩ := k.sl j it q
    refine ⟨w, w1, ?_⟩
    cases it with
    | d x => exact Rp.same sF x w2
    | l ys =>
      obtain ⟨b, us, c1, c2, c3, c4, c5, c6⟩ := w2
      have nb : b ≠ a := fun z => by
        subst c1
        rw [z] at w1
        exact hsl j ys q w1
      exact ⟨b, us, c1, by rw [upd_ne nb]; exact c2, c3, c4, c5, RpA.same sF _ c6⟩
    | s => exact w2
    | sc ns =>
      obtain ⟨b, c1, c2⟩ := w2
      exact ⟨b, c1, Same.seq sF c2⟩
  · by_cases hb : b = a
    · rw [hb, upd_same] at hq
      cases hq
    · rw [upd_ne hb] at hq
      exact k.ft b ps hq
abbrev W0 : WX := fun _ _ _ _ => False
section
variable {B : Bs} {W : WX} {X : Cx}
/-- the reading of a comprehension -/
theorem snd_lc {wi : TI} {g : TG} {tt : TT} {te : TE} {vs js : List Nat} {fi : Env → M (List DD)} {fg : Env → DD → Option Env} {ft : Env → M Bool} {fe : Env → M DD} (hi : SndJ B W wi fi) (hg : SndG B g fg js) (ht : SndT B W0 tt ft) (he : SndE B W0 te fe) (hjs : ∀ j ∈ js, j ∈ vs) :
    SndE B W (tLc wi g tt te vs) (eLc vs fi fg ft fe) := by
  intro env S σ F H sa k Q hq
  refine hi env S σ F H sa k _ ((Post.bnd hq).imp fun items S1 h1 J F1 H1 k1 g1 w D hD => ?_)
  obtain ⟨hz, h1⟩ := post_if h1
  have hz := of_decide_eq_true hz
  obtain ⟨k2, g2, fD, b0D, saD⟩ := k1.newH hD (.lst [])
  have hD0 : Fr B H D := fun o q ko => by
    obtain ⟨o', e', _⟩ := g1.hh D o q ko
    rw [hD] at e'
    cases e'
  have hsl : ∀ (j : Nat) (ys : List DD), env[j]? = some (some (.l ys)) → σ[j]? ≠ some (some (.ref D)) := fun j ys ej zj => by
    obtain ⟨v', e1, b, us, e2, _, _, _, e5, _⟩ := k1.sl j _ ej
    rw [zj] at e1
    cases e1
    cases e2
    rw [hD] at e5
    cases e5
  -- the word of the loop
  refine ⟨fun i m H' => m = items.length - i ∧ i ≤ items.length ∧ ∃ S' F' acc ds, Ok B env S' σ F' H' sa ∧ Gw B sa F H F' H' ∧ Same F1 F' ∧ F' D = none ∧ H' D = some (.lst acc) ∧ RpA B.K F' acc ds ∧ acc.length ≤ i ∧
      Post (fun xs S2 => Good B env σ F H sa Q (.lst (ds ++ xs)) S2) (fun _ _ => False) (lcD fg ft fe (wipeE env vs) (items.drop i) S'), ⟨_, rfl, Nat.zero_le _, S1, F1, [], [], k2, g1.trans g2, Same.refl _, fD, upd_same, .nil, Nat.le_refl _, ?_⟩, ?_⟩
  · -- no error comes out of it
    rw [List.drop_zero]
    have h2 := Post.bnd h1
    have key : ∀ (l : List DD) (S : Sr) (x : Ex) (S' : Sr), lcD fg ft fe (wipeE env vs) l S ≠ some (.error x, S') := by
      intro l
      induction l with
      | nil => intro S x S' e; cases e
      | cons d l ih =>
        intro S x S' e
        unfold lcD at e
        cases q : fg (wipeE env vs) d with
        | none => rw [q] at e; cases e
        | some en =>
          rw [q] at e
          simp only at e
          unfold bnd at e
          cases q1 : ne (ft en) S with
          | none => rw [q1] at e; cases e
          | some p =>
            obtain ⟨r, S1⟩ := p
            rw [q1] at e
            cases r with
            | error y =>
              unfold ne at q1
              cases q2 : ft en S with
              | none => rw [q2] at q1; cases q1
              | some p2 =>
                obtain ⟨r2, S2⟩ := p2
                rw [q2] at q1
                cases r2 <;> cases q1
            | ok b =>
              simp only at e
              cases b with
              | false =>
                rw [if_neg (by decide)] at e
                exact ih _ _ _ e
              | true =>
                rw [if_pos rfl] at e
                cases q3 : ne (fe en) S1 with
                | none => rw [q3] at e; cases e
                | some p3 =>
                  obtain ⟨r3, S3⟩ := p3
                  rw [q3] at e
                  cases r3 with
                  | error y =>
                    unfold ne at q3
                    cases q4 : fe en S1 with
                    | none => rw [q4] at q3; cases q3
                    | some p2 =>
                      obtain ⟨r2, S2⟩ := p2
                      rw [q4] at q3
                      cases r2 <;> cases q3
                  | ok y =>
                    simp only at e
                    cases q5 : lcD fg ft fe (wipeE env vs) l S3 with
                    | none => rw [q5] at e; cases e
                    | some p5 =>
                      obtain ⟨r5, S5⟩ := p5
                      rw [q5] at e
                      cases r5 with
                      | error z => exact ih _ _ _ q5
                      | ok z => cases e
    cases q : lcD fg ft fe (wipeE env vs) items S1 with
    | none => rw [q] at h2; exact h2.elim
    | some p =>
      obtain ⟨r, S2⟩ := p
      rw [q] at h2
      cases r with
      | error x => exact absurd q (key _ _ _ _)
      | ok xs => exact h2
  · rintro i m H2 ⟨rfl, hin, S2, F2, acc, ds, k3, g3, s13, fD2, hD2, rD2, hal, hp⟩
    have sJ : Same F1 H2 := s13.trans k3.fh
    by_cases hlt : i < items.length
    · refine .inr ⟨w.goes i H2 hlt sJ, fun H' => items.length - (i + 1) = items.length - (i + 1) ∧ i + 1 ≤ items.length ∧ ∃ S' F' acc ds, Ok B env S' σ F' H' sa ∧ Gw B sa F H F' H' ∧ Same F1 F' ∧ F' D = none ∧ H' D = some (.lst acc) ∧ RpA B.K F' acc ds ∧ acc.length ≤ i + 1 ∧
          Post (fun xs S2 => Good B env σ F H sa Q (.lst (ds ++ xs)) S2) (fun _ _ => False) (lcD fg ft fe (wipeE env vs) (items.drop (i + 1)) S'), fun H' h => ⟨_, by omega, h⟩, fun x H' hy => ?_⟩
      have hdrop : items.drop i = items[i] :: items.drop (i + 1) := List.drop_eq_getElem_cons hlt
      rw [hdrop] at hp
      unfold lcD at hp
      have hdD : ∀ {F' H' : Hp}, Gw B sa F2 H2 F' H' → F' D = none ∧ H' D = some (.lst acc) := fun {F' H'} gw =>
        ⟨gw.nf D _ hD2 .lst fD2, gw.kp D _ hD2 saD .lst⟩
      -- the item, laid down
      have item : ∃ F' , Ok B env S2 σ F' H' sa ∧ Gw B sa F2 H2 F' H' ∧ Rp B.K F' x (items[i]) := by
        rcases w.yields i H2 x H' hlt sJ hy with ⟨rfl, d, hd, rd⟩ | ⟨T, us, es, rfl, hT, rfl, hd, rd⟩
        · refine ⟨F2, k3, Gw.refl, ?_⟩
          have e : items[i] = d := by
            rw [List.getElem?_eq_getElem hlt] at hd
            exact Option.some.inj hd
          rw [e]
          exact Rp.same s13 d rd
        · have e : items[i] = .tup es := by
            rw [List.getElem?_eq_getElem hlt] at hd
            exact Option.some.inj hd
          refine ⟨_, k3.new hT (.tup us), k3.gw hT (.tup us), ?_⟩
          rw [e]
          exact .tup (SqT.of upd_same) (RpA.same (s13.trans (k3.gw hT (.tup us)).ff) es rd)
      obtain ⟨F3, k4, g4, r4⟩ := item
      cases qg : fg (wipeE env vs) items[i] with
      | none => rw [qg] at hp; exact hp.elim
      | some en =>
        rw [qg] at hp
        simp only at hp
        refine hg (wipeE env vs) S2 (L2.wipe σ vs) F3 H' sa x items[i] en (k4.wipe vs) r4 qg _ fun σ2 k5 l5 u5 => ⟨?_, ?_⟩
        · have e1 : L2.wipe σ2 vs = L2.wipe (L2.wipe σ vs) vs := wipe_eq vs l5 fun j hj => u5 j fun z => hj (hjs j z)
          have e2 : L2.wipe (L2.wipe σ vs) vs = L2.wipe σ vs := wipe_eq vs (wipe_length σ vs) fun j hj => wipe_get σ vs j hj
          rw [e1, e2]
        · refine ht en S2 σ2 F3 H' sa k5 _ ((post_ne (Post.bnd hp)).imp fun b S3 h3 F4 H4 k6 g6 => ?_)
          have k6' := k4.carry g6 k6
          have g36 := g4.trans g6
          cases b with
          | false =>
            rw [if_neg Bool.false_ne_true] at h3
            refine iteF ⟨rfl, hlt, S3, F4, acc, ds, k6', g3.trans g36, s13.trans g36.ff, (hdD g36).1, (hdD g36).2, RpA.same g36.ff ds rD2, by omega, h3⟩
          | true =>
            rw [if_pos rfl] at h3
            refine iteT (he en S3 σ2 F4 H4 sa k6 _ ((post_ne (Post.bnd h3)).imp fun d S4 h4 v F5 H5 k7 g7 r7 => ?_))
            have g37 := g36.trans g7
            have k7' := k6'.carry g7 k7
            refine ⟨acc, (hdD g37).2, Nat.lt_of_lt_of_le (Nat.lt_of_le_of_lt hal hlt) (by rw [sizeLine_eq]; omega), rfl, hlt, S4, F5, acc ++ [v], ds ++ [d], ?_, ?_, s13.trans g37.ff, (hdD g37).1, upd_same, (RpA.same g37.ff ds rD2).append (.cons r7 .nil), by simp; omega, ?_⟩
            · exact k7'.mut (hdD g37).2 (hdD g37).1 b0D saD hsl
            · have gg := g3.trans g37
              refine ⟨gg.ff, fun b o q h1 h2 => ?_, gg.nf, fun b o q h => ?_⟩
              · rw [upd_ne (fun z : b = D => hD0 o (z ▸ q) h2)]
                exact gg.kp b o q h1 h2
              · rw [upd_ne (fun z : b = D => hD0 o (z ▸ q) h)]
                exact gg.hh b o q h
            · exact (Post.bnd h4).imp fun xs S5 h5 => by rw [List.append_assoc]; exact h5
    · have e : i = items.length := by omega
      subst e
      rw [List.drop_length] at hp
      refine .inl ⟨w.stops H2 sJ, ?_⟩
      have hp : Good B env σ F H sa Q (.lst (ds ++ [])) S2 := hp
      rw [List.append_nil] at hp
      obtain ⟨sF, kz⟩ := k3.lay hD2 fD2 b0D saD hsl
      refine hp (.ref D) _ H2 kz ⟨g3.ff.trans sF, g3.kp, fun b o q h1 h2 => ?_, g3.hh⟩ (.lst upd_same (RpA.same sF ds rD2))
      rw [upd_ne (fun z : b = D => hD0 o (z ▸ q) h1)]
      exact g3.nf b o q h1 h2
end
end AU
namespace AU
open PySem PySem.Spec PyProof.Rows L2

/-! ### one reading for all contexts -/
def tOf (B : Bs) (W : WX) (f : Env → M DD) : TE := fun σ H Q => ∃ env S F sa, Ok B env S σ F H sa ∧ Post (Good B env σ F H sa Q) (Bad B W env σ F H sa) (f env S)
def tOfT (B : Bs) (W : WX) (f : Env → M Bool) : TT := fun σ H Q => ∃ env S F sa, Ok B env S σ F H sa ∧ Post (GoodB B env σ F H sa Q) (Bad B W env σ F H sa) (f env S)
def gOf (B : Bs) (fg : Env → DD → Option Env) (js : List Nat) : TG := fun v σ H Q => ∃ env S F sa d env', Ok B env S σ F H sa ∧ Rp B.K F v d ∧ fg env d = some env' ∧
  (∀ σ', Ok B env' S σ' F H sa → σ'.length = σ.length → (∀ i, i ∉ js → σ'[i]? = σ[i]?) → Q σ' H)
section
variable {B : Bs} {W : WX} {X : Cx} {e tg iter : Expr} {f : Env → M DD} {ft : Env → M Bool} {fi : Env → M (List DD)} {fg : Env → DD → Option Env} {js : List Nat} {pos : Pos}
theorem DE.pe (h : DE X B W e f) : PE X e (tOf B W f) := by
  obtain ⟨t, p, s⟩ := h.ex
  exact ⟨fun pins st σ H Q I ⟨env, S, F, sa, k, q⟩ => p.run pins st σ H Q I (s env S σ F H sa k Q q)⟩
theorem sndOf : SndE B W (tOf B W f) f := fun env S σ F H sa k Q h => ⟨env, S, F, sa, k, h⟩
theorem DT.pt (h : DT X B W e ft) : PT X e (tOfT B W ft) := by
  obtain ⟨t, p, s⟩ := h.ex
  exact ⟨fun pins st σ H Q I ⟨env, S, F, sa, k, q⟩ => p.run pins st σ H Q I (s env S σ F H sa k Q q)⟩
theorem DTs.pts {ifs : List Expr} (h : DTs X B W ifs ft) : PTs X ifs (tOfT B W ft) := by
  obtain ⟨t, p, s⟩ := h.ex
  exact ⟨fun pins st σ H Q I ⟨env, S, F, sa, k, q⟩ => p.run pins st σ H Q I (s env S σ F H sa k Q q)⟩
theorem sndOfT : SndT B W (tOfT B W ft) ft := fun env S σ F H sa k Q h => ⟨env, S, F, sa, k, h⟩
theorem DG.pg (h : DG X B tg fg js) : PG X tg (gOf B fg js) := by
  obtain ⟨t, p, s⟩ := h.ex
  exact ⟨fun pins st σ H v u Q I r ⟨env, S, F, sa, d, env', k, rd, e, q⟩ => p.run pins st σ H v u Q I r (s env S σ F H sa v d env' k rd e Q q)⟩
theorem sndOfG : SndG B (gOf B fg js) fg js := fun env S σ F H sa v d env' k r h Q q => ⟨env, S, F, sa, d, env', k, r, h, q⟩
theorem de_lc {elt : Expr} {ifs : List Expr} {scope : Scope} {own : List (Str × Nat)} {fe : Env → M DD} (hc : X.calm = true) (hN : X.N.Nodup) (hi : DJ X B W tg iter fi) (ok : BlkOk X.N X.env.scope scope own)
    (hg : ∀ (s : Shared) (H : Hp) (C : Addr) (cl : List (Str × Addr)) (fp : List Addr), DG (X.blk s H scope (compEnvC scope cl C X.env) fp) B tg fg js)
    (ht : ∀ (s : Shared) (H : Hp) (C : Addr) (cl : List (Str × Addr)) (fp : List Addr), DTs (X.blk s H scope (compEnvC scope cl C X.env) fp) B W0 ifs ft)
    (he : ∀ (s : Shared) (H : Hp) (C : Addr) (cl : List (Str × Addr)) (fp : List Addr), DE (X.blk s H scope (compEnvC scope cl C X.env) fp) B W0 elt fe)
    (hjs : ∀ j ∈ js, j ∈ own.map (·.2) := by decide) (hs : ∀ x, foldedSetIterable iter X.env x = pure x := by intro _; rfl) :
    DE X B W (.ListComp elt [⟨tg, iter, ifs, 0⟩] scope pos) (eLc (own.map (·.2)) fi fg ft fe) := by
  obtain ⟨wi, pi, si⟩ := hi.ex
  exact ⟨_, pe_lc hc hN pi ok (fun s H C cl fp => (hg s H C cl fp).pg) (fun s H C cl fp => (ht s H C cl fp).pts) (fun s H C cl fp => (he s H C cl fp).pe) hs,
    snd_lc si sndOfG sndOfT sndOf hjs⟩
end

/-! ### statements -/
inductive Out where
  | nx (e : Env) (S : Sr) | rt (d : DD) (S : Sr) | bk (e : Env) (S : Sr) | ct (e : Env) (S : Sr) | ex (x : Ex) (e : Env) (S : Sr) | rn (ds : List DD) (S : Sr)
abbrev SF := Env → Sr → Option Out
def PostS (B : Bs) (W : WX) (D : Ends) (F : Hp) : Option Out → Prop
  | none => False
  | some (.nx e S) => ∀ σ F' H' sa, Ok B e S σ F' H' sa → Same F F' → D.nx σ H'
  | some (.bk e S) => ∀ σ F' H' sa, Ok B e S σ F' H' sa → Same F F' → D.bk σ H'
  | some (.ct e S) => ∀ σ F' H' sa, Ok B e S σ F' H' sa → Same F F' → D.ct σ H'
  | some (.rt d S) => ∀ e σ v F' H' sa, Ok B e S σ F' H' sa → Same F F' → Rp B.K F' v d → D.rt v H'
  | some (.ex x e S) => ∀ σ F' H' sa, Ok B e S σ F' H' sa → Same F F' → ExP B W x σ F' H'
  | some (.rn ds S) => ∀ e σ p ws F' H' sa, Ok B e S σ F' H' sa → Same F F' → F' p = none → Fr B B.H0 p → sa ≠ some p → H' p = some (.lst ws) → RpA B.K F' ws ds → (∀ (j : Nat) (ys : List DD), e[j]? = some (some (.l ys)) → σ[j]? ≠ some (some (.ref p))) → D.rt (.ref p) H'
theorem PostS.of {B : Bs} {W : WX} {D : Ends} {F F1 : Hp} (e : Same F F1) : ∀ {o : Option Out}, PostS B W D F o → PostS B W D F1 o
  | none, h => h
  | some (.nx _ _), h => fun σ F' H' sa k s => h σ F' H' sa k (e.trans s)
  | some (.bk _ _), h => fun σ F' H' sa k s => h σ F' H' sa k (e.trans s)
  | some (.ct _ _), h => fun σ F' H' sa k s => h σ F' H' sa k (e.trans s)
  | some (.rt _ _), h => fun en σ v F' H' sa k s => h en σ v F' H' sa k (e.trans s)
  | some (.ex _ _ _), h => fun σ F' H' sa k s => h σ F' H' sa k (e.trans s)
  | some (.rn _ _), h => fun en σ p ws F' H' sa k s => h en σ p ws F' H' sa k (e.trans s)
def SndS (B : Bs) (W : WX) (ts : TS) (f : SF) : Prop := ∀ env S σ F H sa, Ok B env S σ F H sa → ∀ D : Ends, PostS B W D F (f env S) → ts D σ H
structure DS (X : Cx) (B : Bs) (W : WX) (s : Stmt) (f : SF) : Prop where
  ex : ∃ t, PS X s t ∧ SndS B W t f
structure DSs (X : Cx) (B : Bs) (W : WX) (s : List Stmt) (f : SF) : Prop where
  ex : ∃ t, PSs X s t ∧ SndS B W t f
/-- a reckoning ahead of a statement's end -/
def thenS {α : Type} (m : Env → M α) (k : α → Env → Sr → Option Out) : SF := fun env S => match m env S with
  | none => none
  | some (.ok x, S') => k x env S'
  | some (.error e, S') => some (.ex e env S')
theorem post_then {α : Type} {B : Bs} {W : WX} {D : Ends} {F H : Hp} {env : Env} {S : Sr} {σ : L2.St} {sa : Option Addr} {m : Env → M α} {k : α → Env → Sr → Option Out} (hk : Ok B env S σ F H sa) (h : PostS B W D F (thenS m k env S)) :
    Post (fun x S' => PostS B W D F (k x env S')) (fun e S' => ∀ σ F' H' sa, Ok B env S' σ F' H' sa → Same F F' → ExP B W e σ F' H') (m env S) := by
  unfold thenS at h
  cases q : m env S with
  | none => rw [q] at h; exact h.elim
  | some p =>
    obtain ⟨r, S'⟩ := p
    rw [q] at h
    cases r with
    | ok x => exact h
    | error e => exact h
end AU
namespace AU
open PySem PySem.Spec PyProof.Rows L2

theorem post_exp {α : Type} {B : Bs} {W : WX} {D : Ends} {F H : Hp} {env : Env} {S : Sr} {σ : L2.St} {sa : Option Addr} {m : Env → M α} {k : α → Env → Sr → Option Out} (hk : Ok B env S σ F H sa) (h : PostS B W D F (thenS m k env S)) :
    Post (fun x S' => PostS B W D F (k x env S')) (Bad B W env σ F H sa) (m env S) :=
  (post_then hk h).mono (fun _ _ z => z) fun e S' z F' H' k' g => z σ F' H' sa k' g.ff
def sNil : SF := fun env S => some (.nx env S)
def sSeq (a b : SF) : SF := fun env S => match a env S with
  | some (.nx e S') => b e S'
  | o => o
def sExpr (f : Env → M DD) : SF := thenS f fun _ env S => some (.nx env S)
def sAsg (f : Env → M DD) (fg : Env → DD → Option Env) : SF := thenS f fun d env S => (fg env d).map fun e => .nx e S
def sRet (f : Env → M DD) : SF := thenS f fun d _ S => some (.rt d S)
def sRetN : SF := fun _ S => some (.rt .non S)
def sIf (t : Env → M Bool) (a b : SF) : SF := thenS t fun c env S => if c = true then a env S else b env S
def sBrk : SF := fun env S => some (.bk env S)
def sCont : SF := fun env S => some (.ct env S)
def sRaise (kx : Nat) : SF := fun env S => some (.ex ⟨kx, none⟩ env S)
def forD (fg : Env → DD → Option Env) (fb : SF) : List DD → SF
  | [] => fun env S => some (.nx env S)
  | d :: ds => fun env S => match fg env d with
    | none => none
    | some e => match fb e S with
      | some (.nx e2 S2) => forD fg fb ds e2 S2
      | some (.ct e2 S2) => forD fg fb ds e2 S2
      | some (.bk e2 S2) => some (.nx e2 S2)
      | o => o
def sFor (fi : Env → M (List DD)) (fg : Env → DD → Option Env) (fb : SF) : SF := thenS fi fun items env S => forD fg fb items env S
def whileD (t : Env → M Bool) (fb : SF) : Nat → SF
  | 0 => fun _ _ => none
  | n + 1 => thenS t fun c env S => if c = true then (match fb env S with
      | some (.nx e2 S2) => whileD t fb n e2 S2
      | some (.ct e2 S2) => whileD t fb n e2 S2
      | some (.bk e2 S2) => some (.nx e2 S2)
      | o => o) else some (.nx env S)
def sWhile (t : Env → M Bool) (fb : SF) (fuel : Env → Sr → Nat) : SF := fun env S => whileD t fb (fuel env S) env S
/-- an error class of the program, made with a text -/
structure ExC (K : PySem.W.Frag) (mg : Str → Option Value) (cls : Nat → Value) (x : Str) (kx : Nat) : Prop where
  ex : ∃ C, cls kx = .ref C ∧ PySem.W.excIn K C [.type "ValueError", .type "Exception", .type "BaseException", .type "object"] "ValueError.__new__" = true ∧ mg x = some (.ref C) ∧ PySem.W.keepIn K (.ref C) = true ∧
    PySem.W.subIn K (.ref C) (.type "BaseException") = some true ∧ PySem.W.typeIn K (.ref C) = some (.type "type")
section
variable {B : Bs} {W : WX} {X : Cx} {e tg iter c : Expr} {st : Stmt} {rest body orelse : List Stmt} {f : Env → M DD} {ft : Env → M Bool} {fi : Env → M (List DD)} {fg : Env → DD → Option Env} {js : List Nat} {fa fb : SF} {pos : Pos}
theorem dss_nil : DSs X B W [] sNil := ⟨_, pss_nil, fun env S σ F H sa k D h => h σ F H sa k (Same.refl F)⟩
theorem dss_cons (h1 : DS X B W st fa) (h2 : DSs X B W rest fb) : DSs X B W (st :: rest) (sSeq fa fb) := by
  obtain ⟨t, p, s⟩ := h1.ex
  obtain ⟨t2, p2, s2⟩ := h2.ex
  refine ⟨_, pss_cons p p2, fun env S σ F H sa k D h => s env S σ F H sa k _ ?_⟩
  unfold sSeq at h
  cases q : fa env S with
  | none => rw [q] at h; exact h.elim
  | some o =>
    rw [q] at h
    cases o with
    | nx e2 S2 => exact fun σ2 F2 H2 sa2 k2 g2 => s2 e2 S2 σ2 F2 H2 sa2 k2 D (h.of g2)
    | rt d S2 => exact h
    | bk e2 S2 => exact h
    | ct e2 S2 => exact h
    | ex x e2 S2 => exact h
    | rn ds S2 => exact h
theorem dss_one (h1 : DS X B W st fa) : DSs X B W [st] fa := by
  obtain ⟨t, p, s⟩ := h1.ex
  exact ⟨_, pss_one p, s⟩
theorem ds_expr (he : DE X B W e f) (hs : swapsWith e none pos.line X.env = pure false := by rfl) : DS X B W (.Expr e pos) (sExpr f) := by
  obtain ⟨t, p, s⟩ := he.ex
  exact ⟨_, ps_expr p hs, fun env S σ F H sa k D h => s env S σ F H sa k _ ((post_exp k h).imp fun d S1 h1 v F1 H1 k1 g1 r1 => h1 σ F1 H1 sa k1 g1.ff)⟩
theorem ds_asg (he : DE X B W e f) (hg : DG X B tg fg js) (hs : swapsWithSole [tg] e pos.line X.env = pure false := by rfl) (hw : swappedStores [tg] e X.env = pure none := by rfl)
    (h1 : (assignEach [tg] X.env).map (·.2) = [assign tg X.env] := by rfl) : DS X B W (.Assign [tg] e pos) (sAsg f fg) := by
  obtain ⟨t, p, s⟩ := he.ex
  obtain ⟨g, pg, sg⟩ := hg.ex
  refine ⟨_, ps_asg p pg hs hw h1, fun env S σ F H sa k D h => s env S σ F H sa k _ ((post_exp k h).imp fun d S1 h1 v F1 H1 k1 g1 r1 => ?_)⟩
  cases q : fg env d with
  | none => rw [q] at h1; exact h1.elim
  | some e2 =>
    rw [q] at h1
    exact sg env S1 σ F1 H1 sa v d e2 k1 r1 q _ fun σ2 k2 _ _ => h1 σ2 F1 H1 sa k2 g1.ff
theorem ds_ret (he : DE X B W e f) : DS X B W (.Return (some e) pos) (sRet f) := by
  obtain ⟨t, p, s⟩ := he.ex
  exact ⟨_, ps_ret p, fun env S σ F H sa k D h => s env S σ F H sa k _ ((post_exp k h).imp fun d S1 h1 v F1 H1 k1 g1 r1 => h1 env σ v F1 H1 sa k1 g1.ff r1)⟩
theorem ds_retN : DS X B W (.Return none pos) sRetN := ⟨_, ps_retN, fun env S σ F H sa k D h => h env σ .non F H sa k (Same.refl F) .non⟩
theorem ds_if (hc : DT X B W c ft) (ha : DSs X B W body fa) (hb : DSs X B W orelse fb) : DS X B W (.If c body orelse pos) (sIf ft fa fb) := by
  obtain ⟨t, p, s⟩ := hc.ex
  obtain ⟨t1, p1, s1⟩ := ha.ex
  obtain ⟨t2, p2, s2⟩ := hb.ex
  refine ⟨_, ps_if p p1 p2, fun env S σ F H sa k D h => s env S σ F H sa k _ ((post_exp k h).imp fun c S1 h1 F1 H1 k1 g1 => ?_)⟩
  cases c with
  | true => exact iteT (s1 env S1 σ F1 H1 sa k1 D (PostS.of g1.ff h1))
  | false => exact iteF (s2 env S1 σ F1 H1 sa k1 D (PostS.of g1.ff h1))
theorem ds_pass : DS X B W (.Pass pos) sNil := ⟨_, ps_pass, fun env S σ F H sa k D h => h σ F H sa k (Same.refl F)⟩
theorem ds_brk : DS X B W (.Break pos) sBrk := ⟨_, ps_break, fun env S σ F H sa k D h => h σ F H sa k (Same.refl F)⟩
theorem ds_cont : DS X B W (.Continue pos) sCont := ⟨_, ps_continue, fun env S σ F H sa k D h => h σ F H sa k (Same.refl F)⟩
theorem ds_raise {x m : Str} {j kx : Nat} {p p2 p3 : Pos} (hc : X.calm = true) (tk : Takes X W) (E : ExC X.K X.mg B.cls x kx) (hg : Gl X x := by rfl) (hdb : (x == ("__debug__" : Str)) = false := by decide) :
    DS X B W (.Raise (some (.Call (.Name x p) [.Constant (.str m) j p2] [] p3)) none pos) (sRaise kx) := by
  obtain ⟨C, e1, e2, e3, e4, e5, e6⟩ := E.ex
  refine ⟨_, ps_raise hc tk (pmk_own PySem.F.excBase_ValueError e2 e3 e4 (raises_own e5 e6) hg hdb), fun env S σ F H sa k D h => ?_⟩
  have z := h σ F H sa k (Same.refl F)
  show W (.ref C) none σ H
  rw [← e1]
  exact z
/-- a logical step: a list of its own is data from now on -/
def sFrz (i : Nat) (s : SF) : SF := fun env S => match env[i]? with
  | some (some (.l xs)) => s (env.set i (some (.d (.lst xs)))) S
  | some (some (.d (.lst xs))) => s env S
  | _ => none
theorem sndS_frz {t : TS} (i : Nat) (s : SndS B W t fa) : SndS B W t (sFrz i fa) := fun env S σ F H sa k D h => by
  unfold sFrz at h
  cases q : env[i]? with
  | none => rw [q] at h; exact h.elim
  | some o =>
    cases o with
    | none => rw [q] at h; exact h.elim
    | some it =>
      cases it with
      | l xs =>
        rw [q] at h
        obtain ⟨F1, sF, k1⟩ := k.freeze q
        exact s _ S σ F1 H sa k1 D (PostS.of sF h)
      | d x =>
        rw [q] at h
        cases x with
        | lst xs => exact s env S σ F H sa k D h
        | _ => exact h.elim
      | s => rw [q] at h; exact h.elim
      | sc ns => rw [q] at h; exact h.elim
theorem ds_frz (i : Nat) (h : DS X B W st fa) : DS X B W st (sFrz i fa) := by
  obtain ⟨t, p, s⟩ := h.ex
  exact ⟨_, p, sndS_frz i s⟩
theorem ds_for (hK : B.K = X.K) (hp : PassesOwn (model X.prog X.w) X.A X.env X.xe) (hc : X.calm = true) (hi : DJ X B W tg iter fi) (hg : DG X B tg fg js) (hb : DSs X B W body fb) (hs : ∀ x, foldedSetIterable iter X.env x = pure x := by intro _; rfl) :
    DS X B W (.For tg iter body [] pos) (sFor fi fg fb) := by
  obtain ⟨wi, pi, si⟩ := hi.ex
  obtain ⟨g, pg, sg⟩ := hg.ex
  obtain ⟨tb, pb, sb⟩ := hb.ex
  refine ⟨_, ps_for hp hc pi pg pb hs, fun env S σ F H sa k D h => ?_⟩
  refine si env S σ F H sa k _ ((post_exp k h).imp fun items S1 h1 J F1 H1 k1 g1 w => ?_)
  refine ⟨fun i m σ' H' => m = items.length - i ∧ i ≤ items.length ∧ ∃ e S' F' sa', Ok B e S' σ' F' H' sa' ∧ Same F1 F' ∧ PostS B W D F' (forD fg fb (items.drop i) e S'),
    ⟨_, rfl, Nat.zero_le _, env, S1, F1, sa, k1, Same.refl _, PostS.of g1.ff (by rw [List.drop_zero]; exact h1)⟩, ?_⟩
  rintro i m σ2 H2 ⟨rfl, hin, e2, S2, F2, sa2, k3, s13, hp⟩
  have sJ : Same F1 H2 := s13.trans k3.fh
  by_cases hlt : i < items.length
  · refine .inr ⟨w.goes i H2 hlt sJ, fun σ' H' => i + 1 ≤ items.length ∧ ∃ e S' F' sa', Ok B e S' σ' F' H' sa' ∧ Same F1 F' ∧ PostS B W D F' (forD fg fb (items.drop (i + 1)) e S'),
      fun σ' H' z => ⟨items.length - (i + 1), by omega, rfl, z⟩, fun x H' hy => ?_⟩
    have hdrop : items.drop i = items[i] :: items.drop (i + 1) := List.drop_eq_getElem_cons hlt
    rw [hdrop] at hp
    unfold forD at hp
    have item : ∃ F', Ok B e2 S2 σ2 F' H' sa2 ∧ Same F2 F' ∧ Rp B.K F' x (items[i]) := by
      rcases w.yields i H2 x H' hlt sJ hy with ⟨rfl, d, hd, rd⟩ | ⟨T, us, es, rfl, hT, rfl, hd, rd⟩
      · refine ⟨F2, k3, Same.refl _, ?_⟩
        have e : items[i] = d := by
          rw [List.getElem?_eq_getElem hlt] at hd
          exact Option.some.inj hd
        rw [e]
        exact Rp.same s13 d rd
      · have e : items[i] = .tup es := by
          rw [List.getElem?_eq_getElem hlt] at hd
          exact Option.some.inj hd
        refine ⟨_, k3.new hT (.tup us), (k3.gw hT (.tup us)).ff, ?_⟩
        rw [e]
        exact .tup (SqT.of upd_same) (RpA.same (s13.trans (k3.gw hT (.tup us)).ff) es rd)
    obtain ⟨F3, k4, s4, r4⟩ := item
    cases qg : fg e2 items[i] with
    | none => rw [qg] at hp; exact hp.elim
    | some en =>
      rw [qg] at hp
      simp only at hp
      refine sg e2 S2 σ2 F3 H' sa2 x items[i] en k4 r4 qg _ fun σ3 k5 l5 u5 => sb en S2 σ3 F3 H' sa2 k5 _ ?_
      cases qb : fb en S2 with
      | none => rw [qb] at hp; exact hp.elim
      | some o =>
        rw [qb] at hp
        cases o with
        | nx e6 S6 => exact fun σ6 F6 H6 sa6 k6 s6 => ⟨hlt, e6, S6, F6, sa6, k6, (s13.trans s4).trans s6, PostS.of (s4.trans s6) hp⟩
        | ct e6 S6 => exact fun σ6 F6 H6 sa6 k6 s6 => ⟨hlt, e6, S6, F6, sa6, k6, (s13.trans s4).trans s6, PostS.of (s4.trans s6) hp⟩
        | bk e6 S6 => exact fun σ6 F6 H6 sa6 k6 s6 => hp σ6 F6 H6 sa6 k6 (s4.trans s6)
        | rt d S6 => exact fun e6 σ6 v F6 H6 sa6 k6 s6 r6 => hp e6 σ6 v F6 H6 sa6 k6 (s4.trans s6) r6
        | ex x e6 S6 => exact fun σ6 F6 H6 sa6 k6 s6 => hp σ6 F6 H6 sa6 k6 (s4.trans s6)
        | rn ds S6 => exact fun e6 σ6 p ws F6 H6 sa6 k6 s6 => hp e6 σ6 p ws F6 H6 sa6 k6 (s4.trans s6)
  · have e : i = items.length := by omega
    subst e
    rw [List.drop_length] at hp
    exact .inl ⟨w.stops H2 sJ, hp σ2 F2 H2 sa2 k3 (Same.refl _)⟩
theorem ds_while (hp : PassesOwn (model X.prog X.w) X.A X.env X.xe) (hc : DT X B W c ft) (hb : DSs X B W body fb) (fuel : Env → Sr → Nat) : DS X B W (.While c body [] pos) (sWhile ft fb fuel) := by
  obtain ⟨t, p, s⟩ := hc.ex
  obtain ⟨tb, pb, sb⟩ := hb.ex
  refine ⟨_, ps_while hp p pb, fun env S σ F H sa k D h => ?_⟩
  refine ⟨fun m σ' H' => ∃ e S' F' sa', Ok B e S' σ' F' H' sa' ∧ PostS B W D F' (whileD ft fb m e S'), ⟨fuel env S, env, S, F, sa, k, h⟩, ?_⟩
  rintro m σ2 H2 ⟨e2, S2, F2, sa2, k2, hp⟩
  cases m with
  | zero => exact hp.elim
  | succ n =>
    unfold whileD at hp
    refine s e2 S2 σ2 F2 H2 sa2 k2 _ ((post_exp k2 hp).imp fun b S3 h3 F3 H3 k3 g3 => ?_)
    cases b with
    | false => exact iteF (h3 σ2 F3 H3 sa2 k3 g3.ff)
    | true =>
      rw [if_pos rfl] at h3
      refine iteT ⟨fun σ' H' => ∃ e S' F' sa', Ok B e S' σ' F' H' sa' ∧ PostS B W D F' (whileD ft fb n e S'), fun σ' H' z => ⟨n, Nat.lt_succ_self n, z⟩, sb e2 S3 σ2 F3 H3 sa2 k3 _ ?_⟩
      cases qb : fb e2 S3 with
      | none => rw [qb] at h3; exact h3.elim
      | some o =>
        rw [qb] at h3
        cases o with
        | nx e6 S6 => exact fun σ6 F6 H6 sa6 k6 s6 => ⟨e6, S6, F6, sa6, k6, PostS.of (g3.ff.trans s6) h3⟩
        | ct e6 S6 => exact fun σ6 F6 H6 sa6 k6 s6 => ⟨e6, S6, F6, sa6, k6, PostS.of (g3.ff.trans s6) h3⟩
        | bk e6 S6 => exact fun σ6 F6 H6 sa6 k6 s6 => h3 σ6 F6 H6 sa6 k6 (g3.ff.trans s6)
        | rt d S6 => exact fun e6 σ6 v F6 H6 sa6 k6 s6 r6 => h3 e6 σ6 v F6 H6 sa6 k6 (g3.ff.trans s6) r6
        | ex x e6 S6 => exact fun σ6 F6 H6 sa6 k6 s6 => h3 σ6 F6 H6 sa6 k6 (g3.ff.trans s6)
        | rn ds S6 => exact fun e6 σ6 p ws F6 H6 sa6 k6 s6 => h3 e6 σ6 p ws F6 H6 sa6 k6 (g3.ff.trans s6)
end
end AU
namespace AU
open PySem PySem.Spec PyProof.Rows L2

/-! ### lists of one's own -/
def ownA : List It → List V → List Addr
  | .l _ :: its, .ref p :: vs => p :: ownA its vs
  | _ :: its, _ :: vs => ownA its vs
  | _, _ => []
inductive NewOk (B : Bs) (H F' H' : Hp) : List It → List V → Prop
  | nil : NewOk B H F' H' [] []
  | consD {v : V} {d : DD} {its : List It} {vs : List V} : Rp B.K F' v d → NewOk B H F' H' its vs → NewOk B H F' H' (.d d :: its) (v :: vs)
  | consL {p : Addr} {ws : List V} {ds : List DD} {its : List It} {vs : List V} : Fr B H p → F' p = none → H' p = some (.lst ws) → RpA B.K F' ws ds → (∀ q ∈ ownA its vs, q ≠ p) → NewOk B H F' H' its vs → NewOk B H F' H' (.l ds :: its) (.ref p :: vs)
theorem NewOk.back {B : Bs} {H0 H F' H' : Hp} (h : ∀ a o, H0 a = some o → Kp B o → ∃ o', H a = some o' ∧ Kp B o') : ∀ {its : List It} {vs : List V}, NewOk B H F' H' its vs → NewOk B H0 F' H' its vs
  | _, _, .nil => .nil
  | _, _, .consD r n => .consD r (NewOk.back h n)
  | _, _, .consL h1 h2 h3 h4 h5 n =>   .consL (fun o e k => let ⟨o', e', k'⟩ := h _ o e k; h1 o' e' k') h2 h3 h4 h5 (NewOk.back h n)
theorem NewOk.own {B : Bs} {H F' H' : Hp} : ∀ {its : List It} {vs : List V}, NewOk B H F' H' its vs → ∀ q ∈ ownA its vs, Fr B H q
  | _, _, .nil => fun q h => by simp [ownA] at h
  | _, _, .consD r n => fun q h => NewOk.own n q (by simpa [ownA] using h)
  | _, _, .consL h1 _ _ _ _ n => fun q h => by
    simp only [ownA, List.mem_cons] at h
    rcases h with rfl | h
    · exact h1
    · exact NewOk.own n q h
def GoodN (B : Bs) (env : Env) (σ : L2.St) (F H : Hp) (sa : Option Addr) (Q : VK) : List DD → Sr → Prop := fun ds S => ∀ p ws F' H', Ok B env S σ F' H' sa → Gw B sa F H F' H' → Fr B H p → F' p = none → H' p = some (.lst ws) → RpA B.K F' ws ds → Q (.ref p) H'
def GoodP (B : Bs) (env : Env) (σ : L2.St) (F H : Hp) (sa : Option Addr) (Q : List V → Hp → Prop) : List It → Sr → Prop := fun its S => ∀ vs F' H', Ok B env S σ F' H' sa → Gw B sa F H F' H' → NewOk B H F' H' its vs → Q vs H'
def SndN (B : Bs) (W : WX) (te : TE) (f : Env → M (List DD)) : Prop := ∀ env S σ F H sa, Ok B env S σ F H sa → ∀ Q : VK, Post (GoodN B env σ F H sa Q) (Bad B W env σ F H sa) (f env S) → te σ H Q
def SndP (B : Bs) (W : WX) (ta : TA) (f : Env → M (List It)) : Prop := ∀ env S σ F H sa, Ok B env S σ F H sa → ∀ Q : List V → Hp → Prop, Post (GoodP B env σ F H sa Q) (Bad B W env σ F H sa) (f env S) → ta σ H Q
structure DN (X : Cx) (B : Bs) (W : WX) (e : Expr) (f : Env → M (List DD)) : Prop where
  ex : ∃ te, PE X e te ∧ SndN B W te f
structure DP (X : Cx) (B : Bs) (W : WX) (es : List Expr) (f : Env → M (List It)) : Prop where
  ex : ∃ te, PA X es te ∧ SndP B W te f
def nLst (f : Env → M (List DD)) : Env → M (List DD) := fun env => bnd (f env) fun ds => if szOk ds.length = true then ret ds else stk
def pNil : Env → M (List It) := fun _ => ret []
def pD (f : Env → M DD) (r : Env → M (List It)) : Env → M (List It) := fun env => bnd (f env) fun x => bnd (r env) fun xs => ret (.d x :: xs)
def pL (f : Env → M (List DD)) (r : Env → M (List It)) : Env → M (List It) := fun env => bnd (f env) fun x => bnd (r env) fun xs => ret (.l x :: xs)
def setIts (env : Env) : List Nat → List It → Option Env
  | [], [] => some env
  | i :: is, it :: its => setIts (env.set i (some it)) is its
  | _, _ => none
def setVs (σ : L2.St) : List Nat → List V → Option L2.St
  | [], [] => some σ
  | i :: is, v :: vs => setVs (σ.set i (some v)) is vs
  | _, _ => none
def sPar (is : List Nat) (f : Env → M (List It)) : SF := thenS f fun its env S => (setIts env is its).map fun e => .nx e S
def sSetL (i : Nat) (f : Env → M (List DD)) : SF := thenS f fun ds env S => some (.nx (env.set i (some (.l ds))) S)
/-- x.append(e), x[i] = e of a list of one's own -/
def ownG (i : Nat) (k : List DD → SF) : SF := fun env S => match env[i]? with
  | some (some (.l xs)) => k xs env S
  | _ => none
def sApp (i : Nat) (f : Env → M DD) : SF := ownG i fun xs => thenS f fun d env S => if szOk (xs.length + 1) = true then some (.nx (env.set i (some (.l (xs ++ [d])))) S) else none
def putE (f g : Env → M DD) : Env → M (DD × DD) := fun env => bnd (f env) fun d => bnd (g env) fun j => ret (d, j)
def putK (i : Nat) (xs : List DD) (p : DD × DD) (env : Env) (S : Sr) : Option Out := match p.2 with
  | .int z => (ixN xs.length z).map fun j => .nx (env.set i (some (.l (xs.set j p.1)))) S
  | _ => none
def sPut (i : Nat) (f g : Env → M DD) : SF := ownG i fun xs => thenS (putE f g) (putK i xs)
/-- x[i], len(x) of a list of one's own -/
def eOwn (i : Nat) (k : List DD → Env → M DD) : Env → M DD := fun env => match env[i]? with
  | some (some (.l xs)) => k xs env
  | _ => stk
def eIxL (i : Nat) (g : Env → M DD) : Env → M DD := eOwn i fun xs env => bnd (g env) fun j => opIx (.lst xs) j
def eLenL (i : Nat) : Env → M DD := eOwn i fun xs _ => ret (.int xs.length)
section
variable {B : Bs} {W : WX} {X : Cx} {e e2 : Expr} {es : List Expr} {fr : Env → M (List DD)} {fn : Env → M (List DD)} {fp : Env → M (List It)} {fa fb : Env → M DD} {pos : Pos}
theorem Ok.fresh {env : Env} {S : Sr} {σ : L2.St} {F H : Hp} {sa : Option Addr} (k : Ok B env S σ F H sa) {p : Addr} (hp : Fr B H p) : Fr B B.H0 p ∧ sa ≠ some p ∧ ∀ (j : Nat) (ys : List DD), env[j]? = some (some (.l ys)) → σ[j]? ≠ some (some (.ref p)) := by
  refine ⟨k.fr0 hp, fun z => hp _ (k.so p z).2.1 .lst, fun j ys ej zj => ?_⟩
  obtain ⟨v', e1, b, us, e2, _, _, _, e5, _⟩ := k.sl j _ ej
  rw [zj] at e1
  cases e1
  cases e2
  exact hp _ e5 .lst
theorem dn_lst (h : DA X B W es fr) : DN X B W (.List es pos) (nLst fr) := by
  obtain ⟨t, p, s⟩ := h.ex
  refine ⟨_, pe_lst p, fun env S σ F H sa k Q hq => s env S σ F H sa k _ ((Post.bnd hq).imp fun ds S1 h1 vs F1 H1 k1 g1 r1 => ?_)⟩
  obtain ⟨c, h1⟩ := post_if h1
  refine ⟨by rw [r1.length]; exact szOk.le c, fun p hp => ?_⟩
  obtain ⟨k2, g2, fp, _, _⟩ := k1.newH hp (.lst vs)
  have h0 : Fr B H p := fun o e ko => by
    obtain ⟨o', e', _⟩ := g1.hh p o e ko
    rw [hp] at e'
    cases e'
  exact h1 p vs F1 _ k2 (g1.trans g2) h0 fp upd_same r1
theorem dp_nil : DP X B W [] pNil := ⟨_, pa_nil, fun env S σ F H sa k Q h => h [] F H k Gw.refl .nil⟩
theorem Post.sameP {env : Env} {σ : L2.St} {F F' H H' : Hp} {sa : Option Addr} {Q : List V → Hp → Prop} {r : Option (Except Ex (List It) × Sr)} (e : Gw B sa F H F' H') (g : Post (GoodP B env σ F H sa Q) (Bad B W env σ F H sa) r) : Post (GoodP B env σ F' H' sa Q) (Bad B W env σ F' H' sa) r :=
  g.mono (fun _ _ g vs F2 H2 k s r => g vs F2 H2 k (e.trans s) (r.back e.hh)) fun _ _ => Bad.of e
theorem dp_d (ha : DE X B W e fa) (hr : DP X B W es fp) (hs : starEach (e :: es) X.env = (false, eval e X.env) :: starEach es X.env := by rfl) : DP X B W (e :: es) (pD fa fp) := by
  obtain ⟨ta, pa, sa⟩ := ha.ex
  obtain ⟨tr, pr, sr⟩ := hr.ex
  refine ⟨_, pa_cons pa pr hs, fun env S σ F H sa' k Q h => sa env S σ F H sa' k _ ((Post.bnd h).imp fun x S1 h1 v F1 H1 k1 s1 r1 => ?_)⟩
  exact sr env S1 σ F1 H1 sa' k1 _ ((Post.bnd (h1.sameP s1)).imp fun xs S2 h2 vs F2 H2 k2 s2 r2 => h2 (v :: vs) F2 H2 k2 s2 (.consD (Rp.same s2.ff x r1) r2))
theorem dp_l (ha : DN X B W e fn) (hr : DP X B W es fp) (hs : starEach (e :: es) X.env = (false, eval e X.env) :: starEach es X.env := by rfl) : DP X B W (e :: es) (pL fn fp) := by
  obtain ⟨ta, pa, sa⟩ := ha.ex
  obtain ⟨tr, pr, sr⟩ := hr.ex
  refine ⟨_, pa_cons pa pr hs, fun env S σ F H sa' k Q h => sa env S σ F H sa' k _ ((Post.bnd h).imp fun x S1 h1 p ws F1 H1 k1 s1 hp fp1 hp1 r1 => ?_)⟩
  have hq := Post.bnd h1
  refine sr env S1 σ F1 H1 sa' k1 _ (hq.mono (fun xs S2 h2 vs F2 H2 k2 s2 r2 => ?_) fun _ _ => Bad.of s1)
  have hs' : sa' ≠ some p := (k.fresh hp).2.1
  refine h2 (.ref p :: vs) F2 H2 k2 (s1.trans s2) (.consL hp (s2.nf p _ hp1 .lst fp1) (s2.kp p _ hp1 hs' .lst) (RpA.same s2.ff x r1) (fun q hq z => ?_) (r2.back s1.hh))
  exact r2.own q hq _ (z ▸ hp1) .lst
/-- what is new goes to the slots -/
theorem ok_sets {H0 : Hp} {S : Sr} {F H : Hp} {sa : Option Addr} : ∀ (is : List Nat) (env : Env) (σ : L2.St) (its : List It) (vs : List V) (env' : Env), Ok B env S σ F H sa → NewOk B H0 F H its vs → (∀ p, Fr B H0 p → Fr B B.H0 p ∧ sa ≠ some p) →
    (∀ q ∈ ownA its vs, ∀ (j : Nat) (ys : List DD), env[j]? = some (some (.l ys)) → σ[j]? ≠ some (some (.ref q))) → setIts env is its = some env' → ∃ σ', setVs σ is vs = some σ' ∧ Ok B env' S σ' F H sa
  | [], env, σ, its, vs, env', k, n, hn, hd, he => by
    cases n with
    | nil =>
      cases he
      exact ⟨σ, rfl, k⟩
    | consD _ _ => cases he
    | consL _ _ _ _ _ _ => cases he
  | i :: is, env, σ, its, vs, env', k, n, hn, hd, he => by
    cases n with
    | nil => cases he
    | @consD v d its vs r n =>
      refine ok_sets is _ _ its vs env' (k.setD i r) n hn (fun q hq j ys ej zj => ?_) he
      rcases get_set ej with ⟨_, z, _⟩ | ⟨ne, e2⟩
      · cases z
      · rw [List.getElem?_set_ne ne] at zj
        exact hd q (by simpa [ownA] using hq) j ys e2 zj
    | @consL p ws ds its vs h1 h2 h3 h4 h5 n =>
      obtain ⟨b0, hs⟩ := hn p h1
      refine ok_sets is _ _ its vs env' (k.setL i h2 b0 hs h3 h4 fun j ys _ ej => hd p (by simp [ownA]) j ys ej) n hn (fun q hq j ys ej zj => ?_) he
      rcases get_set ej with ⟨rfl, z, hl⟩ | ⟨ne, e2⟩
      · rw [List.getElem?_set_self (by rw [← k.len]; exact hl)] at zj
        cases zj
        exact h5 _ hq rfl
      · rw [List.getElem?_set_ne ne] at zj
        exact hd q (by simp [ownA, hq]) j ys e2 zj
theorem par_post {is : List Nat} {D : Ends} {env : Env} {S : Sr} {σ : L2.St} {F H : Hp} {sa : Option Addr} (k : Ok B env S σ F H sa) (h : PostS B W D F (sPar is fp env S)) :
    Post (GoodP B env σ F H sa (fun vs H1 => ∃ σ', setVs σ is vs = some σ' ∧ D.nx σ' H1)) (Bad B W env σ F H sa) (fp env S) :=
  (post_exp k h).imp fun its S1 h1 vs F1 H1 k1 g1 n => by
    cases q : setIts env is its with
    | none => rw [q] at h1; exact h1.elim
    | some env' =>
      rw [q] at h1
      obtain ⟨σ', e1, k2⟩ := ok_sets is env σ its vs env' k1 n (fun p hp => ⟨(k.fresh hp).1, (k.fresh hp).2.1⟩) (fun p hp j ys ej => (k.fresh (n.own p hp)).2.2 j ys ej) q
      exact ⟨σ', e1, h1 σ' F1 H1 sa k2 g1.ff⟩
theorem ds_par2 {i j : Nat} {x y : Str} {a b : Expr} {px py pt : Pos} {kt k2 pt2} (hc : X.calm = true) (hN : X.N.Nodup) (ha : DP X B W [a, b] fp)
    (hi : X.N[i]? = some x := by rfl) (hj : X.N[j]? = some y := by rfl) (hij : i ≠ j := by decide)
    (hx : X.env.scope.names.lookup x = some .local := by rfl) (hy : X.env.scope.names.lookup y = some .local := by rfl)
    (hw : swappedStores [.Tuple [.Name x px, .Name y py] kt pt] (.Tuple [a, b] k2 pt2) X.env = pure (some [x, y]) := by rfl)
    (hs : swapsWithSole [.Tuple [.Name x px, .Name y py] kt pt] (.Tuple [a, b] k2 pt2) pos.line X.env = pure false := by rfl) :
    DS X B W (.Assign [.Tuple [.Name x px, .Name y py] kt pt] (.Tuple [a, b] k2 pt2) pos) (sPar [i, j] fp) := by
  obtain ⟨t, p, s⟩ := ha.ex
  refine ⟨_, ps_par hc hN hi hj hij hx hy p hw hs, fun env S σ F H sa k D h => s env S σ F H sa k _ ((par_post k h).imp fun its S1 h1 vs F1 H1 k1 g1 n => ?_)⟩
  obtain ⟨σ', e1, q⟩ := h1 vs F1 H1 k1 g1 n
  match vs, e1 with
  | [v, w], e1 =>
    cases e1
    exact ⟨v, w, rfl, q⟩
theorem ds_par3 {i j l : Nat} {x y z : Str} {a b c : Expr} {px py pz pt : Pos} {kt k2 pt2} (hc : X.calm = true) (hN : X.N.Nodup) (ha : DP X B W [a, b, c] fp)
    (hi : X.N[i]? = some x := by rfl) (hj : X.N[j]? = some y := by rfl) (hl : X.N[l]? = some z := by rfl) (hij : i ≠ j := by decide) (hil : i ≠ l := by decide) (hjl : j ≠ l := by decide)
    (hx : X.env.scope.names.lookup x = some .local := by rfl) (hy : X.env.scope.names.lookup y = some .local := by rfl) (hz : X.env.scope.names.lookup z = some .local := by rfl)
    (hw : swappedStores [.Tuple [.Name x px, .Name y py, .Name z pz] kt pt] (.Tuple [a, b, c] k2 pt2) X.env = pure (some [x, y, z]) := by rfl)
    (hs : swapsWithSole [.Tuple [.Name x px, .Name y py, .Name z pz] kt pt] (.Tuple [a, b, c] k2 pt2) pos.line X.env = pure false := by rfl) :
    DS X B W (.Assign [.Tuple [.Name x px, .Name y py, .Name z pz] kt pt] (.Tuple [a, b, c] k2 pt2) pos) (sPar [i, j, l] fp) := by
  obtain ⟨t, p, s⟩ := ha.ex
  refine ⟨_, L2.ps_par3 hc hN hi hj hl hij hil hjl hx hy hz p hw hs, fun env S σ F H sa k D h => s env S σ F H sa k _ ((par_post k h).imp fun its S1 h1 vs F1 H1 k1 g1 n => ?_)⟩
  obtain ⟨σ', e1, q⟩ := h1 vs F1 H1 k1 g1 n
  match vs, e1 with
  | [u, v, w], e1 =>
    cases e1
    exact ⟨u, v, w, rfl, q⟩
theorem ds_setL (i : Nat) {x : Str} {px : Pos} (hN : X.N.Nodup) (he : DN X B W e fn) (hi : X.N[i]? = some x := by rfl) (hx : Loc X.env.scope x := by first | exact Or.inl rfl | exact Or.inr rfl) (hf : X.fn x = true ∨ X.env.scope.names.lookup x = some .local := by first | exact .inl rfl | exact .inr rfl)
    (hs : swapsWithSole [.Name x px] e pos.line X.env = pure false := by rfl) (hw : swappedStores [.Name x px] e X.env = pure none := by rfl)
    (h1 : (assignEach [.Name x px] X.env).map (·.2) = [assign (.Name x px) X.env] := by rfl) : DS X B W (.Assign [.Name x px] e pos) (sSetL i fn) := by
  obtain ⟨t, p, s⟩ := he.ex
  refine ⟨_, ps_asg p (pg_name hN hi hx hf) hs hw h1, fun env S σ F H sa k D h => s env S σ F H sa k _ ((post_exp k h).imp fun ds S1 h1 p ws F1 H1 k1 g1 hp fp hp1 r1 => ?_)⟩
  obtain ⟨b0, hs', hd⟩ := k.fresh hp
  exact h1 _ F1 H1 sa (k1.setL i fp b0 hs' hp1 r1 fun j ys _ ej => hd j ys ej) g1.ff
theorem own_at {env : Env} {S : Sr} {σ : L2.St} {F H : Hp} {sa : Option Addr} (k : Ok B env S σ F H sa) {i : Nat} {xs : List DD} (e : env[i]? = some (some (.l xs))) :
    ∃ a vs, σ[i]? = some (some (.ref a)) ∧ F a = none ∧ Fr B B.H0 a ∧ sa ≠ some a ∧ H a = some (.lst vs) ∧ RpA B.K F vs xs := by
  obtain ⟨v, h1, a, vs, rfl, h2, h3, h4, h5, h6⟩ := k.sl i _ e
  exact ⟨a, vs, h1, h2, h3, h4, h5, h6⟩
/-- the list changes, the slot's word with it -/
theorem Ok.turn {env : Env} {S : Sr} {σ : L2.St} {F H : Hp} {sa : Option Addr} (k : Ok B env S σ F H sa) {i : Nat} {xs ys : List DD} {a : Addr} {ws : List V} (e : env[i]? = some (some (.l xs))) (ea : σ[i]? = some (some (.ref a))) (r : RpA B.K F ws ys) :
    Ok B (env.set i (some (.l ys))) S σ F (upd H a (.lst ws)) sa := by
  obtain ⟨a', vs, h1, h2, h3, h4, h5, h6⟩ := own_at k e
  rw [ea] at h1
  cases h1
  have hi : i < env.length := (List.getElem?_eq_some_iff.mp e).1
  have k1 : Ok B (env.set i none) S (σ.set i none) F H sa := k.unset i none
  have k2 : Ok B (env.set i none) S (σ.set i none) F (upd H a (.lst ws)) sa := k1.mut h5 h2 h3 h4 fun j zs ej zj => by
    rcases get_set ej with ⟨_, z, _⟩ | ⟨ne, e2⟩
    · cases z
    · rw [List.getElem?_set_ne ne] at zj
      exact k.dj i j xs zs a ne e e2 ea zj
  have k3 := k2.setL i (p := a) (vs := ws) (ds := ys) h2 h3 h4 upd_same r fun j zs ne ej zj => by
    rcases get_set ej with ⟨z, _, _⟩ | ⟨n2, e2⟩
    · exact ne z.symm
    · rw [List.getElem?_set_ne n2] at zj
      exact k.dj i j xs zs a n2 e e2 ea zj
  have e1 : (env.set i none).set i (some (It.l ys)) = env.set i (some (.l ys)) := by rw [List.set_set]
  have e2 : (σ.set i none).set i (some (V.ref a)) = σ := by
    rw [List.set_set]
    apply List.ext_getElem?
    intro j
    by_cases hj : i = j
    · subst hj
      rw [List.getElem?_set_self (by rw [← k.len]; exact hi), ea]
    · rw [List.getElem?_set_ne hj]
  rw [e1, e2] at k3
  exact k3
theorem ownG_inv {i : Nat} {kk : List DD → SF} {env : Env} {S : Sr} {D : Ends} {F : Hp} (h : PostS B W D F (ownG i kk env S)) : ∃ xs, env[i]? = some (some (.l xs)) ∧ PostS B W D F (kk xs env S) := by
  unfold ownG at h
  cases q : env[i]? with
  | none => rw [q] at h; exact h.elim
  | some o =>
    cases o with
    | none => rw [q] at h; exact h.elim
    | some it =>
      cases it with
      | l xs =>
        rw [q] at h
        exact ⟨xs, rfl, h⟩
      | d x => rw [q] at h; exact h.elim
      | s => rw [q] at h; exact h.elim
      | sc ns => rw [q] at h; exact h.elim
theorem postS_if {D : Ends} {F : Hp} {c : Bool} {o : Option Out} (h : PostS B W D F (if c = true then o else none)) : c = true ∧ PostS B W D F o := by
  cases c with
  | true => exact ⟨rfl, h⟩
  | false => exact h.elim
theorem ds_app (i : Nat) {x : Str} {px pa' pc : Pos} (ha : DE X B W e fa) (hN : X.N[i]? = some x := by rfl) (hv : Vis X.env.scope x := by first | exact Or.inl rfl | exact Or.inr (Or.inl rfl) | exact Or.inr (Or.inr rfl)) (hd : (x == ("__debug__" : Str)) = false := by decide)
    (hcd : (x == ("__classdict__" : Str)) = false := by decide) (hsw : swapsWith (.Call (.Attribute (.Name x px) "append" pa') [e] [] pc) none pos.line X.env = pure false := by rfl)
    (hm : ∀ (to : TE) (t : TA), PE X (.Name x px) to → PA X [e] t → PE X (.Call (.Attribute (.Name x px) "append" pa') [e] [] pc) (tBM X.K "list" rAppend to t) := by exact fun to t ho ha => pe_bm PySem.F.plainAttrs_list PySem.F.slot_list_append PySem.F.type_list_append mt_append ho ha)
    (hs : starEach [e] X.env = (false, eval e X.env) :: starEach [] X.env := by rfl) : DS X B W (.Expr (.Call (.Attribute (.Name x px) "append" pa') [e] [] pc) pos) (sApp i fa) := by
  obtain ⟨t, p, s⟩ := ha.ex
  refine ⟨_, ps_expr (hm _ _ (pe_var hN hv hd hcd) (pa_cons p pa_nil hs)) hsw, fun env S σ F H sa k D h => ?_⟩
  obtain ⟨xs, q, h⟩ := ownG_inv h
  obtain ⟨a, vs, e1, e2, e3, e4, e5, e6⟩ := own_at k q
  refine ⟨.ref a, e1, .inl ⟨rfl, vs, SqL.of e5⟩, s env S σ F H sa k _ ((post_exp k h).imp fun d S1 h1 v F1 H1 k1 g1 r1 => ?_)⟩
  obtain ⟨b, ws, c1, c2, c3, c4, c5, c6⟩ := own_at k1 q
  rw [e1] at c1
  cases c1
  obtain ⟨hz, h1⟩ := postS_if h1
  refine ⟨a, ws, v, rfl, rfl, c5, Nat.lt_of_lt_of_le (Nat.lt_succ_self _) (by rw [c6.length]; exact szOk.le hz), ?_⟩
  exact h1 σ F1 _ sa (k1.turn q e1 (c6.append (.cons r1 .nil))) g1.ff
theorem ds_put (i : Nat) {x : Str} {px ps : Pos} (hK : B.K = X.K) (ha : DE X B W e fa) (hb : DE X B W e2 fb) (hN : X.N[i]? = some x := by rfl) (hv : Vis X.env.scope x := by first | exact Or.inl rfl | exact Or.inr (Or.inl rfl) | exact Or.inr (Or.inr rfl)) (hd : (x == ("__debug__" : Str)) = false := by decide)
    (hcd : (x == ("__classdict__" : Str)) = false := by decide) (hasg : ∀ v, assign (.Subscript (.Name x px) e2 ps) X.env v = (do
      let ov ← holding [v] (eval (.Name x px) X.env)
      let iv ← holding [v, ov] (eval e2 X.env)
      standAt ps
      holding [v, ov, iv] (setItem ov iv v)
      release [v, ov, iv] []) := by intro _; rfl)
    (hs : swapsWithSole [.Subscript (.Name x px) e2 ps] e pos.line X.env = pure false := by rfl) (hw : swappedStores [.Subscript (.Name x px) e2 ps] e X.env = pure none := by rfl)
    (h1 : (assignEach [.Subscript (.Name x px) e2 ps] X.env).map (·.2) = [assign (.Subscript (.Name x px) e2 ps) X.env] := by rfl) : DS X B W (.Assign [.Subscript (.Name x px) e2 ps] e pos) (sPut i fa fb) := by
  obtain ⟨t, p, s⟩ := ha.ex
  obtain ⟨t2, p2, s2⟩ := hb.ex
  refine ⟨_, ps_asg p (pg_sub (pe_var hN hv hd hcd) p2 set_list hasg) hs hw h1, fun env S σ F H sa k D h => ?_⟩
  obtain ⟨xs, q, h⟩ := ownG_inv h
  obtain ⟨a, vs, e1, e2, e3, e4, e5, e6⟩ := own_at k q
  refine s env S σ F H sa k _ ((Post.bnd (post_exp k h)).imp fun d S1 h1 v F1 H1 k1 g1 r1 => ⟨.ref a, e1, ?_⟩)
  have h2 := Post.bnd h1
  refine s2 env S1 σ F1 H1 sa k1 _ (h2.mono (fun j S2 h3 w F2 H2 k2 g2 r2 => ?_) fun _ _ => Bad.of g1)
  obtain ⟨b, ws, c1, c2, c3, c4, c5, c6⟩ := own_at k2 q
  rw [e1] at c1
  cases c1
  have h3 : PostS B W D F (putK i xs (d, j) env S2) := h3
  cases j with
  | int z =>
    cases r2.int_inv
    unfold putK at h3
    simp only at h3
    cases qz : ixN xs.length z with
    | none => rw [qz] at h3; exact h3.elim
    | some jj =>
      rw [qz] at h3
      refine ⟨a, ws, z, jj, rfl, rfl, c5, by rw [c6.length]; exact qz, ?_⟩
      exact h3 σ F2 _ sa (k2.turn q e1 (c6.set jj (Rp.same g2.ff d r1))) (g1.trans g2).ff
  | _ => exact h3.elim
/-- a list of one's own is looked at as data, in the heap as it stands -/
theorem de_own (i : Nat) {x : Str} {px : Pos} {k : List DD → Env → M DD} {e' : Expr} {te : TE} (pe : PE X e' te) (hs : ∀ xs env S σ F H sa a vs, Ok B env S σ F H sa → env[i]? = some (some (.l xs)) → σ[i]? = some (some (.ref a)) → H a = some (.lst vs) → RpA B.K F vs xs →
      ∀ Q : VK, Post (Good B env σ F H sa Q) (Bad B W env σ F H sa) (k xs env S) → te σ H Q) : DE X B W e' (eOwn i k) := by
  refine ⟨_, pe, fun env S σ F H sa hk Q h => ?_⟩
  unfold eOwn at h
  cases q : env[i]? with
  | none => rw [q] at h; exact h.elim
  | some o =>
    cases o with
    | none => rw [q] at h; exact h.elim
    | some it =>
      cases it with
      | l xs =>
        rw [q] at h
        obtain ⟨a, vs, e1, e2, e3, e4, e5, e6⟩ := own_at hk q
        exact hs xs env S σ F H sa a vs hk q e1 e5 e6 Q h
      | d x => rw [q] at h; exact h.elim
      | s => rw [q] at h; exact h.elim
      | sc ns => rw [q] at h; exact h.elim
theorem de_ixL (i : Nat) {x : Str} {px : Pos} (hK : B.K = X.K) (hb : DE X B W e2 fb) (hN : X.N[i]? = some x := by rfl) (hv : Vis X.env.scope x := by first | exact Or.inl rfl | exact Or.inr (Or.inl rfl) | exact Or.inr (Or.inr rfl)) (hd : (x == ("__debug__" : Str)) = false := by decide)
    (hcd : (x == ("__classdict__" : Str)) = false := by decide) (hs : PlainIx e2 := by exact fun _ _ => rfl) : DE X B W (.Subscript (.Name x px) e2 pos) (eIxL i fb) := by
  obtain ⟨t2, p2, s2⟩ := hb.ex
  refine de_own (x := x) (px := px) i (pe_ix ix_seq (pe_var (pos := px) hN hv hd hcd) p2 hs) fun xs env S σ F H sa a vs k q e1 e5 e6 Q h => ⟨.ref a, e1, ?_⟩
  refine s2 env S σ F H sa k _ ((Post.bnd h).imp fun j S1 h1 w F1 H1 k1 g1 r1 => ?_)
  obtain ⟨b, ws, c1, c2, c3, c4, c5, c6⟩ := own_at k1 q
  rw [e1] at c1
  cases c1
  cases j with
  | int z =>
    cases r1.int_inv
    obtain ⟨d, hd2, h1⟩ := post_ofO h1
    obtain ⟨y, hy, ry⟩ := c6.atI hd2
    exact .inl ⟨a, ws, z, y, rfl, rfl, SqL.of c5, hy, h1 _ F1 H1 k1 g1 ry⟩
  | _ => exact h1.elim
theorem de_lenL (i : Nat) {x : Str} {px p : Pos} (hm : X.mg "len" = none) (hN : X.N[i]? = some x := by rfl) (hv : Vis X.env.scope x := by first | exact Or.inl rfl | exact Or.inr (Or.inl rfl) | exact Or.inr (Or.inr rfl)) (hd : (x == ("__debug__" : Str)) = false := by decide)
    (hcd : (x == ("__classdict__" : Str)) = false := by decide) (hg : Gl X "len" := by rfl) (he : starEach [.Name x px] X.env = (false, eval (.Name x px) X.env) :: starEach [] X.env := by rfl) (hpl : (backTo pos (starEach [] X.env)).any (·.1) = false := by rfl) :
    DE X B W (.Call (.Name "len" p) [.Name x px] [] pos) (eLenL i) := by
  refine de_own (x := x) (px := px) i (pe_callB call_len hg hm PySem.boot_len (pa_cons (pe_var (pos := px) hN hv hd hcd) pa_nil he) (by decide) (by decide) he hpl) fun xs env S σ F H sa a vs k q e1 e5 e6 Q h => ⟨.ref a, e1, ?_⟩
  exact ⟨_, xs.length, rfl, .inl ⟨vs, SqL.of e5, by rw [e6.length]⟩, h _ F H k Gw.refl (.int _)⟩
end
end AU
namespace AU
open PySem PySem.Spec PyProof.Rows L2

/-! ### a def by its body -/
def env0 (N : Nat) (its : List It) : Env := its.map some ++ List.replicate (N - its.length) none
def runB (N : Nat) (f : SF) (its : List It) : M DD := fun S => match f (env0 N its) S with
  | some (.nx _ S') => some (.ok .non, S')
  | some (.rt d S') => some (.ok d, S')
  | some (.rn ds S') => some (.ok (.lst ds), S')
  | some (.ex x _ S') => some (.error x, S')
  | _ => none
def runN (N : Nat) (f : SF) (its : List It) : M (List DD) := fun S => match f (env0 N its) S with
  | some (.rn ds S') => some (.ok ds, S')
  | some (.ex x _ S') => some (.error x, S')
  | _ => none
abbrev WD (E : XK) : WX := fun cls d _ H => E cls d H
section
variable {K : PySem.W.Frag} {cls : Nat → Value} {F H : Hp} {sa : Option Addr} {S : Sr}
theorem argsOk_get : ∀ {its : List It} {vs : List V} {i : Nat} {it : It}, ArgsOk K F sa its vs → its[i]? = some it → ∃ v, vs[i]? = some v ∧ ArgOk K F sa it v
  | _, _, i, _, .nil, h => by simp at h
  | _, _, 0, _, .cons h1 _, h => by
    simp at h
    subst h
    exact ⟨_, rfl, h1⟩
  | _, _, i + 1, _, .cons _ h2, h => by
    obtain ⟨v, e, r⟩ := argsOk_get (i := i) h2 (by simpa using h)
    exact ⟨v, by simpa using e, r⟩
/-- a def's entry -/
theorem ok_entry {N : List Str} {its : List It} {vs : List V} (fh : Same F H) (ha : ArgsOk K F sa its vs) (so : ∀ a, sa = some a → F a = none ∧ H a = some (.lst [.int S.1, .int S.2])) (ft : ∀ a ps, F a ≠ some (.tbl ps)) :
    Ok ⟨K, F, H, sa, [], cls⟩ (env0 N.length its) S (L2.start N vs) F H sa := by
  have hl := ha.length
  have notL : ∀ (i : Nat) (xs : List DD), (env0 N.length its)[i]? ≠ some (some (It.l xs)) := fun i xs e => by
    unfold env0 at e
    by_cases hi : i < its.length
    · rw [List.getElem?_append_left (by simpa using hi), List.getElem?_map] at e
      cases q : its[i]? with
      | none => rw [q] at e; cases e
      | some it =>
        rw [q] at e
        cases e
        obtain ⟨v, _, z⟩ := argsOk_get ha q
        exact z
    · rw [List.getElem?_append_right (by simpa using hi), List.getElem?_replicate] at e
      split at e <;> cases e
  refine ⟨Same.refl F, fh, fun a o e _ _ => e, fun a o _ _ h => h, fun p hp => (by cases hp), .inl rfl, fun a e => ⟨(so a e).1, (so a e).2, .inl e⟩, ?_, fun i it e => ?_, fun i j xs ys a _ h2 => absurd h2 (notL i xs), ft⟩
  · unfold env0 L2.start
    rw [List.length_append, List.length_append, List.length_map, List.length_map, List.length_replicate, List.length_replicate, hl]
  · unfold env0 at e
    by_cases hi : i < its.length
    · rw [List.getElem?_append_left (by simpa using hi), List.getElem?_map] at e
      cases q : its[i]? with
      | none => rw [q] at e; cases e
      | some it' =>
        rw [q] at e
        cases e
        obtain ⟨v, h1, h2⟩ := argsOk_get ha q
        refine ⟨v, ?_, ?_⟩
        · unfold L2.start
          rw [List.getElem?_append_left (by simpa [hl] using hi), List.getElem?_map, h1]
          rfl
        · cases it with
          | d x => exact h2
          | l xs => exact h2.elim
          | s => exact h2
          | sc ns => exact h2
    · rw [List.getElem?_append_right (by simpa using hi), List.getElem?_replicate] at e
      split at e <;> cases e
theorem ok_grw {e : Env} {S' : Sr} {σ : L2.St} {F' H' : Hp} {sa' : Option Addr} (k : Ok ⟨K, F, H, sa, [], cls⟩ e S' σ F' H' sa') : Grw sa S' F H F' H' := by
  refine ⟨k.ff, k.fh, fun a o q h => k.hh a o q h (.inl rfl), fun a h1 h2 => ?_, fun a q => ?_, k.ft⟩
  · cases q : H a with
    | none => exact absurd q h1
    | some o => exact k.nf a o q (.inl rfl) h2
  · rcases k.sa0 with z | z
    · exact (k.so a (z.trans q)).2.1
    · have z : sa = none := z
      rw [q] at z
      cases z
end
section
variable {P : Program} {w : World} {K : PySem.W.Frag} {mg : Str → Option Value} {base : Heap} {cls : Nat → Value}
/-- what is asked of a body -/
def BodyOk (P : Program) (w : World) (K : PySem.W.Frag) (mg : Str → Option Value) (base : Heap) (cls : Nat → Value) (N : List Str) (qual : Str) (st : Stmt) (f : Addr) (k : Nat) (fb : SF) : Prop :=
  ∀ (cdv : Value) (A : Around) (outer : List PySem.Env) (s : Shared) (H : Hp) (E : XK) (B : Bs), Room k (A.deeper (envOfC qual (defScope st) s.heap.objs.size f cdv)) → B.K = K → B.cls = cls → B.T = [] →
    DSs (cxOf (L2.CX P w) P w K mg base N qual (defScope st) f cdv A outer s H E) B (WD E) (defBody st) fb
theorem fnC_of {x qual : Str} {st : Stmt} {f : Addr} {fd : FuncData} {N ps : List Str} {k : Nat} {fb : SF} (F : Fun K x qual st f fd) (S : FnScope N ps (defScope st)) (hm : mg x = some (.ref f)) (hb : L2.Binds K fd ps []) (body : BodyOk P w K mg base cls N qual st f k fb) :
    FnC P w K mg base cls x ps.length (k + 1) (runB N.length fb) := by
  refine ⟨f, fd, ps, F.okX S (fun vs H Q E h => ?_) (fun cdv A outer s H vs Q E hr h => ?_), hm, F.kp, hb⟩
  · obtain ⟨_, _, _, _, e, _⟩ := h
    exact e
  · obtain ⟨F0, sa, Sr0, its, hn, fh, ha, so, ft, hp⟩ := h
    obtain ⟨t, pp, ss⟩ := (body cdv A outer s H E ⟨K, F0, H, sa, [], cls⟩ hr rfl rfl rfl).ex
    refine ⟨t, pp, ss (env0 N.length its) Sr0 _ F0 H sa (ok_entry fh ha so ft) _ ?_⟩
    unfold runB at hp
    cases q : fb (env0 N.length its) Sr0 with
    | none => rw [q] at hp; exact hp.elim
    | some o =>
      rw [q] at hp
      cases o with
      | nx e2 S2 => exact fun σ F' H' sa' k' s' => hp .non F' H' (ok_grw k') .non
      | rt d S2 => exact fun e σ v F' H' sa' k' s' r' => hp v F' H' (ok_grw k') r'
      | bk e2 S2 => exact hp.elim
      | ct e2 S2 => exact hp.elim
      | ex x e2 S2 => exact fun σ F' H' sa' k' s' => hp F' H' (ok_grw k')
      | rn ds S2 => exact fun e σ p ws F' H' sa' k' s' h1 h2 h3 h4 h5 h6 => (let ⟨sF, k2⟩ := k'.lay h4 h1 h2 h3 h6; hp (.ref p) _ H' (ok_grw k2) (.lst upd_same (RpA.same sF ds h5)))
/-- a def that gives out a new list of its own -/
def spN (K : PySem.W.Frag) (cls : Nat → Value) (n : Nat) (fn : List It → M (List DD)) : Sp := fun vs H Q E => ∃ F sa S its, vs.length = n ∧ Same F H ∧ ArgsOk K F sa its vs ∧ (∀ a, sa = some a → F a = none ∧ H a = some (.lst [.int S.1, .int S.2])) ∧ (∀ a ps, F a ≠ some (.tbl ps)) ∧
  Post (fun ds S' => ∀ p ws F' H', Grw sa S' F H F' H' → H p = none → F' p = none → H' p = some (.lst ws) → RpA K F' ws ds → Q (.ref p) H') (fun e S' => ∀ F' H', Grw sa S' F H F' H' → ExE K cls E e F' H') (fn its S)
structure FnN (P : Program) (w : World) (K : PySem.W.Frag) (mg : Str → Option Value) (base : Heap) (cls : Nat → Value) (x : Str) (n k : Nat) (fn : List It → M (List DD)) : Prop where
  ex : ∃ f fd ps, FnOk P w K mg base (L2.CX P w) k f fd ps (spN K cls n fn) ∧ mg x = some (.ref f) ∧ PySem.W.keepIn K (.ref f) = true ∧ L2.Binds K fd ps []
theorem FnN.mono {x : Str} {n k k' : Nat} {fn : List It → M (List DD)} (h : FnN P w K mg base cls x n k fn) (hk : k ≤ k') : FnN P w K mg base cls x n k' fn := by
  obtain ⟨f, fd, ps, F, r⟩ := h.ex
  exact ⟨f, fd, ps, F.mono hk, r⟩
theorem fnN_of {x qual : Str} {st : Stmt} {f : Addr} {fd : FuncData} {N ps : List Str} {k : Nat} {fb : SF} (F : Fun K x qual st f fd) (S : FnScope N ps (defScope st)) (hm : mg x = some (.ref f)) (hb : L2.Binds K fd ps []) (body : BodyOk P w K mg base cls N qual st f k fb) :
    FnN P w K mg base cls x ps.length (k + 1) (runN N.length fb) := by
  refine ⟨f, fd, ps, F.okX S (fun vs H Q E h => ?_) (fun cdv A outer s H vs Q E hr h => ?_), hm, F.kp, hb⟩
  · obtain ⟨_, _, _, _, e, _⟩ := h
    exact e
  · obtain ⟨F0, sa, Sr0, its, hn, fh, ha, so, ft, hp⟩ := h
    obtain ⟨t, pp, ss⟩ := (body cdv A outer s H E ⟨K, F0, H, sa, [], cls⟩ hr rfl rfl rfl).ex
    refine ⟨t, pp, ss (env0 N.length its) Sr0 _ F0 H sa (ok_entry fh ha so ft) _ ?_⟩
    unfold runN at hp
    cases q : fb (env0 N.length its) Sr0 with
    | none => rw [q] at hp; exact hp.elim
    | some o =>
      rw [q] at hp
      cases o with
      | nx e2 S2 => exact hp.elim
      | rt d S2 => exact hp.elim
      | bk e2 S2 => exact hp.elim
      | ct e2 S2 => exact hp.elim
      | ex x e2 S2 => exact fun σ F' H' sa' k' s' => hp F' H' (ok_grw k')
      | rn ds S2 =>
        intro e σ p ws F' H' sa' k' s' h1 h2 h3 h4 h5 h6
        refine hp p ws F' H' (ok_grw k') ?_ h1 h4 h5
        cases q2 : H p with
        | none => rfl
        | some o => exact absurd (.inl rfl) (h2 o q2)
end

/-! ### the source, the script -/
def sRetNew (f : Env → M (List DD)) : SF := thenS f fun ds _ S => some (.rn ds S)
def eSrc (i : Nat) (j : Bool) : Env → M DD := fun env S => match env[i]? with
  | some (some .s) => some (.ok (.int (if j = true then S.2 else S.1)), S)
  | _ => none
def sSrcPut (i : Nat) (j : Bool) (f : Env → M DD) : SF := thenS f fun d env S => match env[i]?, d with
  | some (some .s), .int z => some (.nx env (if j = true then (S.1, z) else (z, S.2)))
  | _, _ => none
def eScAt (i : Nat) (g : Env → M DD) : Env → M DD := fun env => match env[i]? with
  | some (some (.sc ns)) => bnd (g env) fun d => match d with
    | .int z => ofO ((atI ns z).map DD.int)
    | _ => stk
  | _ => stk
def eScLen (i : Nat) : Env → M DD := fun env => match env[i]? with
  | some (some (.sc ns)) => ret (.int ns.length)
  | _ => stk
section
variable {B : Bs} {W : WX} {X : Cx} {e e2 : Expr} {es : List Expr} {fn : Env → M (List DD)} {fa fb : Env → M DD} {pos px p : Pos} {x : Str}
theorem ds_retNew (he : DN X B W e fn) : DS X B W (.Return (some e) pos) (sRetNew fn) := by
  obtain ⟨t, p, s⟩ := he.ex
  exact ⟨_, ps_ret p, fun env S σ F H sa k D h => s env S σ F H sa k _ ((post_exp k h).imp fun ds S1 h1 p ws F1 H1 k1 g1 hp fp hp1 r1 =>
    (let ⟨b0, hs', hd⟩ := k.fresh hp; h1 env σ p ws F1 H1 sa k1 g1.ff fp b0 hs' hp1 r1 hd))⟩
theorem src_inv {i : Nat} {j : Bool} {env : Env} {S : Sr} {good : DD → Sr → Prop} {bad : Ex → Sr → Prop} (h : Post good bad (eSrc i j env S)) : env[i]? = some (some .s) ∧ good (.int (if j = true then S.2 else S.1)) S := by
  unfold eSrc at h
  cases q : env[i]? with
  | none => rw [q] at h; exact h.elim
  | some o =>
    cases o with
    | none => rw [q] at h; exact h.elim
    | some it =>
      cases it with
      | s => rw [q] at h; exact ⟨rfl, h⟩
      | l xs => rw [q] at h; exact h.elim
      | d x => rw [q] at h; exact h.elim
      | sc ns => rw [q] at h; exact h.elim
theorem de_src (i : Nat) (j : Bool) {c : Int} {kk : Nat} {pc : Pos} (hc : c = if j = true then 1 else 0) (hN : X.N[i]? = some x := by rfl) (hv : Vis X.env.scope x := by first | exact Or.inl rfl | exact Or.inr (Or.inl rfl) | exact Or.inr (Or.inr rfl)) (hd : (x == ("__debug__" : Str)) = false := by decide)
    (hcd : (x == ("__classdict__" : Str)) = false := by decide) : DE X B W (.Subscript (.Name x px) (.Constant (.int c) kk pc) pos) (eSrc i j) := by
  refine ⟨_, pe_ix ix_seq (pe_var hN hv hd hcd) pe_int (fun _ _ => rfl), fun env S σ F H sa k Q h => ?_⟩
  obtain ⟨q, h⟩ := src_inv h
  obtain ⟨v, h1, a, rfl, e2⟩ := k.sl i _ q
  obtain ⟨e3, e4, _⟩ := k.so a e2
  refine ⟨.ref a, h1, .inl ⟨a, [.int S.1, .int S.2], c, .int (if j = true then S.2 else S.1), rfl, rfl, SqL.of e4, ?_, h _ F H k Gw.refl (.int _)⟩⟩
  subst hc
  cases j <;> rfl
theorem ds_srcPut (i : Nat) (j : Bool) {c : Int} {kk : Nat} {pc ps : Pos} (hc : c = if j = true then 1 else 0) (ha : DE X B W e fa) (hN : X.N[i]? = some x := by rfl) (hv : Vis X.env.scope x := by first | exact Or.inl rfl | exact Or.inr (Or.inl rfl) | exact Or.inr (Or.inr rfl)) (hd : (x == ("__debug__" : Str)) = false := by decide)
    (hcd : (x == ("__classdict__" : Str)) = false := by decide) (hasg : ∀ v, assign (.Subscript (.Name x px) (.Constant (.int c) kk pc) ps) X.env v = (do
      let ov ← holding [v] (eval (.Name x px) X.env)
      let iv ← holding [v, ov] (eval (.Constant (.int c) kk pc) X.env)
      standAt ps
      holding [v, ov, iv] (setItem ov iv v)
      release [v, ov, iv] []) := by intro _; rfl)
    (hs : swapsWithSole [.Subscript (.Name x px) (.Constant (.int c) kk pc) ps] e pos.line X.env = pure false := by rfl) (hw : swappedStores [.Subscript (.Name x px) (.Constant (.int c) kk pc) ps] e X.env = pure none := by rfl)
    (h1 : (assignEach [.Subscript (.Name x px) (.Constant (.int c) kk pc) ps] X.env).map (·.2) = [assign (.Subscript (.Name x px) (.Constant (.int c) kk pc) ps) X.env] := by rfl) : DS X B W (.Assign [.Subscript (.Name x px) (.Constant (.int c) kk pc) ps] e pos) (sSrcPut i j fa) := by
  obtain ⟨t, p, s⟩ := ha.ex
  refine ⟨_, ps_asg p (pg_sub (pe_var hN hv hd hcd) pe_int set_list hasg) hs hw h1, fun env S σ F H sa k D h => ?_⟩
  refine s env S σ F H sa k _ ((post_exp k h).imp fun d S1 h1 v F1 H1 k1 g1 r1 => ?_)
  cases q : env[i]? with
  | none => rw [q] at h1; exact h1.elim
  | some o =>
    cases o with
    | none => rw [q] at h1; exact h1.elim
    | some it =>
      cases it with
      | s =>
        rw [q] at h1
        cases d with
        | int z =>
          cases r1.int_inv
          obtain ⟨v, hv1, a, rfl, e2⟩ := k1.sl i _ q
          obtain ⟨e3, e4, _⟩ := k1.so a e2
          refine ⟨.ref a, hv1, a, [.int S1.1, .int S1.2], c, (if j = true then 1 else 0), rfl, rfl, e4, ?_, ?_⟩
          · subst hc
            cases j <;> rfl
          · have ee : ([V.int S1.1, V.int S1.2] : List V).set (if j = true then 1 else 0) (.int z) = [.int (if j = true then (S1.1, z) else (z, S1.2)).1, .int (if j = true then (S1.1, z) else (z, S1.2)).2] := by
              cases j <;> rfl
            rw [ee]
            obtain ⟨k2, g2⟩ := k1.grow (S' := if j = true then (S1.1, z) else (z, S1.2)) (F' := F1) (H' := upd H1 a (.lst [.int (if j = true then (S1.1, z) else (z, S1.2)).1, .int (if j = true then (S1.1, z) else (z, S1.2)).2])) (Same.refl _)
              (fun b u eu => by rw [upd_ne (ne_of_none eu e3)]; exact k1.fh _ _ eu) (fun b o eo hb => by rw [upd_ne (fun zz : b = a => hb (zz ▸ e2))]; exact eo) (fun b _ hb => hb) (fun b hb => by
                rw [e2] at hb
                cases hb
                exact upd_same) k1.ft
            exact h1 σ F1 _ sa k2 g1.ff
        | _ => exact h1.elim
      | l xs => rw [q] at h1; exact h1.elim
      | d x => rw [q] at h1; exact h1.elim
      | sc ns => rw [q] at h1; exact h1.elim
theorem de_scAt (i : Nat) (hK : B.K = X.K) (hb : DE X B W e2 fb) (hN : X.N[i]? = some x := by rfl) (hv : Vis X.env.scope x := by first | exact Or.inl rfl | exact Or.inr (Or.inl rfl) | exact Or.inr (Or.inr rfl)) (hd : (x == ("__debug__" : Str)) = false := by decide)
    (hcd : (x == ("__classdict__" : Str)) = false := by decide) (hs : PlainIx e2 := by exact fun _ _ => rfl) : DE X B W (.Subscript (.Name x px) e2 pos) (eScAt i fb) := by
  obtain ⟨t2, p2, s2⟩ := hb.ex
  refine ⟨_, pe_ix ix_seq (pe_var hN hv hd hcd) p2 hs, fun env S σ F H sa k Q h => ?_⟩
  unfold eScAt at h
  cases q : env[i]? with
  | none => rw [q] at h; exact h.elim
  | some o =>
    cases o with
    | none => rw [q] at h; exact h.elim
    | some it =>
      cases it with
      | sc ns =>
        rw [q] at h
        obtain ⟨v, h1, a, rfl, e2⟩ := k.sl i _ q
        refine ⟨.ref a, h1, s2 env S σ F H sa k _ ((Post.bnd h).imp fun d S1 h2 w F1 H1 k1 g1 r1 => ?_)⟩
        cases d with
        | int z =>
          cases r1.int_inv
          obtain ⟨y, hy, h2⟩ := post_ofO h2
          cases e : L2.atI ns z with
          | none => rw [e] at hy; cases hy
          | some n =>
            rw [e] at hy
            cases hy
            have e2' := Same.seq (g1.ff.trans k1.fh) e2
            rw [hK] at e2'
            refine .inl ⟨a, ns.map V.int, z, .int n, rfl, rfl, e2', ?_, h2 _ F1 H1 k1 g1 (.int _)⟩
            unfold L2.atI at e ⊢
            rw [List.length_map]
            cases e3 : ixN ns.length z with
            | none => rw [e3] at e; cases e
            | some jj =>
              rw [e3] at e
              show (ns.map V.int)[jj]? = some (.int n)
              have e : ns[jj]? = some n := e
              rw [List.getElem?_map, e]
              rfl
        | _ => exact h2.elim
      | l xs => rw [q] at h; exact h.elim
      | d x => rw [q] at h; exact h.elim
      | s => rw [q] at h; exact h.elim
theorem de_scLen (i : Nat) (hK : B.K = X.K) (hm : X.mg "len" = none) (hN : X.N[i]? = some x := by rfl) (hv : Vis X.env.scope x := by first | exact Or.inl rfl | exact Or.inr (Or.inl rfl) | exact Or.inr (Or.inr rfl)) (hd : (x == ("__debug__" : Str)) = false := by decide)
    (hcd : (x == ("__classdict__" : Str)) = false := by decide) (hg : Gl X "len" := by rfl) (he : starEach [.Name x px] X.env = (false, eval (.Name x px) X.env) :: starEach [] X.env := by rfl) (hpl : (backTo pos (starEach [] X.env)).any (·.1) = false := by rfl) :
    DE X B W (.Call (.Name "len" p) [.Name x px] [] pos) (eScLen i) := by
  refine ⟨_, pe_callB call_len hg hm PySem.boot_len (pa_cons (pe_var (pos := px) hN hv hd hcd) pa_nil he) (by decide) (by decide) he hpl, fun env S σ F H sa k Q h => ?_⟩
  unfold eScLen at h
  cases q : env[i]? with
  | none => rw [q] at h; exact h.elim
  | some o =>
    cases o with
    | none => rw [q] at h; exact h.elim
    | some it =>
      cases it with
      | sc ns =>
        rw [q] at h
        obtain ⟨v, h1, a, rfl, e2⟩ := k.sl i _ q
        have e2' := Same.seq k.fh e2
        rw [hK] at e2'
        exact ⟨.ref a, h1, _, ns.length, rfl, .inl ⟨_, e2', by rw [List.length_map]⟩, h _ F H k Gw.refl (.int _)⟩
      | l xs => rw [q] at h; exact h.elim
      | d x => rw [q] at h; exact h.elim
      | s => rw [q] at h; exact h.elim
end
end AU
namespace AU
open PySem PySem.Spec PyProof.Rows L2

/-! ### in, not in; is of truths -/
def memD (x : DD) (ds : List DD) : Bool := (DD.pyA ds).any fun z => PyData.eqv z x.py
def inG (b : Bool) (x y : DD) : M DD := match y with
  | .lst ds => if (eqOk x && eqOk y) = true then ret (.bl (b != memD x ds)) else stk
  | .tup ds => if (eqOk x && eqOk y) = true then ret (.bl (b != memD x ds)) else stk
  | _ => stk
def opIn : DD → DD → M DD := inG false
def opNotIn : DD → DD → M DD := inG true
def rInT (K : PySem.W.Frag) (b : Bool) : R2 := fun x y H Q => ∃ d ds, Dp K H x d ∧ (Dp K H y (.list ds) ∧ SeqAt.shaped (.list ds) = true ∨ Dp K H y (.tuple ds) ∧ SeqAt.shaped (.tuple ds) = true) ∧ SeqAt.shaped d = true ∧ Q (.bl (b != ds.any fun z => PyData.eqv z d)) H
section
variable {B : Bs} {W : WX} {X : Cx} {a b e : Expr} {fa fb : Env → M DD} {pos : Pos}
theorem shaped_lt {ds : List PyData} (h : SeqAt.shaped (.tuple ds) = true) : SeqAt.shaped (.list ds) = true := h
theorem or_in (hu : X.A.units + 65 < cLine) : OpR X (compareOp .In) (rInT X.K false) := by
  intro pins s σ H x y v u Q I rx ry h
  obtain ⟨d, ds, hd, he, sd, q⟩ := h
  rw [Bool.false_bne] at q
  obtain ⟨as, r1⟩ := Dp.reads I d x v hd rx
  rcases he with ⟨he, se⟩ | ⟨he, se⟩
  · obtain ⟨bs, r2⟩ := Dp.reads I (.list ds) y u he ry
    exact SeqAt.in_list_reads r2 r1 (SeqAt.canLay_of_shaped se) (SeqAt.canLay_of_shaped sd) (room_in_shaped sd hu) ⟨.bl _, H, I, rfl, q⟩
  · obtain ⟨bs, r2⟩ := Dp.reads I (.tuple ds) y u he ry
    exact SeqAt.in_tuple_reads r2 r1 (SeqAt.canLay_of_shaped (shaped_lt se)) (SeqAt.canLay_of_shaped sd) (room_in_shaped sd hu) ⟨.bl _, H, I, rfl, q⟩
theorem or_notin (hu : X.A.units + 65 < cLine) : OpR X (compareOp .NotIn) (rInT X.K true) := by
  intro pins s σ H x y v u Q I rx ry h
  obtain ⟨d, ds, hd, he, sd, q⟩ := h
  rw [Bool.true_bne] at q
  obtain ⟨as, r1⟩ := Dp.reads I d x v hd rx
  rcases he with ⟨he, se⟩ | ⟨he, se⟩
  · obtain ⟨bs, r2⟩ := Dp.reads I (.list ds) y u he ry
    exact SeqAt.notIn_list_reads r2 r1 (SeqAt.canLay_of_shaped se) (SeqAt.canLay_of_shaped sd) (room_in_shaped sd hu) ⟨.bl _, H, I, rfl, q⟩
  · obtain ⟨bs, r2⟩ := Dp.reads I (.tuple ds) y u he ry
    exact SeqAt.notIn_tuple_reads r2 r1 (SeqAt.canLay_of_shaped (shaped_lt se)) (SeqAt.canLay_of_shaped sd) (room_in_shaped sd hu) ⟨.bl _, H, I, rfl, q⟩
theorem snd_in {c : Bool} : OpSnd B W (rInT B.K c) (inG c) := by
  intro env S σ F H sa v w x y k rx ry Q h
  have key : ∀ ds, (y = .lst ds ∨ y = .tup ds) → Post (Good B env σ F H sa Q) (Bad B W env σ F H sa) ((if (eqOk x && eqOk y) = true then ret (.bl (c != memD x ds)) else stk) S) → rInT B.K c v w H Q := fun ds hy h => by
    by_cases g : (eqOk x && eqOk y) = true
    · rw [if_pos g] at h
      obtain ⟨g1, g2⟩ := Bool.and_eq_true_iff.mp g
      obtain ⟨p1, s1⟩ := Bool.and_eq_true_iff.mp (show (x.pure && SeqAt.shaped x.py) = true from g1)
      obtain ⟨p2, s2⟩ := Bool.and_eq_true_iff.mp (show (y.pure && SeqAt.shaped y.py) = true from g2)
      have d1 : Dp B.K H v x.py := Rp.dp x p1 (Rp.same k.fh x rx)
      have d2 : Dp B.K H w y.py := Rp.dp y p2 (Rp.same k.fh y ry)
      refine ⟨x.py, DD.pyA ds, d1, ?_, s1, h _ F H k Gw.refl (.bl _)⟩
      rcases hy with rfl | rfl
      · exact .inl ⟨d2, s2⟩
      · exact .inr ⟨d2, s2⟩
    · rw [if_neg g] at h
      exact h.elim
  cases y with
  | lst ds => exact key ds (.inl rfl) h
  | tup ds => exact key ds (.inr rfl) h
  | _ => exact h.elim
theorem de_in {n : Nat} (hK : B.K = X.K) (hr : Room n X.A) (ha : DE X B W a fa) (hb : DE X B W b fb) (hm : behindInMarks .In b = false := by rfl) : DE X B W (.Compare a [.In] [b] pos) (eOp opIn fa fb) := de_cmp (or_in (by have := hr.un; omega)) (hK ▸ snd_in) ha hb hm
theorem de_notin {n : Nat} (hK : B.K = X.K) (hr : Room n X.A) (ha : DE X B W a fa) (hb : DE X B W b fb) (hm : behindInMarks .NotIn b = false := by rfl) : DE X B W (.Compare a [.NotIn] [b] pos) (eOp opNotIn fa fb) := de_cmp (or_notin (by have := hr.un; omega)) (hK ▸ snd_in) ha hb hm
def opIsB : DD → DD → M DD
  | .bl x, .bl y => ret (.bl (decide (x = y)))
  | _, _ => stk
def opIsNotB : DD → DD → M DD
  | .bl x, .bl y => ret (.bl (!decide (x = y)))
  | _, _ => stk
theorem de_isB (ha : DE X B W a fa) (hb : DE X B W b fb) : DE X B W (.Compare a [.Is] [b] pos) (eOp opIsB fa fb) := de_cmp op_is_bl (fun env S σ F H sa v w x y k rx ry Q h => by
  cases x <;> cases y <;> first | exact h.elim | skip
  cases rx.bl_inv
  cases ry.bl_inv
  exact ⟨_, _, rfl, rfl, h _ F H k Gw.refl (.bl _)⟩) ha hb (nomark _)
theorem de_isnotB (ha : DE X B W a fa) (hb : DE X B W b fb) : DE X B W (.Compare a [.IsNot] [b] pos) (eOp opIsNotB fa fb) := de_cmp op_isnot_bl (fun env S σ F H sa v w x y k rx ry Q h => by
  cases x <;> cases y <;> first | exact h.elim | skip
  cases rx.bl_inv
  cases ry.bl_inv
  exact ⟨_, _, rfl, rfl, h _ F H k Gw.refl (.bl _)⟩) ha hb (nomark _)
end

/-! ### a new list by a call; the source anew -/
def nCall (fn : List It → M (List DD)) (as : Env → M (List It)) : Env → M (List DD) := fun env => bnd (as env) fun its => fun S => match its.any isS with
  | true => none
  | false => match fn its (0, 0) with
    | none => none
    | some (r, _) => some (r, S)
def noS (env : Env) : Bool := env.all fun o => match o with
  | some .s => false
  | _ => true
def sSrcNew (i : Nat) (fn : Env → M (List DD)) : SF := thenS fn fun ds env S => match ds with
  | [.int a, .int b] => if noS (env.set i none) = true then some (.nx (env.set i (some .s)) (a, b)) else none
  | _ => none
section
variable {B : Bs} {W : WX} {X : Cx} {e : Expr} {es : List Expr} {fr : Env → M (List It)} {fn : Env → M (List DD)} {pos : Pos}
theorem dn_call {x : Str} {p : Pos} {n kk m : Nat} {fn : List It → M (List DD)} (Fc : FnN X.prog X.w X.K X.mg X.base B.cls x n kk fn) (hr : Room m X.A) (hkm : kk ≤ m) (hK : B.K = X.K) (tk : Takes X W) (ha : DI X B W (e :: es) fr) (hn : (e :: es).length = n := by rfl)
    (hg : Gl X x := by rfl) (hdb : (x == ("__debug__" : Str)) = false := by decide) (he : starEach (e :: es) X.env = (false, eval e X.env) :: starEach es X.env := by rfl) (hpl : (backTo pos (starEach es X.env)).any (·.1) = false := by rfl) :
    DN X B W (.Call (.Name x p) (e :: es) [] pos) (nCall fn fr) := by
  obtain ⟨f, fd, ps, F, hm, hk, hb⟩ := Fc.ex
  obtain ⟨ta, pa, sa, la⟩ := ha.ex
  refine ⟨_, pe_callS F (hr.mono hkm) hg hm hk hb (fun σ => passAt tk σ) pa hdb he hpl, fun env S σ F H sa' k Q h => ?_⟩
  have h2 := Post.bnd h
  refine sa env S σ F H sa' k _ ?_
  cases q : fr env S with
  | none => rw [q] at h2; exact h2.elim
  | some pr =>
    obtain ⟨r, S1⟩ := pr
    rw [q] at h2
    cases r with
    | error x => exact h2
    | ok its =>
      intro vs F1 H1 k1 s1 r1
      have h2 : Post (GoodN B env σ F H sa' Q) (Bad B W env σ F H sa') (match its.any isS with
        | true => none
        | false => match fn its (0, 0) with
          | none => none
          | some (r, _) => some (r, S1)) := h2
      cases hS : its.any isS with
      | true =>
        rw [hS] at h2
        exact h2.elim
      | false =>
        rw [hS] at h2
        simp only at h2
        cases e0 : fn its (0, 0) with
        | none => rw [e0] at h2; exact h2.elim
        | some p =>
          obtain ⟨r, S0⟩ := p
          rw [e0] at h2
          refine ⟨F1, none, (0, 0), its, by rw [r1.length, ← hn]; exact la env S its S1 q, k1.fh, by rw [← hK]; exact r1.pure hS, (fun a e => by cases e), k1.ft, ?_⟩
          rw [e0]
          have gr : ∀ F' H', Grw none S0 F1 H1 F' H' → Ok B env S1 σ F' H' sa' ∧ Gw B sa' F1 H1 F' H' := fun F' H' w =>
            k1.grow w.ff w.fh (fun a o q _ => w.kp a o q (fun z => by cases z)) w.nf (fun a q => w.kp a _ (k1.so a q).2.1 fun z => by cases z) w.ft
          cases r with
          | ok ds => exact fun p ws F' H' w h1 h3 h4 h5 => h2 p ws F' H' (gr F' H' w).1 (s1.trans (gr F' H' w).2) (fun o eo ho => (let ⟨o', e', _⟩ := s1.hh p o eo ho; by rw [h1] at e'; cases e')) h3 h4 (by rw [hK]; exact h5)
          | error x => exact fun F' H' w => (let z := h2 F' H' (gr F' H' w).1 (s1.trans (gr F' H' w).2); by rw [← hK]; exact z)
theorem noS_at {env : Env} {i j : Nat} (h : noS (env.set i none) = true) (e : env[j]? = some (some .s)) : j = i := by
  apply Classical.byContradiction
  intro n
  have e2 : (env.set i none)[j]? = some (some .s) := by rw [List.getElem?_set_ne (Ne.symm n)]; exact e
  have z := List.all_eq_true.mp h _ (List.mem_of_getElem? e2)
  cases z
theorem ds_srcNew (i : Nat) {x : Str} {px : Pos} (h0 : B.sa0 = none) (hN : X.N.Nodup) (he : DN X B W e fn) (hi : X.N[i]? = some x := by rfl) (hx : Loc X.env.scope x := by first | exact Or.inl rfl | exact Or.inr rfl) (hf : X.fn x = true ∨ X.env.scope.names.lookup x = some .local := by first | exact .inl rfl | exact .inr rfl)
    (hs : swapsWithSole [.Name x px] e pos.line X.env = pure false := by rfl) (hw : swappedStores [.Name x px] e X.env = pure none := by rfl)
    (h1 : (assignEach [.Name x px] X.env).map (·.2) = [assign (.Name x px) X.env] := by rfl) : DS X B W (.Assign [.Name x px] e pos) (sSrcNew i fn) := by
  obtain ⟨t, p, s⟩ := he.ex
  refine ⟨_, ps_asg p (pg_name hN hi hx hf) hs hw h1, fun env S σ F H sa k D h => s env S σ F H sa k _ ((post_exp k h).imp fun ds S1 h1 p ws F1 H1 k1 g1 hp fp hp1 r1 => ?_)⟩
  obtain ⟨b0, hs', hd⟩ := k.fresh hp
  match ds, h1, r1 with
  | [.int a, .int b], h1, r1 =>
    cases r1 with
    | cons ra r1 =>
      cases r1 with
      | cons rb r1 =>
        cases r1
        cases ra.int_inv
        cases rb.int_inv
        have h1 : PostS B W D F (if noS (env.set i none) = true then some (.nx (env.set i (some .s)) (a, b)) else none) := h1
        by_cases g : noS (env.set i none) = true
        · rw [if_pos g] at h1
          refine h1 _ F1 H1 (some p) ⟨k1.ff, k1.fh, fun c o e1 _ e3 => k1.hh c o e1 (by rw [h0]; exact fun z => by cases z) e3, k1.nf, k1.tb, .inr h0, fun c e1 => (by cases e1; exact ⟨fp, hp1, .inr b0⟩), (by rw [List.length_set, List.length_set]; exact k1.len), fun j it ej => ?_, fun j1 j2 xs ys c hj e1 e2 h3 => ?_, k1.ft⟩ g1.ff
          · rcases get_set ej with ⟨rfl, z, hl⟩ | ⟨ne, e2⟩
            · cases z
              exact ⟨.ref p, by rw [List.getElem?_set_self (by rw [← k1.len]; exact hl)], p, rfl, rfl⟩
            · obtain ⟨v, h4, h5⟩ := k1.sl j it e2
              refine ⟨v, by rw [List.getElem?_set_ne ne]; exact h4, ?_⟩
              cases it with
              | d y => exact h5
              | l ys =>
                obtain ⟨c, vs, q1, q2, q3, q4, q5, q6⟩ := h5
                subst q1
                refine ⟨c, vs, rfl, q2, q3, fun z => ?_, q5, q6⟩
                cases z
                exact hd j ys e2 h4
              | s => exact absurd (noS_at g e2).symm ne
              | sc ns => exact h5
          · rcases get_set e1 with ⟨_, z, _⟩ | ⟨n1, e1⟩
            · cases z
            · rcases get_set e2 with ⟨_, z, _⟩ | ⟨n2, e2⟩
              · cases z
              · rw [List.getElem?_set_ne n1] at h3
                rw [List.getElem?_set_ne n2]
                exact k1.dj j1 j2 xs ys c hj e1 e2 h3
        · rw [if_neg g] at h1
          exact h1.elim
end
end AU
namespace AU
open PySem PySem.Spec PyProof.Rows L2

/-! ### try with clauses -/
def tSOf (B : Bs) (W : WX) (f : SF) : TS := fun D σ H => ∃ env S F sa, Ok B env S σ F H sa ∧ PostS B W D F (f env S)
theorem DSs.pss {X : Cx} {B : Bs} {W : WX} {ss : List Stmt} {f : SF} (h : DSs X B W ss f) : PSs X ss (tSOf B W f) := by
  obtain ⟨t, p, s⟩ := h.ex
  exact ⟨fun pins st σ H D I ⟨env, S, F, sa, k, q⟩ => p.run pins st σ H D I (s env S σ F H sa k D q)⟩
theorem DS.ps {X : Cx} {B : Bs} {W : WX} {s : Stmt} {f : SF} (h : DS X B W s f) : PS X s (tSOf B W f) := by
  obtain ⟨t, p, s⟩ := h.ex
  exact ⟨fun pins st σ H D I ⟨env, S, F, sa, k, q⟩ => p.run pins st σ H D I (s env S σ F H sa k D q)⟩
def noEx : Option Out → Option Out
  | some (.ex _ _ _) => none
  | o => o
def sTry (nx : Nat) (fb : SF) (cl : List (Nat × SF)) : SF := fun env S => match fb env S with
  | some (.ex x e S') => if x.k < nx then (match cl.lookup x.k with
    | some h => noEx (h e S')
    | none => some (.ex x e S')) else none
  | o => o
theorem postS_noEx {B : Bs} {W W' : WX} {D : Ends} {F : Hp} : ∀ {o : Option Out}, PostS B W D F (noEx o) → PostS B W' D F o
  | none, h => h
  | some (.nx _ _), h => h
  | some (.bk _ _), h => h
  | some (.ct _ _), h => h
  | some (.rt _ _), h => h
  | some (.ex _ _ _), h => h.elim
  | some (.rn _ _), h => h
/-- which class matches which -/
def ExmA (K : PySem.W.Frag) (cls : Nat → Value) (nx : Nat) : Prop := ∀ k k', k < nx → k' < nx → PySem.W.exmOne K (cls k) (cls k') = some (decide (k = k'))
inductive HdsD (X : Cx) (B : Bs) (nx : Nat) : List ExceptHandler → List (Nat × SF) → Prop
  | nil : HdsD X B nx [] []
  | cons {x : Str} {k : Nat} {h : SF} {b₀ : Stmt} {suite : List Stmt} {np pos' : Pos} {hds : List ExceptHandler} {l : List (Nat × SF)} (hk : k < nx) (hc : Names X x (B.cls k))
      (hsu : ∀ (a : Addr) (oe : Obj) (pn : List (Addr × Obj)), DSs (X.suite a ((a, oe) :: pn)) B W0 (b₀ :: suite) h) (r : HdsD X B nx hds l) :
      HdsD X B nx (.ExceptHandler (some (.Name x np)) none (b₀ :: suite) pos' :: hds) ((k, h) :: l)
def clOf (B : Bs) (l : List (Nat × SF)) : List (Value × (Addr → Value → Option Addr → TS)) := l.map fun q => (B.cls q.1, fun _ _ _ => tSOf B W0 q.2)
section
variable {B : Bs} {W : WX} {X : Cx} {nx : Nat} {hds : List ExceptHandler} {h₀ : ExceptHandler} {cl : List (Nat × SF)} {body : List Stmt} {fb : SF} {pos : Pos}
theorem HdsD.ok (h : HdsD X B nx hds cl) : HdsOk X hds (clOf B cl) := by
  induction h with
  | nil => exact .nil
  | cons hk hc hsu r ih => exact .cons hc (fun a oe cls d pn _ _ => (hsu a oe pn).pss) ih
theorem HdsD.lt (h : HdsD X B nx hds cl) : ∀ q ∈ cl, q.1 < nx := by
  induction h with
  | nil => exact fun q hq => by cases hq
  | cons hk hc hsu r ih =>
    intro q hq
    rcases List.mem_cons.mp hq with rfl | hq
    · exact hk
    · exact ih q hq
theorem many_ok {D : Ends} (hx : ExmA B.K B.cls nx) {k : Nat} (hk : k < nx) {d : Option Addr} {e : Env} {S : Sr} {σ : L2.St} {F H : Hp} {sa : Option Addr} (ok : Ok B e S σ F H sa) : ∀ {cl : List (Nat × SF)}, (∀ q ∈ cl, q.1 < nx) →
    (∀ h, cl.lookup k = some h → PostS B W0 D F (h e S)) → (cl.lookup k = none → W (B.cls k) d σ H) → wMany B.K W D (clOf B cl) (B.cls k) d σ H
  | [], _, _, h2 => h2 rfl
  | (k', h') :: cl, hl, h1, h2 => by
    refine ⟨_, hx k k' hk (hl _ List.mem_cons_self), fun e a _ => ?_, fun e => ?_⟩
    · have e := of_decide_eq_true e
      exact ⟨_, S, F, sa, ok, h1 h' (by rw [List.lookup_cons, e]; simp)⟩
    · have e := of_decide_eq_false e
      have el : ((k', h') :: cl).lookup k = cl.lookup k := by
        rw [List.lookup_cons]
        have : (k == k') = false := by simpa using e
        rw [this]
      exact many_ok hx hk ok (fun q hq => hl q (List.mem_cons_of_mem _ hq)) (fun h hh => h1 h (by rw [el]; exact hh)) (fun hh => h2 (by rw [el]; exact hh))
theorem ds_try (hK : B.K = X.K) (hs : X.stack = X.env :: X.outer) (hf : X.env.frame = some X.env.locals) (tk : Takes X W) (hx : ExmA B.K B.cls nx)
    (hb : ∀ (W : WX) (pn : List (Addr × Obj)) (xe : Value → Shared → Prop), Takes (X.tr pn xe) W → PassesOwn (model X.prog X.w) X.A X.env xe → DSs (X.tr pn xe) B W body fb)
    (hh : HdsD X B nx (h₀ :: hds) cl) : DS X B W (.Try body (h₀ :: hds) [] [] pos) (sTry nx fb cl) := by
  refine ⟨_, ps_try_many hs hf tk (fun W pn xe t o => (hb W pn xe t o).pss) hh.ok, fun env S σ F H sa k D h => ⟨env, S, F, sa, k, ?_⟩⟩
  unfold sTry at h
  cases q : fb env S with
  | none => rw [q] at h; exact h.elim
  | some o =>
    rw [q] at h
    cases o with
    | ex x e S' =>
      intro σ' F' H' sa' k' g'
      have h : PostS B W D F (if x.k < nx then (match cl.lookup x.k with
        | some h => noEx (h e S')
        | none => some (.ex x e S')) else none) := h
      by_cases hn : x.k < nx
      · rw [if_pos hn] at h
        have key : ∀ d : Option Addr, (cl.lookup x.k = none → W (B.cls x.k) d σ' H') → wMany X.K W D (clOf B cl) (B.cls x.k) d σ' H' := fun d hd => by
          rw [← hK]
          refine many_ok hx hn k' hh.lt (fun hc e1 => ?_) hd
          rw [e1] at h
          exact (postS_noEx h).of g'
        unfold ExP
        cases ea : x.arg with
        | none =>
          refine key none fun e1 => ?_
          rw [e1] at h
          have z : ExP B W x σ' F' H' := h σ' F' H' sa' k' g'
          unfold ExP at z
          rw [ea] at z
          exact z
        | some p =>
          obtain ⟨fl, d⟩ := p
          refine fun da v h1 h2 h3 => key (some da) fun e1 => ?_
          rw [e1] at h
          have z : ExP B W x σ' F' H' := h σ' F' H' sa' k' g'
          unfold ExP at z
          rw [ea] at z
          exact z da v h1 h2 h3
      · rw [if_neg hn] at h
        exact h.elim
    | nx e S' => exact h
    | rt d S' => exact h
    | bk e S' => exact h
    | ct e S' => exact h
    | rn ds S' => exact h
end

/-! ### a call by a name that holds a def -/
structure HeldC (P : Program) (w : World) (K : PySem.W.Frag) (mg : Str → Option Value) (base : Heap) (cls : Nat → Value) (n k : Nat) (f : Addr) (fn : List It → M DD) : Prop where
  ex : ∃ fd ps, FnOk P w K mg base (L2.CX P w) k f fd ps (spI K cls n fn) ∧ PySem.W.keepIn K (.ref f) = true ∧ L2.Binds K fd ps []
theorem FnC.held {P : Program} {w : World} {K : PySem.W.Frag} {mg : Str → Option Value} {base : Heap} {cls : Nat → Value} {x : Str} {n k : Nat} {fn : List It → M DD} (h : FnC P w K mg base cls x n k fn) {f : Addr} (e : mg x = some (.ref f)) : HeldC P w K mg base cls n k f fn := by
  obtain ⟨f', fd, ps, F, hm, hk, hb⟩ := h.ex
  rw [e] at hm
  cases hm
  exact ⟨fd, ps, F, hk, hb⟩
def eCallL (i : Nat) (tab : Addr → Option (List It → M DD)) (as : Env → M (List It)) : Env → M DD := fun env => match env[i]? with
  | some (some (.d (.raw (.ref f)))) => (match tab f with
    | some fn => eCall fn as env
    | none => stk)
  | _ => stk
section
variable {B : Bs} {W : WX} {X : Cx} {e : Expr} {es : List Expr} {fr : Env → M (List It)} {pos : Pos}
theorem callL_inv {i : Nat} {tab : Addr → Option (List It → M DD)} {as : Env → M (List It)} {env : Env} {S : Sr} {good : DD → Sr → Prop} {bad : Ex → Sr → Prop} (h : Post good bad (eCallL i tab as env S)) :
    ∃ f fn, env[i]? = some (some (.d (.raw (.ref f)))) ∧ tab f = some fn ∧ Post good bad (eCall fn as env S) := by
  unfold eCallL at h
  cases e : env[i]? with
  | none => rw [e] at h; exact h.elim
  | some o =>
    cases o with
    | none => rw [e] at h; exact h.elim
    | some it =>
      cases it with
      | d x =>
        cases x with
        | raw v =>
          cases v with
          | ref f =>
            rw [e] at h
            simp only at h
            cases q : tab f with
            | none => rw [q] at h; exact h.elim
            | some fn => rw [q] at h; exact ⟨f, fn, rfl, q, h⟩
          | _ => rw [e] at h; exact h.elim
        | _ => rw [e] at h; exact h.elim
      | _ => rw [e] at h; exact h.elim
theorem de_callL (i : Nat) {x : Str} {p : Pos} {n kk m : Nat} {tab : Addr → Option (List It → M DD)} (hT : ∀ f fn, tab f = some fn → HeldC X.prog X.w X.K X.mg X.base B.cls n kk f fn) (hr : Room m X.A) (hkm : kk ≤ m) (hK : B.K = X.K) (tk : Takes X W) (hW : ∀ c d σ σ' H, W c d σ H → W c d σ' H) (ha : DI X B W (e :: es) fr) (hn : (e :: es).length = n := by rfl)
    (hN : X.N[i]? = some x := by rfl) (hv : Vis X.env.scope x := by first | exact Or.inl rfl | exact Or.inr (Or.inl rfl) | exact Or.inr (Or.inr rfl)) (hdb : (x == ("__debug__" : Str)) = false := by decide) (hcd : (x == ("__classdict__" : Str)) = false := by decide)
    (he : starEach (e :: es) X.env = (false, eval e X.env) :: starEach es X.env := by rfl) (hpl : (backTo pos (starEach es X.env)).any (·.1) = false := by rfl) :
    DE X B W (.Call (.Name x p) (e :: es) [] pos) (eCallL i tab fr) := by
  obtain ⟨ta, pa, sa, la⟩ := ha.ex
  refine ⟨fun σ H Q => ∃ f fn, σ[i]? = some (some (.ref f)) ∧ tab f = some fn ∧ ta σ H fun vs H1 => spI X.K B.cls n fn (vs ++ []) H1 Q (WE W σ), ⟨fun pins s σ H Q I ⟨f, fn, h1, h2, h3⟩ => ?_⟩, fun env S σ F H sa' k Q h => ?_⟩
  · obtain ⟨fd, ps, F, hk, hb⟩ := (hT f fn h2).ex
    exact (pe_callL (i := i) (E := WE W σ) F (hr.mono hkm) hN hv hk hb .nil (passes_call tk fun c d σ' H z => hW c d σ σ' H z) pa hdb hcd he hpl).run pins s σ H Q I ⟨h1, h3⟩
  · obtain ⟨f, fn, e1, e2, h⟩ := callL_inv h
    obtain ⟨v, h1, r1⟩ := k.sl i _ e1
    have r1 : Rp B.K F v (.raw (.ref f)) := r1
    cases r1.raw_inv
    refine ⟨f, fn, h1, e2, ?_⟩
    have h2 := Post.bnd h
    refine sa env S σ F H sa' k _ ?_
    cases q : fr env S with
    | none => rw [q] at h2; exact h2.elim
    | some pr =>
      obtain ⟨r, S1⟩ := pr
      rw [q] at h2
      cases r with
      | error x => exact h2
      | ok its =>
        intro vs F1 H1 k1 s1 r1
        rw [← hK, List.append_nil]
        exact call_snd (W := W) k1 r1 (by rw [r1.length, ← hn]; exact la env S its S1 q) (h2.same s1)
end

/-! ### a lambda handed to a def that tells its error by a word -/
def eWord (nx : Nat) (cl : List (Nat × Str)) (fb : Env → M DD) : Env → M DD := fun env S => match fb env S with
  | some (.ok _, S') => some (.ok (.str ""), S')
  | some (.error e, S') => if e.k < nx then (match cl.lookup e.k with
    | some w => some (.ok (.str w), S')
    | none => none) else none
  | none => none
def TTw (cls : Nat → Value) (nx : Nat) (cl : List (Nat × Str)) : (XK → Hp → VK → Prop) → Hp → VK → Prop := fun tl H Q =>
  tl (fun c _ H' => ∃ k w, k < nx ∧ c = cls k ∧ cl.lookup k = some w ∧ Q (.str w) H') H fun _ H' => Q (.str "") H'
/-- the clauses: each sets the word -/
inductive HdsW (cls : Nat → Value) (mg : Str → Option Value) (sc : Scope) (nx : Nat) (fx : Str) : List ExceptHandler → List (Nat × Str) → Prop
  | nil : HdsW cls mg sc nx fx [] []
  | cons {x w : Str} {k j : Nat} {np p1 p2 p3 p4 : Pos} {hds : List ExceptHandler} {l : List (Nat × Str)} (hk : k < nx) (hm : mg x = some (cls k)) (hg : sc.names.lookup x = some .globalImplicit) (hd : (x == ("__debug__" : Str)) = false) (r : HdsW cls mg sc nx fx hds l) :
      HdsW cls mg sc nx fx (.ExceptHandler (some (.Name x np)) none [.Assign [.Name fx p1] (.Constant (.str w) j p2) p3] p4 :: hds) ((k, w) :: l)
def clW (cls : Nat → Value) (l : List (Nat × Str)) : List (Value × (Addr → Value → Option Addr → TS)) := l.map fun q => (cls q.1, fun _ _ _ D σ H => D.nx (σ.set 1 (some (.str q.2))) H)
theorem HdsW.lt {cls : Nat → Value} {mg : Str → Option Value} {sc : Scope} {nx : Nat} {fx : Str} {hds : List ExceptHandler} {cl : List (Nat × Str)} (h : HdsW cls mg sc nx fx hds cl) : ∀ q ∈ cl, q.1 < nx := by
  induction h with
  | nil => exact fun q hq => by cases hq
  | cons hk _ _ _ r ih =>
    intro q hq
    rcases List.mem_cons.mp hq with rfl | hq
    · exact hk
    · exact ih q hq
theorem manyW {K : PySem.W.Frag} {cls : Nat → Value} {nx : Nat} (hx : ExmA K cls nx) {k : Nat} (hk : k < nx) {D : Ends} {d : Option Addr} {σ : L2.St} {H : Hp} {w : Str} : ∀ {cl : List (Nat × Str)}, (∀ q ∈ cl, q.1 < nx) → cl.lookup k = some w →
    D.nx (σ.set 1 (some (.str w))) H → wMany K (fun _ _ _ _ => False) D (clW cls cl) (cls k) d σ H
  | [], _, h, _ => by cases h
  | (k', w') :: cl, hl, h1, h2 => by
    refine ⟨_, hx k k' hk (hl _ List.mem_cons_self), fun e a _ => ?_, fun e => ?_⟩
    · have e := of_decide_eq_true e
      rw [List.lookup_cons, e] at h1
      simp only [beq_self_eq_true] at h1
      cases h1
      exact h2
    · have e := of_decide_eq_false e
      refine manyW hx hk (fun q hq => hl q (List.mem_cons_of_mem _ hq)) ?_ h2
      rw [List.lookup_cons] at h1
      have e3 : (k == k') = false := by simpa using e
      rw [e3] at h1
      exact h1
theorem takes_len {X : Cx} {W : WX} (t : Takes X W) : Takes X fun c d σ H => σ.length = X.N.length → W c d σ H := fun u s' ⟨a, B, sI, pins, σ, H, cls, d, e, I, nb, up, sky, na, os, ag, w⟩ =>
  t u s' ⟨a, B, sI, pins, σ, H, cls, d, e, I, nb, up, sky, na, os, ag, w I.len⟩
theorem word_gives {X : Cx} {x a fx q : Str} {Ng : List Str} {sg : Scope} {g : Addr} {cdg : Value} {cls : Nat → Value} {nx j : Nat} {h₀ : ExceptHandler} {hds : List ExceptHandler} {cl : List (Nat × Str)} {p1 p2 p3 p4 p5 p6 p7 p8 p9 : Pos} (hx : ExmA X.K cls nx)
    (hh : HdsW cls X.mg sg nx fx (h₀ :: hds) cl) (hNg : Ng = [a, fx]) (hnd : Ng.Nodup) (hl : sg.names.lookup fx = some .local) (hdb : (fx == ("__debug__" : Str)) = false) (hcd : (fx == ("__classdict__" : Str)) = false) :
    LamX.GivesTo X Ng x sg g cdg [.Assign [.Name fx p1] (.Constant (.str "") j p2) p3, .Try [.Expr (.Call (.Name a p4) [] [] p5) p6] (h₀ :: hds) [] [] p7, .Return (some (.Name fx p8)) p9] a q (TTw cls nx cl) := by
  intro f c' s H Q tl act hc h
  subst hNg
  have hdl : HdsOk (cxOf C8.CX0 X.prog X.w X.K X.mg X.base [a, fx] x sg g cdg X.A X.stack s H C8.E0).nox (h₀ :: hds) (clW cls cl) := by
    clear h
    generalize h₀ :: hds = hs at hh
    induction hh with
    | nil => exact .nil
    | cons hk hm hg hd r ih =>
      refine .cons ⟨hg, hd, .inl hm⟩ (fun a oe cls d pn _ _ => ?_) ih
      exact pss_one (ps_set (i := 1) hnd rfl (Or.inl hl) pe_str)
  refine ⟨_, pss_cons (ps_set (i := 1) hnd rfl (Or.inl hl) pe_str) (pss_cons (ps_try_many (tb := fun W D σ H => ∃ Ech : XK, (∀ cls d σ' H', Ech cls d H' → σ'.length = 2 → W cls d σ' H') ∧ σ = [some (.ref f), some (.str "")] ∧ H c' = some (LamX.CodeO c' q) ∧ tl Ech H fun _ H' => D.nx σ H') (Wout := fun _ _ _ _ => False)
      rfl rfl L2.takes_none5 (fun W pn xe tk _ => ?_) hdl) (pss_one (ps_ret (pe_var (i := 1) rfl (Or.inl hl) hdb hcd)))), ?_⟩
  · refine ⟨fun pins s' σ H' D I h' => ?_⟩
    obtain ⟨Ech, hW, h1, h2, h3⟩ := h'
    exact (pss_one (ps_expr (pos := p6) (act _ pn xe Ech p4 p5 (takes_len tk) hW))).run pins s' σ H' D I ⟨by rw [h1]; rfl, h2, h3⟩
  · refine ⟨fun c _ H' => ∃ k w, k < nx ∧ c = cls k ∧ cl.lookup k = some w ∧ Q (.str w) H', fun c d σ' H' ⟨k, w, h1, h2, h3, h4⟩ hl2 => ?_, rfl, hc, ?_⟩
    · subst h2
      refine manyW hx h1 hh.lt h3 ⟨.str w, ?_, h4⟩
      rw [List.getElem?_set_self (by rw [hl2]; decide)]
    · have e : (fun (_ : V) H' => Q (.str "") H') = fun (_ : V) H' => ({ nx := tRet (tVar 1) { nx := fun _ H' => Q V.non H', rt := Q }, rt := Q } : Ends).nx (List.set (L2.start [a, fx] [V.ref f]) 1 (some (V.str ""))) H' := by
        funext _ H'
        apply propext
        constructor
        · exact fun z => ⟨.str "", rfl, z⟩
        · rintro ⟨v, h1, z⟩
          cases h1
          exact z
      have h' : tl (fun c _ H' => ∃ k w, k < nx ∧ c = cls k ∧ cl.lookup k = some w ∧ Q (.str w) H') H (fun (_ : V) H' => Q (.str "") H') := h
      rw [e] at h'
      exact h'

/-! ### the lambda's body reckons behind more objects -/
section
variable {B : Bs} {env : Env} {S : Sr} {σ : L2.St} {F H H1 : Hp} {sa : Option Addr}
theorem Ok.extN (k : Ok B env S σ F H sa) (hT : B.T ≠ []) (e : LamX.ExtN H H1) (t : LamX.Tabs B.T H1) : Ok B env S σ F H1 sa := by
  have nl : ∀ {xs : List V} (ps : Array Value), (HO.lst xs) ≠ .tbl ps := fun ps z => by cases z
  have nk : ∀ {o : HO}, Kp B o → ∀ ps, o ≠ .tbl ps := fun h => h.resolve_left hT
  refine ⟨k.ff, fun a o q => e a o (k.fh a o q) fun ps z => k.ft a ps (z ▸ q), fun a o q h1 h2 => e a o (k.hh a o q h1 h2) (nk h2), k.nf, t, k.sa0, fun a q => ?_, k.len, fun i it q => ?_, k.dj, k.ft⟩
  · obtain ⟨h1, h2, h3⟩ := k.so a q
    exact ⟨h1, e _ _ h2 nl, h3⟩
  · obtain ⟨v, h1, h2⟩ := k.sl i it q
    refine ⟨v, h1, ?_⟩
    cases it with
    | d x => exact h2
    | l xs =>
      obtain ⟨a, vs, e1, e2, e3, e4, e5, e6⟩ := h2
      exact ⟨a, vs, e1, e2, e3, e4, e _ _ e5 nl, e6⟩
    | s => exact h2
    | sc ns => exact h2
theorem Gw.extN (hT : B.T ≠ []) (e : LamX.ExtN H H1) : Gw B sa F H F H1 :=
  ⟨Same.refl F, fun a o q _ h => e a o q (h.resolve_left hT), fun a o _ _ h => h, fun a o q h => ⟨o, e a o q (h.resolve_left hT), h⟩⟩
end
theorem takes_lam {X : Cx} {A : Around} {outer : List PySem.Env} {s : Shared} {H : Hp} {E : XK} {scope : Scope} {f c' : Addr} : Takes (LamX.lamCx X A outer s H E scope f c') (WD E) := takes_of rfl rfl rfl rfl
section
variable {B : Bs} {W : WX} {X : Cx}
theorem de_word {x a : Str} {g c P : Addr} {k nx : Nat} {pg : Arguments} {bg : List Stmt} {sg : Scope} {dV kV doc pm cdv ct oc : Value} {an od : Option Addr} {osl : Array (Option Value)} {Ng : List Str} {cl : List (Nat × Str)} {fb : Env → M DD}
    {params : Arguments} {body : Expr} {scope : Scope} {p lpos pos : Pos} (hm : X.mg x = some (.ref g)) (hk : PySem.W.keepIn X.K (.ref g) = true)
    (lk : X.K.lookup g = some ⟨oc, od, .func (PySem.W.fnOf x x pg bg sg dV kV doc pm an cdv ct), osl⟩) (hcg : PySem.W.codeIn X.K cdv x = true) (hb : L2.Binds X.K (PySem.W.fnOf x x pg bg sg dV kV doc pm an cdv ct) [a] []) (Sg : FnScope Ng [a] sg) (hNg : Ng[0]? = some a) (hva : Vis sg a)
    (hG : LamX.GivesTo X Ng x sg g cdv bg a (X.env.qual ++ "<lambda>") (TTw B.cls nx cl)) (TB : LamX.TabB X.base X.mg c P) (hcode : X.env.code = .ref c) (hT : B.T = [(P, X.env.qual ++ "<lambda>")]) (hr : Room (k + 2) X.A)
    (hbody : ∀ (A : Around) (outer : List PySem.Env) (s : Shared) (H : Hp) (E : XK) (f c' : Addr), Room k (A.deeper (LamX.lamEnv X scope s.heap.objs.size f c')) → DE (LamX.lamCx X A outer s H E scope f c') B (WD E) body fb)
    (L : LamX.LamS X.env.scope scope) (hdef : defaultsOf params X.env = ([], []) := by rfl) (hbind : ∀ (q : Str) (cl : List (Str × Addr)) (pm cv ctv : Value), bindArgs (PySem.W.kla_fn "<lambda>" q params body scope cl pm cv ctv) ⟨[], []⟩ = pure [] := by intro _ _ _ _ _; rfl)
    (hg : Gl X x := by rfl) (hdb : (x == ("__debug__" : Str)) = false := by decide) (hd : (a == ("__debug__" : Str)) = false := by decide) (hcd : (a == ("__classdict__" : Str)) = false := by decide) :
    DE X B W (.Call (.Name x p) [.Lambda params body scope lpos] [] pos) (eWord nx cl fb) := by
  have hTn : B.T ≠ [] := by rw [hT]; simp
  refine ⟨_, LamX.pe_lamcall (t := fun E => tOf B (WD E) fb) hg hm hk lk hcg hb Sg hNg hva hG TB hcode (T := B.T) (by rw [hT]; exact List.mem_singleton_self _) (fun q hq _ => by rw [hT] at hq; rw [List.mem_singleton.mp hq]) hr L hdef hbind (fun A outer s H E f c' hr' => (hbody A outer s H E f c' hr').pe) hdb hd hcd, fun env S σ F H sa kk Q h => ?_⟩
  refine ⟨kk.tb, fun H1 eN T1 => ?_⟩
  have k1 := kk.extN hTn eN T1
  have g1 : Gw B sa F H F H1 := Gw.extN hTn eN
  refine ⟨env, S, F, sa, k1, ?_⟩
  unfold eWord at h
  cases q : fb env S with
  | none => rw [q] at h; exact h.elim
  | some pr =>
    obtain ⟨r, S'⟩ := pr
    rw [q] at h
    cases r with
    | ok d => exact fun v F' H' k' g' r' => h _ F' H' k' (g1.trans g') (.str _)
    | error e =>
      have h : Post (Good B env σ F H sa Q) (Bad B W env σ F H sa) (if e.k < nx then (match cl.lookup e.k with
        | some w => some (.ok (.str w), S')
        | none => none) else none) := h
      by_cases hn : e.k < nx
      · rw [if_pos hn] at h
        cases q2 : cl.lookup e.k with
        | none => rw [q2] at h; exact h.elim
        | some w =>
          rw [q2] at h
          intro F' H' k' g'
          have z : ∃ k w, k < nx ∧ B.cls e.k = B.cls k ∧ cl.lookup k = some w ∧ Q (.str w) H' := ⟨e.k, w, hn, rfl, q2, h _ F' H' k' (g1.trans g') (.str _)⟩
          unfold ExP
          cases e.arg with
          | none => exact z
          | some p => exact fun _ _ _ _ _ => z
      · rw [if_neg hn] at h
        exact h.elim
end
end AU
namespace AU
open PySem PySem.Spec PyProof.Rows L2

section
variable {B : Bs} {W : WX} {X : Cx} {e tg iter : Expr} {ft : Env → M Bool} {fi : Env → M (List DD)} {fg : Env → DD → Option Env} {js : List Nat} {pos : Pos}
/-- x = [.. for ..] on one line, x a local -/
theorem ds_setLc (i : Nat) {y : Str} {py spos : Pos} {elt : Expr} {ifs : List Expr} {scope : Scope} {own : List (Str × Nat)} {fe : Env → M DD} (hc : X.calm = true) (hN : X.N.Nodup) (hi : DJ X B W tg iter fi) (ok : BlkOk X.N X.env.scope scope own)
    (hg : ∀ (s : Shared) (H : Hp) (C : Addr) (cl : List (Str × Addr)) (fp : List Addr), DG (X.blk s H scope (compEnvC scope cl C X.env) fp) B tg fg js)
    (ht : ∀ (s : Shared) (H : Hp) (C : Addr) (cl : List (Str × Addr)) (fp : List Addr), DTs (X.blk s H scope (compEnvC scope cl C X.env) fp) B W0 ifs ft)
    (he : ∀ (s : Shared) (H : Hp) (C : Addr) (cl : List (Str × Addr)) (fp : List Addr), DE (X.blk s H scope (compEnvC scope cl C X.env) fp) B W0 elt fe)
    (hjs : ∀ j ∈ js, j ∈ own.map (·.2) := by decide) (hs : ∀ x, foldedSetIterable iter X.env x = pure x := by intro _; rfl)
    (hy : X.N[i]? = some y := by rfl) (hyl : X.env.scope.names.lookup y = some .local := by rfl) (hsw : swapsWith (.ListComp elt [⟨tg, iter, ifs, 0⟩] scope pos) (some (.Name y py)) spos.line X.env = pure true := by rfl) :
    DS X B W (.Assign [.Name y py] (.ListComp elt [⟨tg, iter, ifs, 0⟩] scope pos) spos) (sAsg (eLc (own.map (·.2)) fi fg ft fe) (gN i)) := by
  obtain ⟨wi, pi, si⟩ := hi.ex
  refine ⟨_, ps_setLc hc hN hy hyl hsw pi ok (fun s H C cl fp => (hg s H C cl fp).pg) (fun s H C cl fp => (ht s H C cl fp).pts) (fun s H C cl fp => (he s H C cl fp).pe) hs, fun env S σ F H sa k D h => ?_⟩
  refine snd_lc si sndOfG sndOfT sndOf hjs env S σ F H sa k _ ((post_exp k h).imp fun d S1 h1 v F1 H1 k1 g1 r1 => ?_)
  exact sndG_name i env S1 σ F1 H1 sa v d _ k1 r1 rfl _ fun σ2 k2 _ _ => h1 σ2 F1 H1 sa k2 g1.ff
def eNeg (f : Env → M DD) : Env → M DD := fun env => bnd (f env) fun x => match x with | .int i => ret (.int (-i)) | _ => stk
theorem de_ng {a : Expr} {fa : Env → M DD} (ha : DE X B W a fa) : DE X B W (.UnaryOp .USub a pos) (eNeg fa) := de_neg (j := 0) ha
def minI (i j : Int) : Int := if j < i then j else i
def maxI (i j : Int) : Int := if j > i then j else i
theorem de_mn {e e2 : Expr} {fr : Env → M (List DD)} {p : Pos} (hc : X.calm = true) (hm : X.mg "min" = none) (ha : DA X B W [e, e2] fr) (hg : Gl X "min" := by rfl)
    (he : starEach [e, e2] X.env = (false, eval e X.env) :: starEach [e2] X.env := by rfl) (hpl : (backTo pos (starEach [e2] X.env)).any (·.1) = false := by rfl) : DE X B W (.Call (.Name "min" p) [e, e2] [] pos) (eB (b2I minI) fr) := de_min hc hm ha hg he hpl
theorem de_mx {e e2 : Expr} {fr : Env → M (List DD)} {p : Pos} (hc : X.calm = true) (hm : X.mg "max" = none) (ha : DA X B W [e, e2] fr) (hg : Gl X "max" := by rfl)
    (he : starEach [e, e2] X.env = (false, eval e X.env) :: starEach [e2] X.env := by rfl) (hpl : (backTo pos (starEach [e2] X.env)).any (·.1) = false := by rfl) : DE X B W (.Call (.Name "max" p) [e, e2] [] pos) (eB (b2I maxI) fr) := de_max hc hm ha hg he hpl
theorem sndT_val {te : TE} {fa : Env → M DD} (s : SndE B W te fa) : SndT B W (tTest te) (tV fa) := fun env S σ F H sa k Q hq => s env S σ F H sa k _ ((Post.bnd hq).imp fun x S1 h1 v F1 H1 k1 e1 r1 => by
  cases x with
  | bl i =>
    cases r1.bl_inv
    exact ⟨i, rfl, h1 F1 H1 k1 e1⟩
  | _ => exact h1.elim)
section
variable {a b c : Expr} {fa fb fc : Env → M DD}
theorem dt_cmp {r : R2} {op : CmpOp} {f : DD → DD → M DD} (ho : OpR X (compareOp op) r) (hs : OpSnd B W r f) (ha : DE X B W a fa) (hb : DE X B W b fb) (hm : behindInMarks op b = false := by first | exact nomark _ | rfl) : DT X B W (.Compare a [op] [b] pos) (tV (eOp f fa fb)) := by
  obtain ⟨ta, pa, sa⟩ := ha.ex
  obtain ⟨tb, pb, sb⟩ := hb.ex
  exact ⟨_, pt_cmpR ho pa pb hm, sndT_val (sndE_op hs sa sb)⟩
theorem dt_lt (ha : DE X B W a fa) (hb : DE X B W b fb) : DT X B W (.Compare a [.Lt] [b] pos) (tV (eOp opLt fa fb)) := dt_cmp op_lt (snd_I0 fun _ _ _ => .bl _) ha hb (nomark _)
theorem dt_le (ha : DE X B W a fa) (hb : DE X B W b fb) : DT X B W (.Compare a [.LtE] [b] pos) (tV (eOp opLe fa fb)) := dt_cmp op_le (snd_I0 fun _ _ _ => .bl _) ha hb (nomark _)
theorem dt_gt (ha : DE X B W a fa) (hb : DE X B W b fb) : DT X B W (.Compare a [.Gt] [b] pos) (tV (eOp opGt fa fb)) := dt_cmp op_gt (snd_I0 fun _ _ _ => .bl _) ha hb (nomark _)
theorem dt_ge (ha : DE X B W a fa) (hb : DE X B W b fb) : DT X B W (.Compare a [.GtE] [b] pos) (tV (eOp opGe fa fb)) := dt_cmp op_ge (snd_I0 fun _ _ _ => .bl _) ha hb (nomark _)
theorem dt_eq {n : Nat} (hK : B.K = X.K) (hr : Room n X.A) (ha : DE X B W a fa) (hb : DE X B W b fb) : DT X B W (.Compare a [.Eq] [b] pos) (tV (eOp opEq fa fb)) := dt_cmp (op_eqD hr.units) (hK ▸ snd_eq) ha hb (nomark _)
theorem dt_ne {n : Nat} (hK : B.K = X.K) (hr : Room n X.A) (ha : DE X B W a fa) (hb : DE X B W b fb) : DT X B W (.Compare a [.NotEq] [b] pos) (tV (eOp opNe fa fb)) := dt_cmp (op_neD hr.units) (hK ▸ snd_ne) ha hb (nomark _)
theorem dt_isN (ha : DE X B W a fa) (hb : DE X B W b fb) : DT X B W (.Compare a [.Is] [b] pos) (tV (eOp opIs fa fb)) := dt_cmp op_isN snd_is ha hb (nomark _)
theorem dt_notN (ha : DE X B W a fa) (hb : DE X B W b fb) : DT X B W (.Compare a [.IsNot] [b] pos) (tV (eOp opIsNot fa fb)) := dt_cmp op_notN snd_isnot ha hb (nomark _)
theorem dt_in {n : Nat} (hK : B.K = X.K) (hr : Room n X.A) (ha : DE X B W a fa) (hb : DE X B W b fb) (hm : behindInMarks .In b = false := by rfl) : DT X B W (.Compare a [.In] [b] pos) (tV (eOp opIn fa fb)) := dt_cmp (or_in (by have := hr.un; omega)) (hK ▸ snd_in) ha hb hm
theorem dt_notin {n : Nat} (hK : B.K = X.K) (hr : Room n X.A) (ha : DE X B W a fa) (hb : DE X B W b fb) (hm : behindInMarks .NotIn b = false := by rfl) : DT X B W (.Compare a [.NotIn] [b] pos) (tV (eOp opNotIn fa fb)) := dt_cmp (or_notin (by have := hr.un; omega)) (hK ▸ snd_in) ha hb hm
theorem dt_isB (ha : DE X B W a fa) (hb : DE X B W b fb) : DT X B W (.Compare a [.Is] [b] pos) (tV (eOp opIsB fa fb)) := dt_cmp op_is_bl (fun env S σ F H sa v w x y k rx ry Q h => by
  cases x <;> cases y <;> first | exact h.elim | skip
  cases rx.bl_inv
  cases ry.bl_inv
  exact ⟨_, _, rfl, rfl, h _ F H k Gw.refl (.bl _)⟩) ha hb (nomark _)
theorem dt_isnotB (ha : DE X B W a fa) (hb : DE X B W b fb) : DT X B W (.Compare a [.IsNot] [b] pos) (tV (eOp opIsNotB fa fb)) := dt_cmp op_isnot_bl (fun env S σ F H sa v w x y k rx ry Q h => by
  cases x <;> cases y <;> first | exact h.elim | skip
  cases rx.bl_inv
  cases ry.bl_inv
  exact ⟨_, _, rfl, rfl, h _ F H k Gw.refl (.bl _)⟩) ha hb (nomark _)
theorem dt_chain {op op' : CmpOp} {r r' : R2} {g g' : DD → DD → M DD} (ho : OpR X (compareOp op) r) (ho' : OpR X (compareOp op') r') (hs : OpSnd B W r g) (hs' : OpSnd B W r' g') (ha : DE X B W a fa) (hb : DE X B W b fb) (hc : DE X B W c fc)
    (hm : lastMarks [op, op'] [b, c] = false := by with_unfolding_all rfl) : DT X B W (.Compare a [op, op'] [b, c] pos) (tV (eChain g g' fa fb fc)) := by
  obtain ⟨t, p, s⟩ := ha.ex
  obtain ⟨t1, p1, s1⟩ := hb.ex
  obtain ⟨t2, p2, s2⟩ := hc.ex
  refine ⟨_, pt_chain ho ho' p p1 p2 hm, sndT_val fun env S σ F H sa k Q hq => s env S σ F H sa k _ ((Post.bnd hq).imp fun x S1 h1 v F1 H1 k1 e1 r1 => ?_)⟩
  refine s1 env S1 σ F1 H1 sa k1 _ ((Post.bnd (h1.same e1)).imp fun y S2 h2 w F2 H2 k2 e2 r2 => ?_)
  refine hs env S2 σ F2 H2 sa v w x y k2 (Rp.same e2.ff x r1) r2 _ ((Post.bnd (h2.same e2)).imp fun z S3 h3 u F3 H3 k3 e3 r3 => ?_)
  cases z with
  | bl z =>
    cases r3.bl_inv
    cases z with
    | true =>
      refine ⟨true, rfl, iteT (s2 env S3 σ F3 H3 sa k3 _ ((Post.bnd (Post.same e3 h3)).imp fun q S4 h4 u4 F4 H4 k4 e4 r4 => ?_))⟩
      exact hs' env S4 σ F4 H4 sa w u4 y q k4 (Rp.same (e3.trans e4).ff y r2) r4 Q (Post.same e4 h4)
    | false => exact ⟨false, rfl, iteF (h3 _ F3 H3 k3 e3 (.bl _))⟩
  | _ => exact h3.elim
theorem dt_lele (ha : DE X B W a fa) (hb : DE X B W b fb) (hc : DE X B W c fc) : DT X B W (.Compare a [.LtE, .LtE] [b, c] pos) (tV (eChain opLe opLe fa fb fc)) :=
  dt_chain op_le op_le (snd_I0 fun _ _ _ => .bl _) (snd_I0 fun _ _ _ => .bl _) ha hb hc (show lastMarks [CmpOp.LtE, CmpOp.LtE] [b, c] = false from nomark (op := .LtE) c)
end
/-! ### names of the module -/
theorem de_globI {x : Str} {i : Int} (h : ∃ t, X.mg x = some (.int i t)) (hg : Gl X x := by rfl) (hd : (x == ("__debug__" : Str)) = false := by decide) : DE X B W (.Name x pos) (eC (.int i)) := by
  obtain ⟨t, e⟩ := h
  exact de_glob (v := .int i) e ⟨t, rfl⟩ (fun _ => .int _) hg hd
theorem de_globS {x z : Str} (h : ∃ t, X.mg x = some (.str z t)) (hg : Gl X x := by rfl) (hd : (x == ("__debug__" : Str)) = false := by decide) : DE X B W (.Name x pos) (eC (.str z)) := by
  obtain ⟨t, e⟩ := h
  exact de_glob (v := .str z) e ⟨t, rfl⟩ (fun _ => .str _) hg hd
/-- a tuple of the module -/
structure GloT (K : PySem.W.Frag) (mg : Str → Option Value) (x : Str) (d : DD) : Prop where
  ex : ∃ a, mg x = some (.ref a) ∧ ∀ F, Rp K F (.ref a) d
theorem de_globT {x : Str} {d : DD} (h : GloT B.K X.mg x d) (hg : Gl X x := by rfl) (hd : (x == ("__debug__" : Str)) = false := by decide) : DE X B W (.Name x pos) (eC d) := by
  obtain ⟨a, e, r⟩ := h.ex
  exact de_glob (v := .ref a) e rfl r hg hd
theorem de_globF {x : Str} {f : Addr} (h : X.mg x = some (.ref f)) (hg : Gl X x := by rfl) (hd : (x == ("__debug__" : Str)) = false := by decide) : DE X B W (.Name x pos) (eC (.raw (.ref f))) := de_glob (v := .ref f) h rfl (fun _ => .raw _) hg hd
end
theorem rp_strs {K : PySem.W.Frag} {F : Hp} : ∀ (xs : List Str), RpA K F (xs.map V.str) (xs.map DD.str)
  | [] => .nil
  | x :: xs => .cons (.str x) (rp_strs xs)
theorem gloT_strs {K : PySem.W.Frag} {mg : Str → Option Value} {x : Str} {xs : List Str} (hm : mg x = some (.ref (He.ga K x))) (h : He.tupB K x (xs.map He.Dv.str) = true) : GloT K mg x (.tup (xs.map DD.str)) := by
  refine ⟨_, hm, fun F => .tup (He.tupB_ok h F) ?_⟩
  rw [List.map_map]
  exact rp_strs xs
/-! ### the classes of errors -/
def clsOf (K : PySem.W.Frag) (names : List Str) (k : Nat) : Value := .ref (He.ga K (names.getD k ""))
def exmB (K : PySem.W.Frag) (names : List Str) : Bool := (List.range names.length).all fun i => (List.range names.length).all fun j => decide (PySem.W.exmOne K (clsOf K names i) (clsOf K names j) = some (decide (i = j)))
theorem exmB_ok {K : PySem.W.Frag} {names : List Str} (h : exmB K names = true) : ExmA K (clsOf K names) names.length := fun i j hi hj => by
  have h1 := List.all_eq_true.mp h i (List.mem_range.mpr hi)
  have h2 := List.all_eq_true.mp h1 j (List.mem_range.mpr hj)
  exact of_decide_eq_true h2
theorem excC_of {K : PySem.W.Frag} {mg : Str → Option Value} {names : List Str} {x : Str} {k : Nat} (hk : names.getD k "" = x) (hm : mg x = some (.ref (He.ga K x))) (h : (He.Fa.exc x).ok K = true) : ExC K mg (clsOf K names) x k := by
  obtain ⟨h1, h2, h3, h4⟩ := He.exc_ok h
  exact ⟨_, by unfold clsOf; rw [hk], h1, hm, h2, h3, h4⟩
end AU
namespace AU
open PySem PySem.Spec PyProof.Rows L2

section
variable {B : Bs} {W : WX} {X : Cx}
theorem de_wordF {x a : Str} {st : Stmt} {g c P : Addr} {fd : FuncData} {k nx : Nat} {Ng : List Str} {cl : List (Nat × Str)} {fb : Env → M DD} {params : Arguments} {body : Expr} {scope : Scope} {p lpos pos : Pos}
    (F : Fun X.K x x st g fd) (hm : X.mg x = some (.ref g)) (hb : L2.Binds X.K fd [a] []) (Sg : FnScope Ng [a] (defScope st)) (hNg : Ng[0]? = some a) (hva : Vis (defScope st) a)
    (hG : ∀ cdv, LamX.GivesTo X Ng x (defScope st) g cdv (defBody st) a (X.env.qual ++ "<lambda>") (TTw B.cls nx cl)) (TB : LamX.TabB X.base X.mg c P) (hcode : X.env.code = .ref c) (hT : B.T = [(P, X.env.qual ++ "<lambda>")]) (hr : Room (k + 2) X.A)
    (hbody : ∀ (A : Around) (outer : List PySem.Env) (s : Shared) (H : Hp) (E : XK) (f c' : Addr), Room k (A.deeper (LamX.lamEnv X scope s.heap.objs.size f c')) → DE (LamX.lamCx X A outer s H E scope f c') B (WD E) body fb)
    (L : LamX.LamS X.env.scope scope) (hdef : defaultsOf params X.env = ([], []) := by rfl) (hbind : ∀ (q : Str) (cl : List (Str × Addr)) (pm cv ctv : Value), bindArgs (PySem.W.kla_fn "<lambda>" q params body scope cl pm cv ctv) ⟨[], []⟩ = pure [] := by intro _ _ _ _ _; rfl)
    (hg : Gl X x := by rfl) (hdb : (x == ("__debug__" : Str)) = false := by decide) (hd : (a == ("__debug__" : Str)) = false := by decide) (hcd : (a == ("__classdict__" : Str)) = false := by decide) :
    DE X B W (.Call (.Name x p) [.Lambda params body scope lpos] [] pos) (eWord nx cl fb) := by
  obtain ⟨oc, od, kV, doc, pm, an, cdv, ct, osl, rfl, lk, hcd'⟩ := F.ex
  exact de_word hm F.kp lk hcd' hb Sg hNg hva (hG cdv) TB hcode hT hr hbody L hdef hbind hg hdb hd hcd
end
/-- what is laid down at first: all but tables -/
def noT (H : Hp) : Hp := fun a => match H a with
  | some (.tbl _) => none
  | o => o
theorem noT_some {H : Hp} {a : Addr} {o : HO} (h : noT H a = some o) : H a = some o ∧ ∀ ps, o ≠ .tbl ps := by
  unfold noT at h
  split at h
  · cases h
  · rename_i h1
    exact ⟨h, fun ps z => h1 ps (by rw [h, z])⟩
theorem noT_of {H : Hp} {a : Addr} {o : HO} (h : H a = some o) (n : ∀ ps, o ≠ .tbl ps) : noT H a = some o := by
  unfold noT
  split
  · rename_i ps e
    rw [h] at e
    exact absurd (Option.some.inj e) (n ps)
  · exact h
theorem noT_seq {K : PySem.W.Frag} {H : Hp} {a : Addr} {xs : List V} (h : SqL K H a xs) : SqL K (noT H) a xs := by
  rcases h with (h | ⟨o, h⟩) | h
  · exact .inl (.inl (noT_of h fun ps z => by cases z))
  · exact .inl (.inr ⟨o, noT_of h fun ps z => by cases z⟩)
  · exact .inr h
def spL (K : PySem.W.Frag) (T : List (Addr × Str)) : Sp := fun vs H Q _ => ∃ (a : Addr) (ns : List Int), vs = [.ref a] ∧ (∀ p ∈ T, H p.1 = some (.tbl #[])) ∧ SqL K H a (ns.map V.int) ∧ ns.length ≤ 63 ∧ (∀ z ∈ ns, Builtin.Int.intBits z ≤ 1048576) ∧ ∀ H', Q (.bl true) H'
def lamQ : Str := (envOfC "law" ⟨.function, [], false, false, []⟩ 0 0 .none).qual ++ "<lambda>"
section
variable {P : Program} {w : World} {K : PySem.W.Frag} {mg : Str → Option Value} {base : Heap} {cls : Nat → Value}
abbrev BL (K : PySem.W.Frag) (T : List (Addr × Str)) (cls : Nat → Value) : Bs := ⟨K, fun _ => none, fun _ => none, none, T, cls⟩
theorem ok_first {N : List Str} {T : List (Addr × Str)} {a : Addr} {ns : List Int} {H : Hp} {S : Sr} (ha : SqL K H a (ns.map V.int)) (hT : ∀ p ∈ T, H p.1 = some (.tbl #[])) : Ok (BL K T cls) (env0 N.length [.sc ns]) S (L2.start N [.ref a]) (noT H) H none := by
  have get0 : ∀ {i : Nat} {it : It}, (env0 N.length [.sc ns])[i]? = some (some it) → i = 0 ∧ it = .sc ns := fun {i it} e => by
    unfold env0 at e
    cases i with
    | zero =>
      cases e
      exact ⟨rfl, rfl⟩
    | succ i =>
      have e : (List.replicate (N.length - 1) (none : Option It))[i]? = some (some it) := e
      rw [List.getElem?_replicate] at e
      split at e <;> cases e
  refine ⟨fun b u e => (by cases e), fun b u e => (noT_some e).1, fun b u e => (by cases e), fun b u e => (by cases e), fun p hp => .nil (hT p hp), .inl rfl, fun b e => (by cases e), ?_, fun i it e => ?_, fun i j xs ys b _ h2 => ?_, fun b ps e => (noT_some e).2 ps rfl⟩
  · unfold env0 L2.start
    simp
  · obtain ⟨rfl, rfl⟩ := get0 e
    exact ⟨.ref a, rfl, a, rfl, noT_seq ha⟩
  · cases (get0 h2).2
theorem law_of {st : Stmt} {fd : FuncData} {f : Addr} {N : List Str} {sx : Str} {k : Nat} {T : List (Addr × Str)} {fl : SF} (F : Fun K "law" "law" st f fd) (S : FnScope N [sx] (defScope st))
    (body : ∀ (cdv : Value) (A : Around) (outer : List PySem.Env) (s : Shared) (H : Hp) (E : XK), (∃ (oc : Value) (od : Option Addr) (osl : Array (Option Value)), K.lookup f = some ⟨oc, od, .func fd, osl⟩ ∧ fd.code = cdv ∧ PySem.W.codeIn K cdv "law" = true) →
      Room k (A.deeper (envOfC "law" (defScope st) s.heap.objs.size f cdv)) → DSs (cxOf (L2.CX P w) P w K mg base N "law" (defScope st) f cdv A outer s H E) (BL K T cls) (WD E) (defBody st) fl)
    (tr : ∀ ns : List Int, ns.length ≤ 63 → (∀ z ∈ ns, Builtin.Int.intBits z ≤ 1048576) → ∃ S', fl (env0 N.length [.sc ns]) (0, 0) = some (.rt (.bl true) S')) : FnOk P w K mg base (L2.CX P w) (k + 1) f fd [sx] (spL K T) := by
  obtain ⟨oc, od, kV, doc, pm, an, cdv, ct, osl, rfl, lk, hcd⟩ := F.ex
  refine fn_of lk hcd S (fun vs H Q E h => ?_) fun A outer s H vs Q E hr h => ?_
  · obtain ⟨_, _, rfl, _⟩ := h
    rfl
  · obtain ⟨a, ns, rfl, hT, hS, hl, hb, hQ⟩ := h
    obtain ⟨t, pp, ss⟩ := (body cdv A outer s H E ⟨oc, od, osl, lk, rfl, hcd⟩ hr).ex
    refine ⟨t, pp, ss (env0 N.length [.sc ns]) (0, 0) _ (noT H) H none (ok_first hS hT) _ ?_⟩
    obtain ⟨S', e⟩ := tr ns hl hb
    rw [e]
    intro en σ v F' H' sa k' g' r'
    cases r'.bl_inv
    exact hQ H'
end
end AU
namespace AU
open PySem PySem.Spec PyProof.Rows L2

/-! ### to reckon the mirrors out -/
section
variable {α β : Type}
@[simp] theorem bnd_app (m : M α) (k : α → M β) (S : Sr) : bnd m k S = (match m S with
  | none => none
  | some (.ok x, S') => k x S'
  | some (.error e, S') => some (.error e, S')) := rfl
@[simp] theorem ret_app (x : α) (S : Sr) : (ret x : M α) S = some (.ok x, S) := rfl
@[simp] theorem stk_app (S : Sr) : (stk : M α) S = none := rfl
@[simp] theorem thenS_app (m : Env → M α) (k : α → Env → Sr → Option Out) (env : Env) (S : Sr) : thenS m k env S = (match m env S with
  | none => none
  | some (.ok x, S') => k x env S'
  | some (.error e, S') => some (.ex e env S')) := rfl
@[simp] theorem ne_app (m : M α) (S : Sr) : ne m S = (match m S with
  | some (.ok x, S') => some (.ok x, S')
  | _ => none) := rfl
@[simp] theorem ofO_some (x : α) : (ofO (some x) : M α) = ret x := rfl
end
section
variable (env : Env) (S : Sr)
@[simp] theorem eVar_app (i : Nat) : eVar i env = (match env[i]? with
  | some (some (.d x)) => ret x
  | _ => stk) := rfl
@[simp] theorem eC_app (d : DD) : eC d env = ret d := rfl
@[simp] theorem eOp_app (op : DD → DD → M DD) (a b : Env → M DD) : eOp op a b env = bnd (a env) fun x => bnd (b env) fun y => op x y := rfl
@[simp] theorem aNil_app : aNil env = ret [] := rfl
@[simp] theorem aCons_app (f : Env → M DD) (r : Env → M (List DD)) : aCons f r env = bnd (f env) fun x => bnd (r env) fun xs => ret (x :: xs) := rfl
@[simp] theorem eTup_app (f : Env → M (List DD)) : eTup f env = bnd (f env) fun ds => if szOk ds.length = true then ret (.tup ds) else stk := rfl
@[simp] theorem eLst_app (f : Env → M (List DD)) : eLst f env = bnd (f env) fun ds => if szOk ds.length = true then ret (.lst ds) else stk := rfl
@[simp] theorem oNo_app : oNo env = ret none := rfl
@[simp] theorem oSome_app (f : Env → M DD) : oSome f env = bnd (f env) fun d => match d with
  | .int i => ret (some i)
  | _ => stk := rfl
@[simp] theorem eSl_app (f : Env → M DD) (lo hi : Env → M (Option Int)) : eSl f lo hi env = bnd (f env) fun x => bnd (lo env) fun l => bnd (hi env) fun h => opSl x l h := rfl
@[simp] theorem eB_app (f : List DD → M DD) (as : Env → M (List DD)) : eB f as env = bnd (as env) f := rfl
@[simp] theorem tV_app (f : Env → M DD) : tV f env = bnd (f env) fun d => match d with
  | .bl b => ret b
  | _ => stk := rfl
@[simp] theorem tAnd_app (t u : Env → M Bool) : tAndD t u env = bnd (t env) fun c => if c = true then u env else ret false := rfl
@[simp] theorem tOr_app (t u : Env → M Bool) : tOrD t u env = bnd (t env) fun c => if c = true then ret true else u env := rfl
@[simp] theorem tNot_app (t : Env → M Bool) : tNotD t env = bnd (t env) fun c => ret (!c) := rfl
@[simp] theorem tYes_app : tYesD env = ret true := rfl
@[simp] theorem eAnd_app (f g : Env → M DD) : eAnd f g env = bnd (f env) fun d => match d with
  | .bl true => g env
  | .bl false => ret (.bl false)
  | _ => stk := rfl
@[simp] theorem eOr_app (f g : Env → M DD) : eOr f g env = bnd (f env) fun d => match d with
  | .bl false => g env
  | .bl true => ret (.bl true)
  | _ => stk := rfl
@[simp] theorem eNot_app (f : Env → M DD) : eNot f env = bnd (f env) fun d => match d with
  | .bl b => ret (.bl (!b))
  | _ => stk := rfl
@[simp] theorem eNeg_app (f : Env → M DD) : eNeg f env = bnd (f env) fun d => match d with
  | .int i => ret (.int (-i))
  | _ => stk := rfl
@[simp] theorem eIf_app (t : Env → M Bool) (f g : Env → M DD) : eIf t f g env = bnd (t env) fun c => if c = true then f env else g env := rfl
@[simp] theorem eChain_app (op op' : DD → DD → M DD) (f g h : Env → M DD) : eChain op op' f g h env = bnd (f env) fun x => bnd (g env) fun y => bnd (op x y) fun z => match z with
  | .bl true => bnd (h env) fun w => op' y w
  | .bl false => ret (.bl false)
  | _ => stk := rfl
@[simp] theorem eLc_app (vs : List Nat) (fi : Env → M (List DD)) (fg : Env → DD → Option Env) (ft : Env → M Bool) (fe : Env → M DD) : eLc vs fi fg ft fe env = bnd (fi env) fun items =>
  if szOk items.length = true then bnd (lcD fg ft fe (wipeE env vs) items) fun xs => ret (.lst xs) else stk := rfl
@[simp] theorem wipeE_nil : wipeE env [] = env := rfl
@[simp] theorem wipeE_cons (v : Nat) (vs : List Nat) : wipeE env (v :: vs) = (wipeE env vs).set v none := rfl
@[simp] theorem iNil_app : iNil env = ret [] := rfl
@[simp] theorem iCons_app (f : Env → M DD) (r : Env → M (List It)) : iCons f r env = bnd (f env) fun x => bnd (r env) fun xs => ret (.d x :: xs) := rfl
@[simp] theorem iSrc_app (i : Nat) (r : Env → M (List It)) : iSrc i r env = (match env[i]? with
  | some (some .s) => bnd (r env) fun xs => ret (.s :: xs)
  | some (some (.sc ns)) => bnd (r env) fun xs => ret (.sc ns :: xs)
  | _ => stk) := rfl
@[simp] theorem eCall_app (fn : List It → M DD) (as : Env → M (List It)) : eCall fn as env = bnd (as env) fun its => callM fn its := rfl
@[simp] theorem isS_s : isS .s = true := rfl
@[simp] theorem isS_d (x : DD) : isS (.d x) = false := rfl
@[simp] theorem isS_sc (x : List Int) : isS (.sc x) = false := rfl
@[simp] theorem callM_app (fn : List It → M DD) (its : List It) : callM fn its S = (match its.any isS with
  | true => fn its S
  | false => match fn its (0, 0) with
    | none => none
    | some (r, _) => some (r, S)) := rfl
@[simp] theorem jSeq_app (f : Env → M DD) : jSeq f env = bnd (f env) fun d => match d with
  | .lst xs => ret xs
  | .tup xs => ret xs
  | _ => stk := rfl
@[simp] theorem jRng1_app (f : Env → M (List DD)) : jRng1 f env = bnd (f env) fun ds => match ds with
  | [.int j] => if (decide (-100000 ≤ j) && decide (j ≤ 100000)) = true then ret (rngD 0 j.toNat) else stk
  | _ => stk := rfl
@[simp] theorem jEnum_app (f : Env → M (List DD)) : jEnum f env = bnd (f env) fun ds => match ds with
  | [.lst xs] => ret (enumD 0 xs)
  | [.tup xs] => ret (enumD 0 xs)
  | _ => stk := rfl
@[simp] theorem jZip_app (f : Env → M (List DD)) : jZip f env = bnd (f env) fun ds => match ds with
  | [.lst xs, .lst ys] => ret (zipD xs ys)
  | [.tup xs, .tup ys] => ret (zipD xs ys)
  | _ => stk := rfl
@[simp] theorem sNil_app : sNil env S = some (.nx env S) := rfl
@[simp] theorem sSeq_app (a b : SF) : sSeq a b env S = (match a env S with
  | some (.nx e S') => b e S'
  | o => o) := rfl
@[simp] theorem sExpr_app (f : Env → M DD) : sExpr f env S = thenS f (fun _ env S => some (.nx env S)) env S := rfl
@[simp] theorem sAsg_app (f : Env → M DD) (fg : Env → DD → Option Env) : sAsg f fg env S = thenS f (fun d env S => (fg env d).map fun e => .nx e S) env S := rfl
@[simp] theorem sRet_app (f : Env → M DD) : sRet f env S = thenS f (fun d _ S => some (.rt d S)) env S := rfl
@[simp] theorem sRetNew_app (f : Env → M (List DD)) : sRetNew f env S = thenS f (fun d _ S => some (.rn d S)) env S := rfl
@[simp] theorem sRetN_app : sRetN env S = some (.rt .non S) := rfl
@[simp] theorem sIf_app (t : Env → M Bool) (a b : SF) : sIf t a b env S = thenS t (fun c env S => if c = true then a env S else b env S) env S := rfl
@[simp] theorem sBrk_app : sBrk env S = some (.bk env S) := rfl
@[simp] theorem sCont_app : sCont env S = some (.ct env S) := rfl
@[simp] theorem sRaise_app (k : Nat) : sRaise k env S = some (.ex ⟨k, none⟩ env S) := rfl
@[simp] theorem sFor_app (fi : Env → M (List DD)) (fg : Env → DD → Option Env) (fb : SF) : sFor fi fg fb env S = thenS fi (fun items env S => forD fg fb items env S) env S := rfl
@[simp] theorem sSetL_app (i : Nat) (f : Env → M (List DD)) : sSetL i f env S = thenS f (fun ds env S => some (.nx (env.set i (some (.l ds))) S)) env S := rfl
@[simp] theorem nLst_app (f : Env → M (List DD)) : nLst f env = bnd (f env) fun ds => if szOk ds.length = true then ret ds else stk := rfl
@[simp] theorem pNil_app : pNil env = ret [] := rfl
@[simp] theorem pD_app (f : Env → M DD) (r : Env → M (List It)) : pD f r env = bnd (f env) fun x => bnd (r env) fun xs => ret (.d x :: xs) := rfl
@[simp] theorem pL_app (f : Env → M (List DD)) (r : Env → M (List It)) : pL f r env = bnd (f env) fun x => bnd (r env) fun xs => ret (.l x :: xs) := rfl
@[simp] theorem setIts_nil : setIts env [] [] = some env := rfl
@[simp] theorem setIts_cons (i : Nat) (is : List Nat) (it : It) (its : List It) : setIts env (i :: is) (it :: its) = setIts (env.set i (some it)) is its := rfl
@[simp] theorem sPar_app (is : List Nat) (f : Env → M (List It)) : sPar is f env S = thenS f (fun its env S => (setIts env is its).map fun e => .nx e S) env S := rfl
@[simp] theorem ownG_app (i : Nat) (k : List DD → SF) : ownG i k env S = (match env[i]? with
  | some (some (.l xs)) => k xs env S
  | _ => none) := rfl
@[simp] theorem sApp_app (i : Nat) (f : Env → M DD) : sApp i f = ownG i fun xs => thenS f fun d env S => if szOk (xs.length + 1) = true then some (.nx (env.set i (some (.l (xs ++ [d])))) S) else none := rfl
@[simp] theorem putE_app (f g : Env → M DD) : putE f g env = bnd (f env) fun d => bnd (g env) fun j => ret (d, j) := rfl
@[simp] theorem sPut_app (i : Nat) (f g : Env → M DD) : sPut i f g = ownG i fun xs => thenS (putE f g) (putK i xs) := rfl
@[simp] theorem eOwn_app (i : Nat) (k : List DD → Env → M DD) : eOwn i k env = (match env[i]? with
  | some (some (.l xs)) => k xs env
  | _ => stk) := rfl
@[simp] theorem eIxL_app (i : Nat) (g : Env → M DD) : eIxL i g = eOwn i fun xs env => bnd (g env) fun j => opIx (.lst xs) j := rfl
@[simp] theorem eLenL_app (i : Nat) : eLenL i = eOwn i fun xs _ => ret (.int xs.length) := rfl
@[simp] theorem eSrc_app (i : Nat) (j : Bool) : eSrc i j env S = (match env[i]? with
  | some (some .s) => some (.ok (.int (if j = true then S.2 else S.1)), S)
  | _ => none) := rfl
@[simp] theorem sSrcPut_app (i : Nat) (j : Bool) (f : Env → M DD) : sSrcPut i j f env S = thenS f (fun d env S => match env[i]?, d with
  | some (some .s), .int z => some (.nx env (if j = true then (S.1, z) else (z, S.2)))
  | _, _ => none) env S := rfl
@[simp] theorem eScAt_app (i : Nat) (g : Env → M DD) : eScAt i g env = (match env[i]? with
  | some (some (.sc ns)) => bnd (g env) fun d => match d with
    | .int z => ofO ((atI ns z).map DD.int)
    | _ => stk
  | _ => stk) := rfl
@[simp] theorem eScLen_app (i : Nat) : eScLen i env = (match env[i]? with
  | some (some (.sc ns)) => ret (.int ns.length)
  | _ => stk) := rfl
@[simp] theorem sFrz_app (i : Nat) (s : SF) : sFrz i s env S = (match env[i]? with
  | some (some (.l xs)) => s (env.set i (some (.d (.lst xs)))) S
  | some (some (.d (.lst xs))) => s env S
  | _ => none) := rfl
@[simp] theorem gN_app (i : Nat) (d : DD) : gN i env d = some (env.set i (some (.d d))) := rfl
@[simp] theorem gsN_app : gsN env [] = some env := rfl
@[simp] theorem nCall_app (fn : List It → M (List DD)) (as : Env → M (List It)) : nCall fn as env = bnd (as env) fun its => fun S => match its.any isS with
  | true => none
  | false => match fn its (0, 0) with
    | none => none
    | some (r, _) => some (r, S) := rfl
@[simp] theorem sSrcNew_app (i : Nat) (fn : Env → M (List DD)) : sSrcNew i fn env S = thenS fn (fun ds env S => match ds with
  | [.int a, .int b] => if noS (env.set i none) = true then some (.nx (env.set i (some .s)) (a, b)) else none
  | _ => none) env S := rfl
@[simp] theorem eWord_app (nx : Nat) (cl : List (Nat × Str)) (fb : Env → M DD) : eWord nx cl fb env S = (match fb env S with
  | some (.ok _, S') => some (.ok (.str ""), S')
  | some (.error e, S') => if e.k < nx then (match cl.lookup e.k with
    | some w => some (.ok (.str w), S')
    | none => none) else none
  | none => none) := rfl
@[simp] theorem eCallL_app (i : Nat) (tab : Addr → Option (List It → M DD)) (as : Env → M (List It)) : eCallL i tab as env = (match env[i]? with
  | some (some (.d (.raw (.ref f)))) => (match tab f with
    | some fn => eCall fn as env
    | none => stk)
  | _ => stk) := rfl
end
@[simp] theorem gT_app (n : Nat) (f : Env → List DD → Option Env) (env : Env) (ds : List DD) : gT n f env (.tup ds) = if ds.length = n then f env ds else none := by
  unfold gT
  rfl
@[simp] theorem gsC_app (g : Env → DD → Option Env) (r : Env → List DD → Option Env) (env : Env) (d : DD) (ds : List DD) : gsC g r env (d :: ds) = (g env d).bind fun e => r e ds := by
  unfold gsC
  rfl
@[simp] theorem opAdd_int (i j : Int) : opAdd (.int i) (.int j) = ret (.int (i + j)) := rfl
@[simp] theorem opAdd_lst (x y : List DD) : opAdd (.lst x) (.lst y) = if szOk (x.length + y.length) = true then ret (.lst (x ++ y)) else stk := rfl
@[simp] theorem opAdd_tup (x y : List DD) : opAdd (.tup x) (.tup y) = if szOk (x.length + y.length) = true then ret (.tup (x ++ y)) else stk := rfl
@[simp] theorem opSub_int (i j : Int) : opSub (.int i) (.int j) = ret (.int (i - j)) := rfl
@[simp] theorem opMul_int (i j : Int) : opMul (.int i) (.int j) = if (decide (i.natAbs < 2 ^ 64) || decide (j.natAbs < 2 ^ 64)) = true then ret (.int (i * j)) else stk := rfl
@[simp] theorem opDiv_int (i j : Int) : opDiv (.int i) (.int j) = if cDiv i j = true then ret (.int (i / j)) else stk := rfl
@[simp] theorem opMod_int (i j : Int) : opMod (.int i) (.int j) = if decide (0 < j) = true then ret (.int (i % j)) else stk := rfl
@[simp] theorem opLt_int (i j : Int) : opLt (.int i) (.int j) = ret (.bl (decide (i < j))) := rfl
@[simp] theorem opLe_int (i j : Int) : opLe (.int i) (.int j) = ret (.bl (decide (i ≤ j))) := rfl
@[simp] theorem opGt_int (i j : Int) : opGt (.int i) (.int j) = ret (.bl (decide (j < i))) := rfl
@[simp] theorem opGe_int (i j : Int) : opGe (.int i) (.int j) = ret (.bl (decide (j ≤ i))) := rfl
@[simp] theorem szOk_0 : szOk 0 = true := rfl
@[simp] theorem szOk_1 : szOk 1 = true := rfl
@[simp] theorem szOk_2 : szOk 2 = true := rfl
@[simp] theorem szOk_3 : szOk 3 = true := rfl
@[simp] theorem szOk_4 : szOk 4 = true := rfl
@[simp] theorem szOk_5 : szOk 5 = true := rfl
@[simp] theorem szOk_6 : szOk 6 = true := rfl
@[simp] theorem szOk_7 : szOk 7 = true := rfl
@[simp] theorem szOk_8 : szOk 8 = true := rfl
@[simp] theorem szOk_9 : szOk 9 = true := rfl
@[simp] theorem szOk_10 : szOk 10 = true := rfl
@[simp] theorem szOk_11 : szOk 11 = true := rfl
@[simp] theorem szOk_12 : szOk 12 = true := rfl
@[simp] theorem szOk_13 : szOk 13 = true := rfl
@[simp] theorem szOk_14 : szOk 14 = true := rfl
@[simp] theorem szOk_15 : szOk 15 = true := rfl
@[simp] theorem szOk_16 : szOk 16 = true := rfl
@[simp] theorem szOk_17 : szOk 17 = true := rfl
@[simp] theorem szOk_18 : szOk 18 = true := rfl
@[simp] theorem szOk_19 : szOk 19 = true := rfl
@[simp] theorem szOk_20 : szOk 20 = true := rfl
@[simp] theorem szOk_21 : szOk 21 = true := rfl
@[simp] theorem szOk_22 : szOk 22 = true := rfl
@[simp] theorem szOk_23 : szOk 23 = true := rfl
@[simp] theorem szOk_24 : szOk 24 = true := rfl
@[simp] theorem szOk_25 : szOk 25 = true := rfl
@[simp] theorem szOk_26 : szOk 26 = true := rfl
@[simp] theorem szOk_27 : szOk 27 = true := rfl
@[simp] theorem szOk_28 : szOk 28 = true := rfl
@[simp] theorem szOk_29 : szOk 29 = true := rfl
@[simp] theorem szOk_30 : szOk 30 = true := rfl
@[simp] theorem szOk_31 : szOk 31 = true := rfl
@[simp] theorem szOk_32 : szOk 32 = true := rfl
@[simp] theorem szOk_33 : szOk 33 = true := rfl
@[simp] theorem szOk_34 : szOk 34 = true := rfl
@[simp] theorem szOk_35 : szOk 35 = true := rfl
@[simp] theorem szOk_36 : szOk 36 = true := rfl
@[simp] theorem szOk_37 : szOk 37 = true := rfl
@[simp] theorem szOk_38 : szOk 38 = true := rfl
@[simp] theorem szOk_39 : szOk 39 = true := rfl
@[simp] theorem szOk_40 : szOk 40 = true := rfl
/-! kinds -/
@[simp] def plain1 : DD → Bool
  | .raw _ => false
  | .dct _ _ => false
  | _ => true
@[simp] def isI : DD → Bool
  | .int _ => true
  | .bl _ => true
  | _ => false
@[simp] def isBo : DD → Bool
  | .bl _ => true
  | _ => false
@[simp] def isSt : DD → Bool
  | .str _ => true
  | _ => false
@[simp] def isTu : DD → Bool
  | .tup _ => true
  | _ => false
@[simp] def isLi : DD → Bool
  | .lst _ => true
  | _ => false
theorem kit_ : (["NoneType", "bool", "int", "str", "list", "tuple"].all fun t => decide (kitB t "int" = some (t == "int" || t == "bool")) && decide (kitB t "bool" = some (t == "bool")) && decide (kitB t "str" = some (t == "str")) && decide (kitB t "tuple" = some (t == "tuple")) && decide (kitB t "list" = some (t == "list"))) = true := by kernel_rfl
theorem kit_at {t : String} (h : t ∈ ["NoneType", "bool", "int", "str", "list", "tuple"]) : kitB t "int" = some (t == "int" || t == "bool") ∧ kitB t "bool" = some (t == "bool") ∧ kitB t "str" = some (t == "str") ∧ kitB t "tuple" = some (t == "tuple") ∧ kitB t "list" = some (t == "list") := by
  have z := List.all_eq_true.mp kit_ t h
  simp only [Bool.and_eq_true, decide_eq_true_eq] at z
  obtain ⟨⟨⟨⟨h1, h2⟩, h3⟩, h4⟩, h5⟩ := z
  exact ⟨h1, h2, h3, h4, h5⟩
theorem bIsi_of {v : DD} {t n : String} {b : Bool} (ht : tyName v = some t) (hk : kitB t n = some b) : bIsi [v, .raw (.ty n)] = ret (.bl b) := by
  unfold bIsi
  simp only [ht, hk]
theorem bIsi_int (v : DD) (h : plain1 v = true) : bIsi [v, .raw (.ty "int")] = ret (.bl (isI v)) := by
  cases v <;> first | (cases h; done) | exact bIsi_of rfl (kit_at (by decide)).1
theorem bIsi_bool (v : DD) (h : plain1 v = true) : bIsi [v, .raw (.ty "bool")] = ret (.bl (isBo v)) := by
  cases v <;> first | (cases h; done) | exact bIsi_of rfl (kit_at (by decide)).2.1
theorem bIsi_str (v : DD) (h : plain1 v = true) : bIsi [v, .raw (.ty "str")] = ret (.bl (isSt v)) := by
  cases v <;> first | (cases h; done) | exact bIsi_of rfl (kit_at (by decide)).2.2.1
theorem bIsi_tup (v : DD) (h : plain1 v = true) : bIsi [v, .raw (.ty "tuple")] = ret (.bl (isTu v)) := by
  cases v <;> first | (cases h; done) | exact bIsi_of rfl (kit_at (by decide)).2.2.2.1
theorem bIsi_lst (v : DD) (h : plain1 v = true) : bIsi [v, .raw (.ty "list")] = ret (.bl (isLi v)) := by
  cases v <;> first | (cases h; done) | exact bIsi_of rfl (kit_at (by decide)).2.2.2.2
@[simp] theorem bIsi_int_non : bIsi [.non, .raw (.ty "int")] = ret (.bl false) := bIsi_int _ rfl
@[simp] theorem bIsi_int_bl (b : Bool) : bIsi [(.bl b), .raw (.ty "int")] = ret (.bl true) := bIsi_int _ rfl
@[simp] theorem bIsi_int_int (i : Int) : bIsi [(.int i), .raw (.ty "int")] = ret (.bl true) := bIsi_int _ rfl
@[simp] theorem bIsi_int_str (s : Str) : bIsi [(.str s), .raw (.ty "int")] = ret (.bl false) := bIsi_int _ rfl
@[simp] theorem bIsi_int_lst (xs : List DD) : bIsi [(.lst xs), .raw (.ty "int")] = ret (.bl false) := bIsi_int _ rfl
@[simp] theorem bIsi_int_tup (xs : List DD) : bIsi [(.tup xs), .raw (.ty "int")] = ret (.bl false) := bIsi_int _ rfl
@[simp] theorem bIsi_bool_non : bIsi [.non, .raw (.ty "bool")] = ret (.bl false) := bIsi_bool _ rfl
@[simp] theorem bIsi_bool_bl (b : Bool) : bIsi [(.bl b), .raw (.ty "bool")] = ret (.bl true) := bIsi_bool _ rfl
@[simp] theorem bIsi_bool_int (i : Int) : bIsi [(.int i), .raw (.ty "bool")] = ret (.bl false) := bIsi_bool _ rfl
@[simp] theorem bIsi_bool_str (s : Str) : bIsi [(.str s), .raw (.ty "bool")] = ret (.bl false) := bIsi_bool _ rfl
@[simp] theorem bIsi_bool_lst (xs : List DD) : bIsi [(.lst xs), .raw (.ty "bool")] = ret (.bl false) := bIsi_bool _ rfl
@[simp] theorem bIsi_bool_tup (xs : List DD) : bIsi [(.tup xs), .raw (.ty "bool")] = ret (.bl false) := bIsi_bool _ rfl
@[simp] theorem bIsi_str_non : bIsi [.non, .raw (.ty "str")] = ret (.bl false) := bIsi_str _ rfl
@[simp] theorem bIsi_str_bl (b : Bool) : bIsi [(.bl b), .raw (.ty "str")] = ret (.bl false) := bIsi_str _ rfl
@[simp] theorem bIsi_str_int (i : Int) : bIsi [(.int i), .raw (.ty "str")] = ret (.bl false) := bIsi_str _ rfl
@[simp] theorem bIsi_str_str (s : Str) : bIsi [(.str s), .raw (.ty "str")] = ret (.bl true) := bIsi_str _ rfl
@[simp] theorem bIsi_str_lst (xs : List DD) : bIsi [(.lst xs), .raw (.ty "str")] = ret (.bl false) := bIsi_str _ rfl
@[simp] theorem bIsi_str_tup (xs : List DD) : bIsi [(.tup xs), .raw (.ty "str")] = ret (.bl false) := bIsi_str _ rfl
@[simp] theorem bIsi_tup_non : bIsi [.non, .raw (.ty "tuple")] = ret (.bl false) := bIsi_tup _ rfl
@[simp] theorem bIsi_tup_bl (b : Bool) : bIsi [(.bl b), .raw (.ty "tuple")] = ret (.bl false) := bIsi_tup _ rfl
@[simp] theorem bIsi_tup_int (i : Int) : bIsi [(.int i), .raw (.ty "tuple")] = ret (.bl false) := bIsi_tup _ rfl
@[simp] theorem bIsi_tup_str (s : Str) : bIsi [(.str s), .raw (.ty "tuple")] = ret (.bl false) := bIsi_tup _ rfl
@[simp] theorem bIsi_tup_lst (xs : List DD) : bIsi [(.lst xs), .raw (.ty "tuple")] = ret (.bl false) := bIsi_tup _ rfl
@[simp] theorem bIsi_tup_tup (xs : List DD) : bIsi [(.tup xs), .raw (.ty "tuple")] = ret (.bl true) := bIsi_tup _ rfl
@[simp] theorem bIsi_lst_non : bIsi [.non, .raw (.ty "list")] = ret (.bl false) := bIsi_lst _ rfl
@[simp] theorem bIsi_lst_bl (b : Bool) : bIsi [(.bl b), .raw (.ty "list")] = ret (.bl false) := bIsi_lst _ rfl
@[simp] theorem bIsi_lst_int (i : Int) : bIsi [(.int i), .raw (.ty "list")] = ret (.bl false) := bIsi_lst _ rfl
@[simp] theorem bIsi_lst_str (s : Str) : bIsi [(.str s), .raw (.ty "list")] = ret (.bl false) := bIsi_lst _ rfl
@[simp] theorem bIsi_lst_lst (xs : List DD) : bIsi [(.lst xs), .raw (.ty "list")] = ret (.bl true) := bIsi_lst _ rfl
@[simp] theorem bIsi_lst_tup (xs : List DD) : bIsi [(.tup xs), .raw (.ty "list")] = ret (.bl false) := bIsi_lst _ rfl
@[simp] theorem bLen_lst (xs : List DD) : bLen [.lst xs] = ret (.int xs.length) := rfl
@[simp] theorem bLen_tup (xs : List DD) : bLen [.tup xs] = ret (.int xs.length) := rfl
@[simp] theorem bInt_int (i : Int) : bInt [.int i] = ret (.int i) := rfl
@[simp] theorem bInt_bl (b : Bool) : bInt [.bl b] = ret (.int (if b then 1 else 0)) := rfl
@[simp] theorem b2I_app (g : Int → Int → Int) (i j : Int) : b2I g [.int i, .int j] = ret (.int (g i j)) := rfl
@[simp] theorem bTuple_lst (xs : List DD) : bTuple [.lst xs] = ret (.tup xs) := rfl
@[simp] theorem bTuple_tup (xs : List DD) : bTuple [.tup xs] = ret (.tup xs) := rfl
@[simp] theorem bList_lst (xs : List DD) : bList [.lst xs] = ret (.lst xs) := rfl
@[simp] theorem bList_tup (xs : List DD) : bList [.tup xs] = ret (.lst xs) := rfl
@[simp] theorem opIx_lst (xs : List DD) (i : Int) : opIx (.lst xs) (.int i) = ofO (atI xs i) := rfl
@[simp] theorem opIx_tup (xs : List DD) (i : Int) : opIx (.tup xs) (.int i) = ofO (atI xs i) := rfl
@[simp] theorem opSl_lst (xs : List DD) (lo hi : Option Int) : opSl (.lst xs) lo hi = ret (.lst (cutD xs lo hi)) := rfl
@[simp] theorem opSl_tup (xs : List DD) (lo hi : Option Int) : opSl (.tup xs) lo hi = ret (.tup (cutD xs lo hi)) := rfl
theorem blsOf_map (bs : List Bool) : blsOf (bs.map DD.bl) = some bs := by
  induction bs with
  | nil => rfl
  | cons b bs ih => simp [blsOf, ih]
@[simp] theorem bAll_bls (bs : List Bool) : bAll [.lst (bs.map DD.bl)] = ret (.bl (bs.all id)) := by
  unfold bAll
  simp only [blsOf_map]
@[simp] theorem bAny_bls (bs : List Bool) : bAny [.lst (bs.map DD.bl)] = ret (.bl (bs.any id)) := by
  unfold bAny
  simp only [blsOf_map]
theorem atI_nat {xs : List DD} {i : Nat} {d : DD} (h : xs[i]? = some d) : atI xs (i : Int) = some d := by
  have hl := (List.getElem?_eq_some_iff.mp h).1
  have e : ixN xs.length (i : Int) = some i := by
    unfold ixN
    rw [if_pos (by omega), if_pos (by omega)]
    simp
  unfold L2.atI
  rw [e]
  exact h
/-! ### == of data -/
def okN (n : Nat) (d : DD) : Bool := d.pure && d.py.canLay0 && decide (d.py.depth ≤ n)
theorem okN_int {n : Nat} (i : Int) : okN n (.int i) = true := by simp [okN, DD.pure, DD.py, PyData.canLay0, PyData.depth]
theorem okN_bl {n : Nat} (i : Bool) : okN n (.bl i) = true := by simp [okN, DD.pure, DD.py, PyData.canLay0, PyData.depth]
theorem okN_non {n : Nat} : okN n .non = true := by simp [okN, DD.pure, DD.py, PyData.canLay0, PyData.depth]
theorem okN_str {n : Nat} {x : Str} (h : PyData.strOk x = true) : okN n (.str x) = true := by simp [okN, DD.pure, DD.py, PyData.canLay0, PyData.depth, h]
theorem okA {n : Nat} : ∀ (xs : List DD), (∀ x ∈ xs, okN n x = true) → DD.pureA xs = true ∧ PyData.canLayAll0 (DD.pyA xs) = true ∧ PyData.depthAll (DD.pyA xs) ≤ n
  | [], _ => by simp [DD.pureA, DD.pyA, PyData.canLayAll0, PyData.depthAll]
  | x :: xs, h => by
    obtain ⟨h1, h2, h3⟩ := okA xs fun y hy => h y (List.mem_cons_of_mem _ hy)
    have h0 := h x List.mem_cons_self
    simp only [okN, Bool.and_eq_true, decide_eq_true_eq] at h0
    obtain ⟨⟨a, b⟩, c⟩ := h0
    refine ⟨by simp [DD.pureA, a, h1], by simp [DD.pyA, PyData.canLayAll0, b, h2], ?_⟩
    simp only [DD.pyA, PyData.depthAll]
    omega
theorem okN_lst {n : Nat} {xs : List DD} (h : ∀ x ∈ xs, okN n x = true) : okN (n + 1) (.lst xs) = true := by
  obtain ⟨h1, h2, h3⟩ := okA xs h
  simp [okN, DD.pure, DD.py, PyData.canLay0, PyData.depth, h1, h2, h3]
theorem okN_tup {n : Nat} {xs : List DD} (h : ∀ x ∈ xs, okN n x = true) : okN (n + 1) (.tup xs) = true := by
  obtain ⟨h1, h2, h3⟩ := okA xs h
  simp [okN, DD.pure, DD.py, PyData.canLay0, PyData.depth, h1, h2, h3]
theorem okN_mono {n m : Nat} {d : DD} (h : n ≤ m) (k : okN n d = true) : okN m d = true := by
  simp only [okN, Bool.and_eq_true, decide_eq_true_eq] at k ⊢
  exact ⟨k.1, by omega⟩
theorem eqOk_of {n : Nat} {d : DD} (k : okN n d = true) (h : n ≤ 64 := by decide) : eqOk d = true := by
  simp only [okN, Bool.and_eq_true, decide_eq_true_eq] at k
  simp only [eqOk, SeqAt.shaped, Bool.and_eq_true, decide_eq_true_eq]
  exact ⟨k.1.1, k.1.2, by omega⟩
mutual
theorem eqv_refl : ∀ d : DD, PyData.eqv d.py d.py = true
  | .non => by simp [DD.py, PyData.eqv]
  | .bl _ => by simp [DD.py, PyData.eqv]
  | .int _ => by simp [DD.py, PyData.eqv]
  | .str _ => by simp [DD.py, PyData.eqv]
  | .lst xs => by simp only [DD.py, PyData.eqv]; exact eqvA_refl xs
  | .tup xs => by simp only [DD.py, PyData.eqv]; exact eqvA_refl xs
  | .raw _ => by simp [DD.py, PyData.eqv]
  | .dct _ _ => by simp [DD.py, PyData.eqv]
theorem eqvA_refl : ∀ ds : List DD, PyData.eqvAll (DD.pyA ds) (DD.pyA ds) = true
  | [] => by simp [DD.pyA, PyData.eqvAll]
  | d :: ds => by simp only [DD.pyA, PyData.eqvAll, eqv_refl d, eqvA_refl ds]; rfl
end
theorem opEq_of {x y : DD} (hx : eqOk x = true) (hy : eqOk y = true) : opEq x y = ret (.bl (PyData.eqv x.py y.py)) := by
  unfold opEq
  rw [if_pos (by rw [hx, hy]; rfl)]
theorem opNe_of {x y : DD} (hx : eqOk x = true) (hy : eqOk y = true) : opNe x y = ret (.bl (!PyData.eqv x.py y.py)) := by
  unfold opNe
  rw [if_pos (by rw [hx, hy]; rfl)]
theorem opEq_self {x : DD} (hx : eqOk x = true) : opEq x x = ret (.bl true) := by rw [opEq_of hx hx, eqv_refl]
theorem opNe_self {x : DD} (hx : eqOk x = true) : opNe x x = ret (.bl false) := by rw [opNe_of hx hx, eqv_refl]; rfl
theorem eqv_int (i j : Int) : PyData.eqv (.int i) (.int j) = decide (i = j) := Bool.eq_iff_iff.mpr (by simp [PyData.eqv])
theorem eqv_str (i j : Str) : PyData.eqv (.str i) (.str j) = decide (i = j) := Bool.eq_iff_iff.mpr (by simp [PyData.eqv])
@[simp] theorem opEq_int (i j : Int) : opEq (.int i) (.int j) = ret (.bl (decide (i = j))) := by
  rw [opEq_of (eqOk_of (okN_int (n := 0) i)) (eqOk_of (okN_int (n := 0) j))]
  exact congrArg (fun b => ret (DD.bl b)) (eqv_int i j)
@[simp] theorem opNe_int (i j : Int) : opNe (.int i) (.int j) = ret (.bl (!decide (i = j))) := by
  rw [opNe_of (eqOk_of (okN_int (n := 0) i)) (eqOk_of (okN_int (n := 0) j))]
  exact congrArg (fun b => ret (DD.bl (!b))) (eqv_int i j)
@[simp] theorem opEq_str {i j : Str} (hi : PyData.strOk i = true) (hj : PyData.strOk j = true) : opEq (.str i) (.str j) = ret (.bl (decide (i = j))) := by
  rw [opEq_of (eqOk_of (okN_str (n := 0) hi)) (eqOk_of (okN_str (n := 0) hj))]
  exact congrArg (fun b => ret (DD.bl b)) (eqv_str i j)
@[simp] theorem opNe_str {i j : Str} (hi : PyData.strOk i = true) (hj : PyData.strOk j = true) : opNe (.str i) (.str j) = ret (.bl (!decide (i = j))) := by
  rw [opNe_of (eqOk_of (okN_str (n := 0) hi)) (eqOk_of (okN_str (n := 0) hj))]
  exact congrArg (fun b => ret (DD.bl (!b))) (eqv_str i j)
@[simp] theorem opEq_bl (i j : Bool) : opEq (.bl i) (.bl j) = ret (.bl (decide (i = j))) := by
  rw [opEq_of (eqOk_of (okN_bl (n := 0) i)) (eqOk_of (okN_bl (n := 0) j))]
  exact congrArg (fun b => ret (DD.bl b)) (Bool.eq_iff_iff.mpr (by simp [DD.py, PyData.eqv]))
theorem mem_strs (x : Str) : ∀ xs : List Str, memD (.str x) (xs.map DD.str) = decide (x ∈ xs)
  | [] => rfl
  | y :: ys => by
    have ih := mem_strs x ys
    have e : memD (.str x) ((y :: ys).map DD.str) = (PyData.eqv (.str y) (.str x) || memD (.str x) (ys.map DD.str)) := rfl
    rw [e, ih, eqv_str]
    by_cases h : y = x
    · subst h
      simp
    · have h' : ¬ x = y := fun z => h z.symm
      simp [h, h']
theorem opNotIn_strs {x : Str} {xs : List Str} (hx : PyData.strOk x = true) (hs : ∀ y ∈ xs, PyData.strOk y = true) : opNotIn (.str x) (.tup (xs.map DD.str)) = ret (.bl (!decide (x ∈ xs))) := by
  show (if (eqOk (.str x) && eqOk (.tup (xs.map DD.str))) = true then ret (.bl (true != memD (.str x) (xs.map DD.str))) else (stk : M DD)) = _
  rw [if_pos, mem_strs]
  · rw [Bool.true_bne]
  · rw [eqOk_of (okN_str (n := 0) hx), eqOk_of (n := 1) (okN_tup fun d hd => ?_)]
    · rfl
    · obtain ⟨y, hy, rfl⟩ := List.mem_map.mp hd
      exact okN_str (hs y hy)
/-! ### loops -/
theorem forD_inv {fg : Env → DD → Option Env} {fb : SF} (I : Nat → Env → Sr → Prop) : ∀ (items : List DD) (k : Nat) (env : Env) (S : Sr), I k env S →
    (∀ i d env S, items[i]? = some d → I (k + i) env S → ∃ e1, fg env d = some e1 ∧ ∃ e2 S2, (fb e1 S = some (.nx e2 S2) ∨ fb e1 S = some (.ct e2 S2)) ∧ I (k + i + 1) e2 S2) → ∃ e S', forD fg fb items env S = some (.nx e S') ∧ I (k + items.length) e S'
  | [], k, env, S, h, _ => ⟨env, S, rfl, h⟩
  | d :: ds, k, env, S, h, hs => by
    obtain ⟨e1, h1, e2, S2, h2, h3⟩ := hs 0 d env S rfl h
    obtain ⟨e, S', h4, h5⟩ := forD_inv I ds (k + 1) e2 S2 h3 fun i d env S hi hI => by
      have := hs (i + 1) d env S hi (by rw [show k + (i + 1) = k + 1 + i by omega]; exact hI)
      rw [show k + (i + 1) + 1 = k + 1 + i + 1 by omega] at this
      exact this
    refine ⟨e, S', ?_, by rw [List.length_cons, show k + (ds.length + 1) = k + 1 + ds.length by omega]; exact h5⟩
    unfold forD
    rw [h1]
    rcases h2 with h2 | h2 <;> (simp only [h2]; exact h4)
/-- a comprehension whose test and element are told item by item -/
theorem lcD_eq {fg : Env → DD → Option Env} {ft : Env → M Bool} {fe : Env → M DD} {env : Env} {S : Sr} (p : DD → Bool) (g : DD → DD) : ∀ items : List DD, (∀ d ∈ items, ∃ e, fg env d = some e ∧ ft e S = some (.ok (p d), S) ∧ (p d = true → fe e S = some (.ok (g d), S))) →
    lcD fg ft fe env items S = some (.ok ((items.filter p).map g), S)
  | [], _ => rfl
  | d :: ds, h => by
    obtain ⟨e, h1, h2, h3⟩ := h d List.mem_cons_self
    have ih := lcD_eq (S := S) p g ds fun d hd => h d (List.mem_cons_of_mem _ hd)
    unfold lcD
    rw [h1]
    cases hp : p d with
    | true => simp [hp, h2, h3 hp, ih, List.filter_cons]
    | false => simp [hp, h2, ih, List.filter_cons]
/-- a comprehension over items told by others -/
theorem lcD_filF {α : Type} {fg : Env → DD → Option Env} {ft : Env → M Bool} {fe : Env → M DD} {env : Env} {S : Sr} {h : α → DD} (p : α → Bool) (g : α → DD) : ∀ {l : List α}, (∀ x ∈ l, ∃ e, fg env (h x) = some e ∧ ft e S = some (.ok (p x), S) ∧ (p x = true → fe e S = some (.ok (g x), S))) →
    lcD fg ft fe env (l.map h) S = some (.ok ((l.filter p).map g), S)
  | [], _ => rfl
  | d :: ds, hh => by
    obtain ⟨e, h1, h2, h3⟩ := hh d List.mem_cons_self
    have ih := lcD_filF (S := S) p g (l := ds) fun d hd => hh d (List.mem_cons_of_mem _ hd)
    rw [List.map_cons]
    unfold lcD
    rw [h1]
    cases hp : p d with
    | true => simp [hp, h2, h3 hp, ih, List.filter_cons]
    | false => simp [hp, h2, ih, List.filter_cons]
theorem lcD_mapF {α : Type} {fg : Env → DD → Option Env} {fe : Env → M DD} {env : Env} {S : Sr} {h : α → DD} (g : α → DD) {l : List α} (hh : ∀ x ∈ l, ∃ e, fg env (h x) = some e ∧ fe e S = some (.ok (g x), S)) :
    lcD fg tYesD fe env (l.map h) S = some (.ok (l.map g), S) := by
  have z := lcD_filF (fg := fg) (ft := tYesD) (fe := fe) (env := env) (S := S) (h := h) (fun _ => true) g (l := l) fun x hx => by
    obtain ⟨e, h1, h2⟩ := hh x hx
    exact ⟨e, h1, rfl, fun _ => h2⟩
  rw [List.filter_eq_self.mpr (fun _ _ => rfl)] at z
  exact z
theorem bAll_map {α : Type} (l : List α) (p : α → Bool) : bAll [.lst (l.map fun x => DD.bl (p x))] = ret (.bl (l.all p)) := by
  have z := bAll_bls (l.map p)
  rw [List.map_map] at z
  rw [show (fun x => DD.bl (p x)) = DD.bl ∘ p from rfl, z]
  congr 2
  induction l with
  | nil => rfl
  | cons x l ih => simp
theorem bAny_map {α : Type} (l : List α) (p : α → Bool) : bAny [.lst (l.map fun x => DD.bl (p x))] = ret (.bl (l.any p)) := by
  have z := bAny_bls (l.map p)
  rw [List.map_map] at z
  rw [show (fun x => DD.bl (p x)) = DD.bl ∘ p from rfl, z]
  congr 2
  induction l with
  | nil => rfl
  | cons x l ih => simp
theorem enumZ : ∀ (k : Nat) (xs : List DD), enumD k xs = ((List.range' k xs.length).zip xs).map fun p => .tup [.int (p.1 : Nat), p.2]
  | _, [] => rfl
  | k, x :: xs => by
    unfold enumD
    rw [enumZ (k + 1) xs]
    simp [List.range'_succ]
end AU
namespace AU
open PySem PySem.Spec PyProof.Rows L2 PySem.Calls

/-! ### every second item of a tuple -/
def idx2 (n c : Nat) : List Nat := (List.range (Builtin.Slice.slicePlaces ((min c n : Nat) : Int) (n : Int) 2)).map fun (m : Nat) => (((min c n : Nat) : Int) + (m : Int) * 2).toNat
def cut2 {α : Type} (xs : List α) (c : Nat) : List α := (idx2 xs.length c).filterMap (xs[·]?)
theorem idx2_len (n c : Nat) : (idx2 n c).length ≤ n := by
  unfold idx2 Builtin.Slice.slicePlaces
  rw [List.length_map, List.length_range]
  simp only [show ((2 : Int) > 0) from by decide, if_true]
  split <;> omega
theorem cut2_len {α : Type} (xs : List α) (c : Nat) : (cut2 xs c).length ≤ xs.length := by
  unfold cut2
  exact Nat.le_trans (List.length_filterMap_le _ _) (idx2_len _ _)
theorem vals_pick {vs : List V} {us : List Value} (r : Vals vs us) : ∀ is : List Nat, Vals (is.filterMap (vs[·]?)) (is.filterMap (us[·]?))
  | [] => .nil
  | i :: is => by
    have ih := vals_pick r is
    have hl := r.length
    by_cases h : i < vs.length
    · have h2 : i < us.length := by rw [← hl]; exact h
      rw [List.filterMap_cons_some (List.getElem?_eq_getElem h), List.filterMap_cons_some (List.getElem?_eq_getElem h2)]
      obtain ⟨u, e, ru⟩ := Vals.get r (List.getElem?_eq_getElem h)
      rw [List.getElem?_eq_getElem h2] at e
      cases e
      exact .cons ru ih
    · rw [List.filterMap_cons_none (List.getElem?_eq_none (by omega)), List.filterMap_cons_none (List.getElem?_eq_none (by omega))]
      exact ih
theorem rpA_pick {K : PySem.W.Frag} {F : Hp} {vs : List V} {ds : List DD} (r : RpA K F vs ds) : ∀ is : List Nat, RpA K F (is.filterMap (vs[·]?)) (is.filterMap (ds[·]?))
  | [] => .nil
  | i :: is => by
    have ih := rpA_pick r is
    have hl := r.length
    by_cases h : i < ds.length
    · have h2 : i < vs.length := by rw [hl]; exact h
      obtain ⟨v, e, rv⟩ := r.get (List.getElem?_eq_getElem h)
      rw [List.filterMap_cons_some e, List.filterMap_cons_some (List.getElem?_eq_getElem h)]
      exact .cons rv ih
    · rw [List.filterMap_cons_none (List.getElem?_eq_none (by omega)), List.filterMap_cons_none (List.getElem?_eq_none (by omega))]
      exact ih
section
variable {prog : Program} {w : World} {A : Around} {E : Value → Shared → Prop} {s : Shared}
theorem applied2 {sl : Addr} {c n : Nat} {t t' : Tok} {Q : Int × Int × Nat → Shared → Prop} (hs : s.heap.IsSliceOf sl (.int (c : Nat) t) .none (.int 2 t'))
    (h : Q (((min c n : Nat) : Int), 2, Builtin.Slice.slicePlaces ((min c n : Nat) : Int) (n : Int) 2) s) : wpAny (model prog w) A (Builtin.Slice.sliceApplied (.ref sl) (pure (n : Int))) Q E s := by
  obtain ⟨os, hos, hcs, hds⟩ := id hs
  unfold Builtin.Slice.sliceApplied Builtin.Slice.sliceFields
  refine wpAny_bind (wpAny_bind (wpAny_field hos hds (x := .int (c : Nat) t) rfl (wpAny_bind (wpAny_field hos hds (x := .none) rfl (wpAny_bind (wpAny_field hos hds (x := .int 2 t') rfl (wpAny_pure ?_)))))))
  refine wpAny_bind (HT.slicePart_ (.int 2 t') ?_)
  show wpAny _ _ (if ((2 : Int) == 0) = true then _ else _) _ _ s
  rw [if_neg (by decide)]
  refine wpAny_bind (HT.slicePart_ (.int (c : Nat) t) (wpAny_bind (HT.slicePart_ .none (wpAny_bind (wpAny_pure ?_)))))
  have e : Builtin.Slice.sliceAdjust (some ((c : Nat) : Int)) none 2 (n : Int) = (((min c n : Nat) : Int), (n : Int)) := by
    unfold Builtin.Slice.sliceAdjust
    have h1 : ¬ ((2 : Int) < 0) := by decide
    have h2 : ¬ (((c : Nat) : Int) < 0) := by omega
    simp only [h1, h2, if_false]
    refine Prod.ext ?_ rfl
    show min (c : Int) (n : Int) = ((min c n : Nat) : Int)
    omega
  show wpAny _ _ (match Builtin.Slice.sliceAdjust (some ((c : Nat) : Int)) none 2 (n : Int) with | (lo, hi) => pure (lo, (2 : Int), Builtin.Slice.slicePlaces lo hi 2)) _ _ s
  rw [e]
  exact wpAny_pure h
theorem tup_cut2 {t sl : Addr} {items : Array Value} {c : Nat} {tk tk' : Tok} {Q : Value → Shared → Prop} (ht : IsTup s.heap t items) (hs : s.heap.IsSliceOf sl (.int (c : Nat) tk) .none (.int 2 tk'))
    (h : Q (.ref s.heap.objs.size) { s with heap := s.heap.push { cls := .type "tuple", data := .seq (cut2 items.toList c).toArray } }) (hsz : items.size ≤ sizeLine) : wpAny (model prog w) A (getItem (.ref t) (.ref sl)) Q E s := by
  have htake : sizeOk (.seq (cut2 items.toList c).toArray) := by
    show (cut2 items.toList c).toArray.size ≤ sizeLine
    rw [List.size_toArray]
    have := cut2_len items.toList c
    rw [Array.length_toList] at this
    exact Nat.le_trans this hsz
  obtain ⟨os, hos, hcs, hds⟩ := id hs
  have hTs : s.TypeIs (.ref sl) "slice" := ⟨os, hos, hcs⟩
  unfold getItem
  try with_reducible refine wpAny_holding ?_
  first | refine wpAny_bind (wpAny_pure ?_) | skip
  refine wpAny_bind (wpAny_sequenceKey ht.typeIs (by decide) ?_)
  refine wpAny_bind (wpAny_callSpecial?_slot (name := Str.ofString "__getitem__") ht.typeIs PyProof.Rows.slot_tuple_getitem (wpAny_call_entry PyProof.Rows.slot_tuple_getitem ht.typeIs entry_tuple_getitem ?_ (args_tuple_getitem _ _)))
  show wpAny _ _ (Builtin.Tuple.tupleItemsOf (.ref t) >>= _) _ _ s
  refine wpAny_bind (tupleItemsOf_ ht ?_)
  refine wpAny_bind (wpAny_typeOf hTs ?_)
  rw [if_pos (by decide)]
  refine wpAny_bind (applied2 hs ?_)
  have hno : ¬ ((((min c items.size : Nat) : Int) == 0 && (2 : Int) == 1 && Builtin.Slice.slicePlaces ((min c items.size : Nat) : Int) (items.size : Int) 2 == items.size) = true) := by
    intro q
    rw [Bool.and_eq_true, Bool.and_eq_true] at q
    exact absurd q.1.2 (by decide)
  show wpAny _ _ (if (((min c items.size : Nat) : Int) == 0 && (2 : Int) == 1 && Builtin.Slice.slicePlaces ((min c items.size : Nat) : Int) (items.size : Int) 2 == items.size) = true then _ else _) _ _ s
  have epick : ((List.range (Builtin.Slice.slicePlaces ((min c items.size : Nat) : Int) (items.size : Int) 2)).filterMap fun (m : Nat) => items[(((min c items.size : Nat) : Int) + (m : Int) * 2).toNat]?).toArray = (cut2 items.toList c).toArray := by
    unfold cut2 idx2
    rw [List.filterMap_map, Array.length_toList]
    have ef : (fun (m : Nat) => items[(((min c items.size : Nat) : Int) + (m : Int) * 2).toNat]?) = (fun x => items.toList[x]?) ∘ fun (m : Nat) => (((min c items.size : Nat) : Int) + (m : Int) * 2).toNat := by
      funext m
      simp
    rw [ef]
  rw [if_neg hno, epick]
  first
    | exact wpAny_bind (m := Builtin.Tuple.tupleExact _) (wpAny_newObj_type (wpAny_pure ⟨_, rfl, wpAny_pure h⟩) htake)
    | exact wpAny_bind (m := Builtin.Tuple.tupleExact _) (wpAny_newObj_type (wpAny_bind (wpAny_pure (wpAny_pure ⟨_, rfl, wpAny_pure h⟩))) htake)
    | exact wpAny_bind (wpAny_bind (m := Builtin.Tuple.tupleExact _) (wpAny_newObj_type (wpAny_pure (wpAny_pure ⟨_, rfl, wpAny_pure h⟩)) htake))
    | exact wpAny_bind (wpAny_bind (m := Builtin.Tuple.tupleExact _) (wpAny_newObj_type (wpAny_pure ⟨_, rfl, wpAny_pure h⟩) htake))
end
def tSl2 (K : PySem.W.Frag) (c : Nat) (te : TE) : TE := fun σ H Q => te σ H fun x H1 => ∃ a xs, x = .ref a ∧ SqT K H1 a xs ∧ ∀ p, H1 p = none → Q (.ref p) (upd H1 p (.tup (cut2 xs c)))
section
variable {X : Cx} {B : Bs} {W : WX} {e : Expr} {te : TE} {fa : Env → M DD} {p1 p2 p3 pos : Pos} {k1 k2 : Nat}
theorem pe_sl2 {c : Nat} (he : PE X e te) : PE X (.Subscript e (.Slice (some (.Constant (.int (c : Nat)) k1 p1)) none (some (.Constant (.int 2) k2 p2)) p3) pos) (tSl2 X.K c te) := by
  refine ⟨fun pins s σ H Q I h => ?_⟩
  refine Subscript_ (thn (he.run pins s σ H _ I h) fun v s1 ⟨x, H1, I1, r1, a, xs, ex, hx, q1⟩ => ?_)
  subst ex
  cases r1
  refine wpAny_Slice ?_
  refine thn (((po_some (pe_int (i := (c : Nat)) (j := k1) (pos := p1))).run pins s1 σ H1 (fun o H' => o = some ((c : Nat) : Int) ∧ H' = H1) I1 ⟨_, rfl, rfl, rfl⟩)) fun vl s2 ⟨l, H2, I2, pl, el, eH⟩ => ?_
  subst el eH
  rw [evalPart_none]
  refine wpAny_pure ?_
  refine thn (((po_some (pe_int (i := 2) (j := k2) (pos := p2))).run pins s2 σ H2 (fun o H' => o = some 2 ∧ H' = H2) I2 ⟨_, rfl, rfl, rfl⟩)) fun vk s3 ⟨l3, H3, I3, pk, el, eH⟩ => ?_
  subst el eH
  cases pl with
  | int _ t =>
    cases pk with
    | int _ t' =>
      have I4 : Inv X pins σ H3 { s3 with heap := s3.heap.push { cls := .type "slice", data := .fields #[.int (c : Nat) t, .none, .int 2 t'] } } := I3.kept (t' := s3.toks) fun b ob q => Heap.get?_push_of_some _ q
      obtain ⟨its, r, ht, hz⟩ := I4.tuple hx
      have hlen : its.toArray.size = xs.length := by rw [List.size_toArray]; exact r.length.symm
      show wpAny (model X.prog X.w) X.A (subscriptTail e _ (.ref a) (.ref s3.heap.objs.size)) (EP X pins σ Q) X.xe { s3 with heap := s3.heap.push { cls := .type "slice", data := .fields #[.int (c : Nat) t, .none, .int 2 t'] } }
      refine tail_any (ops := [.ref a, .ref s3.heap.objs.size]) ht.typeIs PyProof.Rows.slot_tuple_getitem.lookup (tup_cut2 ht (Heap.IsSliceOf.new ..) ?_ (by rw [hlen]; exact hz)) (by with_unfolding_all rfl)
      refine ⟨.ref _, _, I4.laid (t' := s3.toks) (o := .tup (cut2 xs c)) (fun b ob q => Heap.get?_push_of_some _ q) (Nat.le_refl _) ?_, rfl, q1 _ (I4.hok.fresh (Nat.le_refl _))⟩
      refine ⟨Nat.le_trans (cut2_len xs c) hz, _, ?_, IsTup.new _ _⟩
      have hl : xs.length = its.length := r.length
      have := vals_pick r (idx2 its.length c)
      unfold cut2
      rw [hl]
      simpa using this
def eSl2 (c : Nat) (f : Env → M DD) : Env → M DD := fun env => bnd (f env) fun d => match d with
  | .tup xs => ret (.tup (cut2 xs c))
  | _ => stk
theorem de_sl2 {c : Nat} {ci : Int} (hc : ci = (c : Nat)) (hK : B.K = X.K) (he : DE X B W e fa) : DE X B W (.Subscript e (.Slice (some (.Constant (.int ci) k1 p1)) none (some (.Constant (.int 2) k2 p2)) p3) pos) (eSl2 c fa) := by
  subst hc
  obtain ⟨t, p, s⟩ := he.ex
  refine ⟨_, pe_sl2 p, fun env S σ F H sa k Q hq => s env S σ F H sa k _ ((Post.bnd hq).imp fun x S1 h1 v F1 H1 kk e1 r1 => ?_)⟩
  cases x with
  | tup ds =>
    obtain ⟨a, xs, rfl, h2, h3⟩ := r1.tup_inv
    refine ⟨a, xs, rfl, hK ▸ sqT_same kk.fh h2, good_new (o := .tup (cut2 xs c)) kk (fun v F' H' k' g' r' => h1 v F' H' k' (e1.trans g') r') fun q F' sF hq => .tup (.inl (.inl hq)) ?_⟩
    have hl := h3.length
    have z := rpA_pick (RpA.same sF ds h3) (idx2 xs.length c)
    unfold cut2
    rw [← hl]
    exact z
  | _ => exact h1.elim
end
end AU
namespace AU
open PySem PySem.Spec PyProof.Rows L2
theorem dss_stk {X : Cx} {B : Bs} {W : WX} {ss : List Stmt} : DSs X B W ss fun _ _ => none := ⟨fun _ _ _ => False, ⟨fun _ _ _ _ _ _ h => h.elim⟩, fun _ _ _ _ _ _ _ _ h => h.elim⟩
end AU
namespace AUL
open PySem PySem.Spec PyProof.Rows L2 AU
abbrev Env := AU.Env
def top (i : Nat) : Stmt := PySem.Challenge.pw_anyumbrellas_k01_books_and_weathers_reco.main.body.getD i (.Pass ⟨0, 0, 0, 0⟩)
def nx_ : Nat := 1
def kx_InvalidClimate : Nat := 0
def fuel_ : Env → Sr → Nat := fun _ _ => 100000
structure Txt (K : PySem.W.Frag) (mg : Str → Option Value) (cls : Nat → Value) : Prop where
  f_abs : mg "abs" = none
  f_all : mg "all" = none
  f_any : mg "any" = none
  f_bool : mg "bool" = none
  f_enumerate : mg "enumerate" = none
  f_int : mg "int" = none
  f_isinstance : mg "isinstance" = none
  f_len : mg "len" = none
  f_min : mg "min" = none
  f_range : mg "range" = none
  f_str : mg "str" = none
  f_tuple : mg "tuple" = none
  f_zip : mg "zip" = none
  g_CLIMATES : GloT K mg "CLIMATES" (.tup [.str "any", .str "days", .str "rare"])
  g_DEEDS : GloT K mg "DEEDS" (.tup [.str "leave", .str "take"])
  g_MOST_MOODS : ∃ t, mg "MOST_MOODS" = some (.int 2 t)
  g_MOST_WALKS : ∃ t, mg "MOST_WALKS" = some (.int 100 t)
  x_InvalidClimate : ExC K mg cls "InvalidClimate" kx_InvalidClimate
  mg_InvalidClimate : mg "InvalidClimate" = some (cls kx_InvalidClimate)
  exm : ExmA K cls nx_
/-! is_from -/
def N_is_from : List Str := ["value", "low", "high"]
theorem sc_is_from : FnScope N_is_from ["value", "low", "high"] (defScope (top 8)) := ⟨rfl, rfl, rfl, by decide +kernel, rfl, by decide +kernel, by decide +kernel⟩
def f_is_from : SF := (sRet (eAnd (eB bIsi (aCons (eVar 0) (aCons (eC (.raw (.ty "int"))) aNil))) (eAnd (eNot (eB bIsi (aCons (eVar 0) (aCons (eC (.raw (.ty "bool"))) aNil)))) (eChain opLe opLe (eVar 1) (eVar 0) (eVar 2)))))
def m_is_from : List AU.It → M DD := runB 3 f_is_from
theorem b_is_from {P : Program} {w : World} {K : PySem.W.Frag} {mg : Str → Option Value} {base : Heap} {cls : Nat → Value} (T : Txt K mg cls)  {f : Addr} : BodyOk P w K mg base cls N_is_from "is_from" (top 8) f 0 f_is_from := by
  intro cdv A outer s H E B hr hK hc hT
  subst hK hc
  exact (dss_one (ds_ret (de_and (de_isi rfl T.f_isinstance (da_cons (de_var 0) (da_cons (de_ty T.f_int) da_nil))) (de_and (de_not (de_isi rfl T.f_isinstance (da_cons (de_var 0) (da_cons (de_ty T.f_bool) da_nil)))) (de_one (de_lele (de_var 1) (de_var 0) (de_var 2)))))))
theorem c_is_from {P : Program} {w : World} {K : PySem.W.Frag} {mg : Str → Option Value} {base : Heap} {cls : Nat → Value} (T : Txt K mg cls)  {f : Addr} {fd : FuncData} (F : Fun K "is_from" "is_from" (top 8) f fd) (hm : mg "is_from" = some (.ref f)) : FnC P w K mg base cls "is_from" 3 1 m_is_from :=
  fnC_of F sc_is_from hm (F.binds fun _ _ _ _ _ _ us hl => match us, hl with | [_, _, _], _ => rfl) (b_is_from T )
/-! is_entry -/
def N_is_entry : List Str := ["value", "moods", "look"]
theorem sc_is_entry : FnScope N_is_entry ["value", "moods", "look"] (defScope (top 9)) := ⟨rfl, rfl, rfl, by decide +kernel, rfl, by decide +kernel, by decide +kernel⟩
def f_is_entry : SF := (sSeq (sIf (tOrD (tNotD (tV (eB bIsi (aCons (eVar 0) (aCons (eC (.raw (.ty "tuple"))) aNil))))) (tOrD (tV (eOp opNe (eB bLen (aCons (eVar 0) aNil)) (eC (.int 2)))) (tOrD (tNotD (tV (eB bIsi (aCons (eOp opIx (eVar 0) (eC (.int 0))) (aCons (eC (.raw (.ty "str"))) aNil))))) (tV (eOp opNotIn (eOp opIx (eVar 0) (eC (.int 0))) (eC (.tup [.str "leave", .str "take"])))))))
  (sRet (eC (.bl false)))
  sNil)
  (sSeq (sIf (tAndD (tV (eOp opEq (eOp opMod (eVar 2) (eC (.int 3))) (eC (.int 0)))) (tV (eOp opEq (eOp opIx (eVar 0) (eC (.int 0))) (eC (.str "take")))))
  (sRet (eC (.bl false)))
  sNil)
  (sRet (eCall m_is_from (iCons (eOp opIx (eVar 0) (eC (.int 1))) (iCons (eC (.int 0)) (iCons (eOp opSub (eVar 1) (eC (.int 1))) iNil)))))))
def m_is_entry : List AU.It → M DD := runB 3 f_is_entry
theorem b_is_entry {P : Program} {w : World} {K : PySem.W.Frag} {mg : Str → Option Value} {base : Heap} {cls : Nat → Value} (T : Txt K mg cls) (h_is_from : FnC P w K mg base cls "is_from" 3 1 m_is_from) {f : Addr} : BodyOk P w K mg base cls N_is_entry "is_entry" (top 9) f 1 f_is_entry := by
  intro cdv A outer s H E B hr hK hc hT
  subst hK hc
  exact (dss_cons (ds_if (dw_pt (dw_or (dt_not (dt_val (de_isi rfl T.f_isinstance (da_cons (de_var 0) (da_cons (de_ty T.f_tuple) da_nil))))) (dw_or (dt_ne rfl hr (de_len rfl T.f_len (da_cons (de_var 0) da_nil)) de_int) (dw_or (dt_not (dt_val (de_isi rfl T.f_isinstance (da_cons (de_ix rfl (de_var 0) de_int) (da_cons (de_ty T.f_str) da_nil))))) (dw_or1 (dt_notin rfl hr (de_ix rfl (de_var 0) de_int) (de_globT T.g_DEEDS)))))))
  (dss_one (ds_ret de_bl))
  dss_nil)
  (dss_cons (ds_if (dw_pt (dw_and (dt_eq rfl hr (de_mod (de_var 2) de_int) de_int) (dw_and1 (dt_eq rfl hr (de_ix rfl (de_var 0) de_int) de_str))))
  (dss_one (ds_ret de_bl))
  dss_nil)
  (dss_one (ds_ret (de_call h_is_from hr (by decide) rfl (takes_of rfl rfl rfl rfl) (di_cons (de_ix rfl (de_var 0) de_int) (di_cons de_int (di_cons (de_sub (de_var 1) de_int) di_nil))))))))
theorem c_is_entry {P : Program} {w : World} {K : PySem.W.Frag} {mg : Str → Option Value} {base : Heap} {cls : Nat → Value} (T : Txt K mg cls) (h_is_from : FnC P w K mg base cls "is_from" 3 1 m_is_from) {f : Addr} {fd : FuncData} (F : Fun K "is_entry" "is_entry" (top 9) f fd) (hm : mg "is_entry" = some (.ref f)) : FnC P w K mg base cls "is_entry" 3 2 m_is_entry :=
  fnC_of F sc_is_entry hm (F.binds fun _ _ _ _ _ _ us hl => match us, hl with | [_, _, _], _ => rfl) (b_is_entry T h_is_from)
/-! is_mood -/
def N_is_mood : List Str := ["value", "moods", "look", "entry"]
theorem sc_is_mood : FnScope N_is_mood ["value", "moods"] (defScope (top 10)) := ⟨rfl, rfl, rfl, by decide +kernel, rfl, by decide +kernel, by decide +kernel⟩
def f_is_mood : SF := (sSeq (sIf (tOrD (tNotD (tV (eB bIsi (aCons (eVar 0) (aCons (eC (.raw (.ty "tuple"))) aNil))))) (tV (eOp opNe (eB bLen (aCons (eVar 0) aNil)) (eC (.int 6)))))
  (sRet (eC (.bl false)))
  sNil)
  (sRet (eB bAll (aCons (eLc [2, 3] (jEnum (aCons (eVar 0) aNil)) (gT 2 (gsC (gN 2) (gsC (gN 3) gsN))) tYesD (eCall m_is_entry (iCons (eVar 3) (iCons (eVar 1) (iCons (eVar 2) iNil))))) aNil))))
def m_is_mood : List AU.It → M DD := runB 4 f_is_mood
theorem b_is_mood {P : Program} {w : World} {K : PySem.W.Frag} {mg : Str → Option Value} {base : Heap} {cls : Nat → Value} (T : Txt K mg cls) (h_is_entry : FnC P w K mg base cls "is_entry" 3 2 m_is_entry) {f : Addr} : BodyOk P w K mg base cls N_is_mood "is_mood" (top 10) f 2 f_is_mood := by
  intro cdv A outer s H E B hr hK hc hT
  subst hK hc
  exact (dss_cons (ds_if (dw_pt (dw_or (dt_not (dt_val (de_isi rfl T.f_isinstance (da_cons (de_var 0) (da_cons (de_ty T.f_tuple) da_nil))))) (dw_or1 (dt_ne rfl hr (de_len rfl T.f_len (da_cons (de_var 0) da_nil)) de_int))))
  (dss_one (ds_ret de_bl))
  dss_nil)
  (dss_one (ds_ret (de_all rfl rfl T.f_all (da_cons (de_lc (own := [("look", 2), ("entry", 3)]) rfl sc_is_mood.nd (dj_enum rfl T.f_enumerate (da_cons (de_var 0) da_nil)) (blkOk_by (by kernel_rfl)) (fun _ _ _ _ _ => (dg_tup rfl rfl (dgs_cons (dg_name 2 sc_is_mood.nd) (dgs_cons (dg_name 3 sc_is_mood.nd) dgs_nil)))) (fun _ _ _ _ _ => dts_nil) (fun _ _ _ _ _ => (de_call h_is_entry hr (by decide) rfl takes_none5 (di_cons (de_var 3) (di_cons (de_var 1) (di_cons (de_var 2) di_nil)))))) da_nil)))))
theorem c_is_mood {P : Program} {w : World} {K : PySem.W.Frag} {mg : Str → Option Value} {base : Heap} {cls : Nat → Value} (T : Txt K mg cls) (h_is_entry : FnC P w K mg base cls "is_entry" 3 2 m_is_entry) {f : Addr} {fd : FuncData} (F : Fun K "is_mood" "is_mood" (top 10) f fd) (hm : mg "is_mood" = some (.ref f)) : FnC P w K mg base cls "is_mood" 2 3 m_is_mood :=
  fnC_of F sc_is_mood hm (F.binds fun _ _ _ _ _ _ us hl => match us, hl with | [_, _], _ => rfl) (b_is_mood T h_is_entry)
/-! has_book -/
def N_has_book : List Str := ["value", "mood"]
theorem sc_has_book : FnScope N_has_book ["value"] (defScope (top 11)) := ⟨rfl, rfl, rfl, by decide +kernel, rfl, by decide +kernel, by decide +kernel⟩
def f_has_book : SF := (sSeq (sIf (tOrD (tNotD (tV (eB bIsi (aCons (eVar 0) (aCons (eC (.raw (.ty "tuple"))) aNil))))) (tNotD (tV (eChain opLe opLe (eC (.int 1)) (eB bLen (aCons (eVar 0) aNil)) (eC (.int 2))))))
  (sRet (eC (.bl false)))
  sNil)
  (sRet (eB bAll (aCons (eLc [1] (jSeq (eVar 0)) (gN 1) tYesD (eCall m_is_mood (iCons (eVar 1) (iCons (eB bLen (aCons (eVar 0) aNil)) iNil)))) aNil))))
def m_has_book : List AU.It → M DD := runB 2 f_has_book
theorem b_has_book {P : Program} {w : World} {K : PySem.W.Frag} {mg : Str → Option Value} {base : Heap} {cls : Nat → Value} (T : Txt K mg cls) (h_is_mood : FnC P w K mg base cls "is_mood" 2 3 m_is_mood) {f : Addr} : BodyOk P w K mg base cls N_has_book "has_book" (top 11) f 3 f_has_book := by
  intro cdv A outer s H E B hr hK hc hT
  subst hK hc
  exact (dss_cons (ds_if (dw_pt (dw_or (dt_not (dt_val (de_isi rfl T.f_isinstance (da_cons (de_var 0) (da_cons (de_ty T.f_tuple) da_nil))))) (dw_or1 (dt_not (dt_lele de_int (de_len rfl T.f_len (da_cons (de_var 0) da_nil)) (de_globI T.g_MOST_MOODS))))))
  (dss_one (ds_ret de_bl))
  dss_nil)
  (dss_one (ds_ret (de_all rfl rfl T.f_all (da_cons (de_lc (own := [("mood", 1)]) rfl sc_has_book.nd (dj_seq rfl (de_var 0)) (blkOk_by (by kernel_rfl)) (fun _ _ _ _ _ => (dg_name 1 sc_has_book.nd)) (fun _ _ _ _ _ => dts_nil) (fun _ _ _ _ _ => (de_call h_is_mood hr (by decide) rfl takes_none5 (di_cons (de_var 1) (di_cons (de_len rfl T.f_len (da_cons (de_var 0) da_nil)) di_nil))))) da_nil)))))
theorem c_has_book {P : Program} {w : World} {K : PySem.W.Frag} {mg : Str → Option Value} {base : Heap} {cls : Nat → Value} (T : Txt K mg cls) (h_is_mood : FnC P w K mg base cls "is_mood" 2 3 m_is_mood) {f : Addr} {fd : FuncData} (F : Fun K "has_book" "has_book" (top 11) f fd) (hm : mg "has_book" = some (.ref f)) : FnC P w K mg base cls "has_book" 1 4 m_has_book :=
  fnC_of F sc_has_book hm (F.binds fun _ _ _ _ _ _ us hl => match us, hl with | [_], _ => rfl) (b_has_book T h_is_mood)
/-! is_book -/
def N_is_book : List Str := ["value"]
theorem sc_is_book : FnScope N_is_book ["value"] (defScope (top 12)) := ⟨rfl, rfl, rfl, by decide +kernel, rfl, by decide +kernel, by decide +kernel⟩
def f_is_book : SF := (sRet (eCall m_has_book (iCons (eVar 0) iNil)))
def m_is_book : List AU.It → M DD := runB 1 f_is_book
theorem b_is_book {P : Program} {w : World} {K : PySem.W.Frag} {mg : Str → Option Value} {base : Heap} {cls : Nat → Value} (T : Txt K mg cls) (h_has_book : FnC P w K mg base cls "has_book" 1 4 m_has_book) {f : Addr} : BodyOk P w K mg base cls N_is_book "is_book" (top 12) f 4 f_is_book := by
  intro cdv A outer s H E B hr hK hc hT
  subst hK hc
  exact (dss_one (ds_ret (de_call h_has_book hr (by decide) rfl (takes_of rfl rfl rfl rfl) (di_cons (de_var 0) di_nil))))
theorem c_is_book {P : Program} {w : World} {K : PySem.W.Frag} {mg : Str → Option Value} {base : Heap} {cls : Nat → Value} (T : Txt K mg cls) (h_has_book : FnC P w K mg base cls "has_book" 1 4 m_has_book) {f : Addr} {fd : FuncData} (F : Fun K "is_book" "is_book" (top 12) f fd) (hm : mg "is_book" = some (.ref f)) : FnC P w K mg base cls "is_book" 1 5 m_is_book :=
  fnC_of F sc_is_book hm (F.binds fun _ _ _ _ _ _ us hl => match us, hl with | [_], _ => rfl) (b_is_book T h_has_book)
/-! need_climate -/
def N_need_climate : List Str := ["value"]
theorem sc_need_climate : FnScope N_need_climate ["value"] (defScope (top 13)) := ⟨rfl, rfl, rfl, by decide +kernel, rfl, by decide +kernel, by decide +kernel⟩
def f_need_climate : SF := (sIf (tOrD (tNotD (tV (eB bIsi (aCons (eVar 0) (aCons (eC (.raw (.ty "str"))) aNil))))) (tV (eOp opNotIn (eVar 0) (eC (.tup [.str "any", .str "days", .str "rare"])))))
  (sRaise kx_InvalidClimate)
  sNil)
def m_need_climate : List AU.It → M DD := runB 1 f_need_climate
theorem b_need_climate {P : Program} {w : World} {K : PySem.W.Frag} {mg : Str → Option Value} {base : Heap} {cls : Nat → Value} (T : Txt K mg cls)  {f : Addr} : BodyOk P w K mg base cls N_need_climate "need_climate" (top 13) f 0 f_need_climate := by
  intro cdv A outer s H E B hr hK hc hT
  subst hK hc
  exact (dss_one (ds_if (dw_pt (dw_or (dt_not (dt_val (de_isi rfl T.f_isinstance (da_cons (de_var 0) (da_cons (de_ty T.f_str) da_nil))))) (dw_or1 (dt_notin rfl hr (de_var 0) (de_globT T.g_CLIMATES)))))
  (dss_one (ds_raise rfl (takes_of rfl rfl rfl rfl) T.x_InvalidClimate))
  dss_nil))
theorem c_need_climate {P : Program} {w : World} {K : PySem.W.Frag} {mg : Str → Option Value} {base : Heap} {cls : Nat → Value} (T : Txt K mg cls)  {f : Addr} {fd : FuncData} (F : Fun K "need_climate" "need_climate" (top 13) f fd) (hm : mg "need_climate" = some (.ref f)) : FnC P w K mg base cls "need_climate" 1 1 m_need_climate :=
  fnC_of F sc_need_climate hm (F.binds fun _ _ _ _ _ _ us hl => match us, hl with | [_], _ => rfl) (b_need_climate T )
/-! is_row -/
def N_is_row : List Str := ["value", "rain"]
theorem sc_is_row : FnScope N_is_row ["value"] (defScope (top 14)) := ⟨rfl, rfl, rfl, by decide +kernel, rfl, by decide +kernel, by decide +kernel⟩
def f_is_row : SF := (sRet (eAnd (eB bIsi (aCons (eVar 0) (aCons (eC (.raw (.ty "tuple"))) aNil))) (eAnd (eOp opLe (eB bLen (aCons (eVar 0) aNil)) (eC (.int 100))) (eB bAll (aCons (eLc [1] (jSeq (eVar 0)) (gN 1) tYesD (eB bIsi (aCons (eVar 1) (aCons (eC (.raw (.ty "bool"))) aNil)))) aNil)))))
def m_is_row : List AU.It → M DD := runB 2 f_is_row
theorem b_is_row {P : Program} {w : World} {K : PySem.W.Frag} {mg : Str → Option Value} {base : Heap} {cls : Nat → Value} (T : Txt K mg cls)  {f : Addr} : BodyOk P w K mg base cls N_is_row "is_row" (top 14) f 0 f_is_row := by
  intro cdv A outer s H E B hr hK hc hT
  subst hK hc
  exact (dss_one (ds_ret (de_and (de_isi rfl T.f_isinstance (da_cons (de_var 0) (da_cons (de_ty T.f_tuple) da_nil))) (de_and (de_le (de_len rfl T.f_len (da_cons (de_var 0) da_nil)) (de_globI T.g_MOST_WALKS)) (de_one (de_all rfl rfl T.f_all (da_cons (de_lc (own := [("rain", 1)]) rfl sc_is_row.nd (dj_seq rfl (de_var 0)) (blkOk_by (by kernel_rfl)) (fun _ _ _ _ _ => (dg_name 1 sc_is_row.nd)) (fun _ _ _ _ _ => dts_nil) (fun _ _ _ _ _ => (de_isi rfl T.f_isinstance (da_cons (de_var 1) (da_cons (de_ty T.f_bool) da_nil))))) da_nil)))))))
theorem c_is_row {P : Program} {w : World} {K : PySem.W.Frag} {mg : Str → Option Value} {base : Heap} {cls : Nat → Value} (T : Txt K mg cls)  {f : Addr} {fd : FuncData} (F : Fun K "is_row" "is_row" (top 14) f fd) (hm : mg "is_row" = some (.ref f)) : FnC P w K mg base cls "is_row" 1 1 m_is_row :=
  fnC_of F sc_is_row hm (F.binds fun _ _ _ _ _ _ us hl => match us, hl with | [_], _ => rfl) (b_is_row T )
/-! lets -/
def N_lets : List Str := ["climate", "weather", "one", "other"]
theorem sc_lets : FnScope N_lets ["climate", "weather"] (defScope (top 15)) := ⟨rfl, rfl, rfl, by decide +kernel, rfl, by decide +kernel, by decide +kernel⟩
def f_lets : SF := (sSeq (sIf (tV (eOp opEq (eVar 0) (eC (.str "rare"))))
  (sRet (eNot (eB bAny (aCons (eLc [2, 3] (jZip (aCons (eVar 1) (aCons (eSl (eVar 1) (oSome (eC (.int 1))) oNo) aNil))) (gT 2 (gsC (gN 2) (gsC (gN 3) gsN))) tYesD (eAnd (eVar 2) (eVar 3))) aNil))))
  sNil)
  (sSeq (sIf (tV (eOp opEq (eVar 0) (eC (.str "days"))))
  (sRet (eB bAll (aCons (eLc [2, 3] (jZip (aCons (eSl2 0 (eVar 1)) (aCons (eSl2 1 (eVar 1)) aNil))) (gT 2 (gsC (gN 2) (gsC (gN 3) gsN))) tYesD (eOp opEq (eVar 2) (eVar 3))) aNil)))
  sNil)
  (sRet (eC (.bl true)))))
def m_lets : List AU.It → M DD := runB 4 f_lets
theorem b_lets {P : Program} {w : World} {K : PySem.W.Frag} {mg : Str → Option Value} {base : Heap} {cls : Nat → Value} (T : Txt K mg cls)  {f : Addr} : BodyOk P w K mg base cls N_lets "lets" (top 15) f 0 f_lets := by
  intro cdv A outer s H E B hr hK hc hT
  subst hK hc
  exact (dss_cons (ds_if (dt_eq rfl hr (de_var 0) de_str)
  (dss_one (ds_ret (de_not (de_any rfl rfl T.f_any (da_cons (de_lc (own := [("one", 2), ("other", 3)]) rfl sc_lets.nd (dj_zip rfl T.f_zip (da_cons (de_var 1) (da_cons (de_slice rfl (de_var 1) (do_some de_int) do_no) da_nil))) (blkOk_by (by kernel_rfl)) (fun _ _ _ _ _ => (dg_tup rfl rfl (dgs_cons (dg_name 2 sc_lets.nd) (dgs_cons (dg_name 3 sc_lets.nd) dgs_nil)))) (fun _ _ _ _ _ => dts_nil) (fun _ _ _ _ _ => (de_and (de_var 2) (de_one (de_var 3))))) da_nil)))))
  dss_nil)
  (dss_cons (ds_if (dt_eq rfl hr (de_var 0) de_str)
  (dss_one (ds_ret (de_all rfl rfl T.f_all (da_cons (de_lc (own := [("one", 2), ("other", 3)]) rfl sc_lets.nd (dj_zip rfl T.f_zip (da_cons (de_sl2 (c := 0) rfl rfl (de_var 1)) (da_cons (de_sl2 (c := 1) rfl rfl (de_var 1)) da_nil))) (blkOk_by (by kernel_rfl)) (fun _ _ _ _ _ => (dg_tup rfl rfl (dgs_cons (dg_name 2 sc_lets.nd) (dgs_cons (dg_name 3 sc_lets.nd) dgs_nil)))) (fun _ _ _ _ _ => dts_nil) (fun _ _ _ _ _ => (de_eq rfl hr (de_var 2) (de_var 3)))) da_nil))))
  dss_nil)
  (dss_one (ds_ret de_bl))))
theorem c_lets {P : Program} {w : World} {K : PySem.W.Frag} {mg : Str → Option Value} {base : Heap} {cls : Nat → Value} (T : Txt K mg cls)  {f : Addr} {fd : FuncData} (F : Fun K "lets" "lets" (top 15) f fd) (hm : mg "lets" = some (.ref f)) : FnC P w K mg base cls "lets" 2 1 m_lets :=
  fnC_of F sc_lets hm (F.binds fun _ _ _ _ _ _ us hl => match us, hl with | [_, _], _ => rfl) (b_lets T )
/-! is_weather -/
def N_is_weather : List Str := ["climate", "value"]
theorem sc_is_weather : FnScope N_is_weather ["climate", "value"] (defScope (top 16)) := ⟨rfl, rfl, rfl, by decide +kernel, rfl, by decide +kernel, by decide +kernel⟩
def f_is_weather : SF := (sSeq (sExpr (eCall m_need_climate (iCons (eVar 0) iNil)))
  (sRet (eAnd (eCall m_is_row (iCons (eVar 1) iNil)) (eCall m_lets (iCons (eVar 0) (iCons (eVar 1) iNil))))))
def m_is_weather : List AU.It → M DD := runB 2 f_is_weather
theorem b_is_weather {P : Program} {w : World} {K : PySem.W.Frag} {mg : Str → Option Value} {base : Heap} {cls : Nat → Value} (T : Txt K mg cls) (h_is_row : FnC P w K mg base cls "is_row" 1 1 m_is_row) (h_lets : FnC P w K mg base cls "lets" 2 1 m_lets) (h_need_climate : FnC P w K mg base cls "need_climate" 1 1 m_need_climate) {f : Addr} : BodyOk P w K mg base cls N_is_weather "is_weather" (top 16) f 1 f_is_weather := by
  intro cdv A outer s H E B hr hK hc hT
  subst hK hc
  exact (dss_cons (ds_expr (de_call h_need_climate hr (by decide) rfl (takes_of rfl rfl rfl rfl) (di_cons (de_var 0) di_nil)))
  (dss_one (ds_ret (de_and (de_call h_is_row hr (by decide) rfl (takes_of rfl rfl rfl rfl) (di_cons (de_var 1) di_nil)) (de_one (de_call h_lets hr (by decide) rfl (takes_of rfl rfl rfl rfl) (di_cons (de_var 0) (di_cons (de_var 1) di_nil))))))))
theorem c_is_weather {P : Program} {w : World} {K : PySem.W.Frag} {mg : Str → Option Value} {base : Heap} {cls : Nat → Value} (T : Txt K mg cls) (h_is_row : FnC P w K mg base cls "is_row" 1 1 m_is_row) (h_lets : FnC P w K mg base cls "lets" 2 1 m_lets) (h_need_climate : FnC P w K mg base cls "need_climate" 1 1 m_need_climate) {f : Addr} {fd : FuncData} (F : Fun K "is_weather" "is_weather" (top 16) f fd) (hm : mg "is_weather" = some (.ref f)) : FnC P w K mg base cls "is_weather" 2 2 m_is_weather :=
  fnC_of F sc_is_weather hm (F.binds fun _ _ _ _ _ _ us hl => match us, hl with | [_, _], _ => rfl) (b_is_weather T h_is_row h_lets h_need_climate)
/-! _law_source -/
def N__law_source : List Str := ["_law_script", "_law_k", "_law_cell"]
theorem sc__law_source : FnScope N__law_source ["_law_script", "_law_k"] (defScope (top 18)) := ⟨rfl, rfl, rfl, by decide +kernel, rfl, by decide +kernel, by decide +kernel⟩
def f__law_source : SF := (sSeq (sAsg (eIf (tV (eOp opLt (eVar 1) (eScLen 0))) (eB bAbs (aCons (eB bInt (aCons (eScAt 0 (eVar 1)) aNil)) aNil)) (eOp opAdd (eOp opMul (eC (.int 113)) (eVar 1)) (eC (.int 67)))) (gN 2))
  (sRetNew (nLst (aCons (eIf (tV (eOp opGt (eVar 2) (eOp opPow (eC (.int 10)) (eC (.int 17))))) (eVar 2) (eC (.int 0))) (aCons (eOp opMod (eB bInt (aCons (eOp opAdd (eOp opAdd (eOp opMul (eVar 2) (eC (.int 16807))) (eOp opMul (eC (.int 10067)) (eVar 1))) (eC (.int 89))) aNil)) (eC (.int 2147483237))) aNil)))))
def m__law_source : List AU.It → M (List DD) := runN 3 f__law_source
theorem b__law_source {P : Program} {w : World} {K : PySem.W.Frag} {mg : Str → Option Value} {base : Heap} {cls : Nat → Value} (T : Txt K mg cls)  {f : Addr} : BodyOk P w K mg base cls N__law_source "_law_source" (top 18) f 0 f__law_source := by
  intro cdv A outer s H E B hr hK hc hT
  subst hK hc
  exact (dss_cons (ds_asg (de_if (dt_lt (de_var 1) (de_scLen 0 rfl T.f_len)) (de_abs T.f_abs (da_cons (de_int1 T.f_int (da_cons (de_scAt 0 rfl (de_var 1)) da_nil)) da_nil)) (de_add rfl (de_mul rfl de_int (de_var 1)) de_int)) (dg_name 2 sc__law_source.nd))
  (dss_one (ds_retNew (dn_lst (da_cons (de_if (dt_gt (de_var 2) (de_pow de_int de_int)) (de_var 2) de_int) (da_cons (de_mod (de_int1 T.f_int (da_cons (de_add rfl (de_add rfl (de_mul rfl (de_var 2) de_int) (de_mul rfl de_int (de_var 1))) de_int) da_nil)) de_int) da_nil))))))
theorem c__law_source {P : Program} {w : World} {K : PySem.W.Frag} {mg : Str → Option Value} {base : Heap} {cls : Nat → Value} (T : Txt K mg cls)  {f : Addr} {fd : FuncData} (F : Fun K "_law_source" "_law_source" (top 18) f fd) (hm : mg "_law_source" = some (.ref f)) : FnN P w K mg base cls "_law_source" 2 1 m__law_source :=
  fnN_of F sc__law_source hm (F.binds fun _ _ _ _ _ _ us hl => match us, hl with | [_, _], _ => rfl) (b__law_source T )
/-! _law_draw -/
def N__law_draw : List Str := ["_law_source_here", "_law_many", "_law_wide", "_law_rest"]
theorem sc__law_draw : FnScope N__law_draw ["_law_source_here", "_law_many"] (defScope (top 19)) := ⟨rfl, rfl, rfl, by decide +kernel, rfl, by decide +kernel, by decide +kernel⟩
def f__law_draw : SF := (sSeq (sIf (tV (eOp opGt (eSrc 0 false) (eC (.int 0))))
  (sSeq (sAsg (eOp opMod (eB bInt (aCons (eSrc 0 false) aNil)) (eVar 1)) (gN 3))
  (sSeq (sSrcPut 0 false (eOp opDiv (eSrc 0 false) (eVar 1)))
  (sRet (eVar 3))))
  sNil)
  (sSeq (sSrcPut 0 true (eOp opMod (eB bInt (aCons (eOp opAdd (eOp opMul (eSrc 0 true) (eC (.int 48271))) (eC (.int 83))) aNil)) (eC (.int 2147483237))))
  (sSeq (sAsg (eOp opMod (eB bInt (aCons (eOp opMul (eSrc 0 true) (eOp opAdd (eOp opDiv (eSrc 0 true) (eC (.int 41))) (eC (.int 26)))) aNil)) (eC (.int 2147483179))) (gN 2))
  (sRet (eOp opMod (eB bInt (aCons (eOp opDiv (eVar 2) (eC (.int 32))) aNil)) (eVar 1))))))
def m__law_draw : List AU.It → M DD := runB 4 f__law_draw
theorem b__law_draw {P : Program} {w : World} {K : PySem.W.Frag} {mg : Str → Option Value} {base : Heap} {cls : Nat → Value} (T : Txt K mg cls)  {f : Addr} : BodyOk P w K mg base cls N__law_draw "_law_draw" (top 19) f 0 f__law_draw := by
  intro cdv A outer s H E B hr hK hc hT
  subst hK hc
  exact (dss_cons (ds_if (dt_gt (de_src 0 false rfl) de_int)
  (dss_cons (ds_asg (de_mod (de_int1 T.f_int (da_cons (de_src 0 false rfl) da_nil)) (de_var 1)) (dg_name 3 sc__law_draw.nd))
  (dss_cons (ds_srcPut 0 false rfl (de_div (de_src 0 false rfl) (de_var 1)))
  (dss_one (ds_ret (de_var 3)))))
  dss_nil)
  (dss_cons (ds_srcPut 0 true rfl (de_mod (de_int1 T.f_int (da_cons (de_add rfl (de_mul rfl (de_src 0 true rfl) de_int) de_int) da_nil)) de_int))
  (dss_cons (ds_asg (de_mod (de_int1 T.f_int (da_cons (de_mul rfl (de_src 0 true rfl) (de_add rfl (de_div (de_src 0 true rfl) de_int) de_int)) da_nil)) de_int) (dg_name 2 sc__law_draw.nd))
  (dss_one (ds_ret (de_mod (de_int1 T.f_int (da_cons (de_div (de_var 2) de_int) da_nil)) (de_var 1)))))))
theorem c__law_draw {P : Program} {w : World} {K : PySem.W.Frag} {mg : Str → Option Value} {base : Heap} {cls : Nat → Value} (T : Txt K mg cls)  {f : Addr} {fd : FuncData} (F : Fun K "_law_draw" "_law_draw" (top 19) f fd) (hm : mg "_law_draw" = some (.ref f)) : FnC P w K mg base cls "_law_draw" 2 1 m__law_draw :=
  fnC_of F sc__law_draw hm (F.binds fun _ _ _ _ _ _ us hl => match us, hl with | [_, _], _ => rfl) (b__law_draw T )
/-! _law_choice -/
def N__law_choice : List Str := ["_law_source_here", "_law_some"]
theorem sc__law_choice : FnScope N__law_choice ["_law_source_here", "_law_some"] (defScope (top 20)) := ⟨rfl, rfl, rfl, by decide +kernel, rfl, by decide +kernel, by decide +kernel⟩
def f__law_choice : SF := (sRet (eOp opIx (eVar 1) (eCall m__law_draw (iSrc 0 (iCons (eB bLen (aCons (eVar 1) aNil)) iNil)))))
def m__law_choice : List AU.It → M DD := runB 2 f__law_choice
theorem b__law_choice {P : Program} {w : World} {K : PySem.W.Frag} {mg : Str → Option Value} {base : Heap} {cls : Nat → Value} (T : Txt K mg cls) (h__law_draw : FnC P w K mg base cls "_law_draw" 2 1 m__law_draw) {f : Addr} : BodyOk P w K mg base cls N__law_choice "_law_choice" (top 20) f 1 f__law_choice := by
  intro cdv A outer s H E B hr hK hc hT
  subst hK hc
  exact (dss_one (ds_ret (de_ix rfl (de_var 1) (de_call h__law_draw hr (by decide) rfl (takes_of rfl rfl rfl rfl) (di_src 0 (di_cons (de_len rfl T.f_len (da_cons (de_var 1) da_nil)) di_nil))))))
theorem c__law_choice {P : Program} {w : World} {K : PySem.W.Frag} {mg : Str → Option Value} {base : Heap} {cls : Nat → Value} (T : Txt K mg cls) (h__law_draw : FnC P w K mg base cls "_law_draw" 2 1 m__law_draw) {f : Addr} {fd : FuncData} (F : Fun K "_law_choice" "_law_choice" (top 20) f fd) (hm : mg "_law_choice" = some (.ref f)) : FnC P w K mg base cls "_law_choice" 2 2 m__law_choice :=
  fnC_of F sc__law_choice hm (F.binds fun _ _ _ _ _ _ us hl => match us, hl with | [_, _], _ => rfl) (b__law_choice T h__law_draw)
/-! _law_from -/
def N__law_from : List Str := ["_law_value", "_law_low", "_law_high"]
theorem sc__law_from : FnScope N__law_from ["_law_value", "_law_low", "_law_high"] (defScope (top 21)) := ⟨rfl, rfl, rfl, by decide +kernel, rfl, by decide +kernel, by decide +kernel⟩
def f__law_from : SF := (sRet (eAnd (eB bIsi (aCons (eVar 0) (aCons (eC (.raw (.ty "int"))) aNil))) (eAnd (eNot (eB bIsi (aCons (eVar 0) (aCons (eC (.raw (.ty "bool"))) aNil)))) (eChain opLe opLe (eVar 1) (eVar 0) (eVar 2)))))
def m__law_from : List AU.It → M DD := runB 3 f__law_from
theorem b__law_from {P : Program} {w : World} {K : PySem.W.Frag} {mg : Str → Option Value} {base : Heap} {cls : Nat → Value} (T : Txt K mg cls)  {f : Addr} : BodyOk P w K mg base cls N__law_from "_law_from" (top 21) f 0 f__law_from := by
  intro cdv A outer s H E B hr hK hc hT
  subst hK hc
  exact (dss_one (ds_ret (de_and (de_isi rfl T.f_isinstance (da_cons (de_var 0) (da_cons (de_ty T.f_int) da_nil))) (de_and (de_not (de_isi rfl T.f_isinstance (da_cons (de_var 0) (da_cons (de_ty T.f_bool) da_nil)))) (de_one (de_lele (de_var 1) (de_var 0) (de_var 2)))))))
theorem c__law_from {P : Program} {w : World} {K : PySem.W.Frag} {mg : Str → Option Value} {base : Heap} {cls : Nat → Value} (T : Txt K mg cls)  {f : Addr} {fd : FuncData} (F : Fun K "_law_from" "_law_from" (top 21) f fd) (hm : mg "_law_from" = some (.ref f)) : FnC P w K mg base cls "_law_from" 3 1 m__law_from :=
  fnC_of F sc__law_from hm (F.binds fun _ _ _ _ _ _ us hl => match us, hl with | [_, _, _], _ => rfl) (b__law_from T )
/-! _law_book -/
def N__law_book : List Str := ["_law_source_here", "_law_moods", "_law_found", "_law_mood", "_law_rows", "_law_look", "_law_some"]
theorem sc__law_book : FnScope N__law_book ["_law_source_here"] (defScope (top 22)) := ⟨rfl, rfl, rfl, by decide +kernel, rfl, by decide +kernel, by decide +kernel⟩
def f__law_book_b1 : SF := (sSeq (sAsg (eIf (tV (eOp opEq (eOp opMod (eVar 5) (eC (.int 3))) (eC (.int 0)))) (eLst (aCons (eC (.str "leave")) aNil)) (eSl (eLst (aCons (eC (.str "take")) (aCons (eC (.str "leave")) (aCons (eC (.str "take")) (aCons (eC (.str "take")) aNil))))) (oSome (eIf (tV (eOp opGt (eVar 5) (eC (.int 3)))) (eC (.int 0)) (eC (.int 1)))) (oSome (eC (.int 4))))) (gN 6))
  (sAsg (eOp opAdd (eVar 4) (eTup (aCons (eTup (aCons (eCall m__law_choice (iSrc 0 (iCons (eVar 6) iNil))) (aCons (eCall m__law_draw (iSrc 0 (iCons (eVar 1) iNil))) aNil))) aNil))) (gN 4)))
def f__law_book_b2 : SF := (sSeq (sAsg (eTup aNil) (gN 4))
  (sSeq (sFor (jRng1 (aCons (eC (.int 6)) aNil)) (gN 5)
  (f__law_book_b1))
  (sAsg (eOp opAdd (eVar 2) (eTup (aCons (eVar 4) aNil))) (gN 2))))
def f__law_book : SF := (sSeq (sAsg (eOp opAdd (eC (.int 1)) (eCall m__law_draw (iSrc 0 (iCons (eC (.int 2)) iNil)))) (gN 1))
  (sSeq (sAsg (eTup aNil) (gN 2))
  (sSeq (sFor (jRng1 (aCons (eVar 1) aNil)) (gN 3)
  (f__law_book_b2))
  (sRet (eVar 2)))))
def m__law_book : List AU.It → M DD := runB 7 f__law_book
theorem b__law_book {P : Program} {w : World} {K : PySem.W.Frag} {mg : Str → Option Value} {base : Heap} {cls : Nat → Value} (T : Txt K mg cls) (h__law_choice : FnC P w K mg base cls "_law_choice" 2 2 m__law_choice) (h__law_draw : FnC P w K mg base cls "_law_draw" 2 1 m__law_draw) {f : Addr} : BodyOk P w K mg base cls N__law_book "_law_book" (top 22) f 2 f__law_book := by
  intro cdv A outer s H E B hr hK hc hT
  subst hK hc
  exact (dss_cons (ds_asg (de_add rfl de_int (de_call h__law_draw hr (by decide) rfl (takes_of rfl rfl rfl rfl) (di_src 0 (di_cons de_int di_nil)))) (dg_name 1 sc__law_book.nd))
  (dss_cons (ds_asg (de_tup da_nil) (dg_name 2 sc__law_book.nd))
  (dss_cons (ds_for rfl (passes_of rfl) rfl (dj_rng1 T.f_range (da_cons (de_var 1) da_nil)) (dg_name 3 sc__law_book.nd)
  (dss_cons (ds_asg (de_tup da_nil) (dg_name 4 sc__law_book.nd))
  (dss_cons (ds_for rfl (passes_of rfl) rfl (dj_rng1 T.f_range (da_cons de_int da_nil)) (dg_name 5 sc__law_book.nd)
  (dss_cons (ds_asg (de_if (dt_eq rfl hr (de_mod (de_var 5) de_int) de_int) (de_lst (da_cons de_str da_nil)) (de_slice rfl (de_lst (da_cons de_str (da_cons de_str (da_cons de_str (da_cons de_str da_nil))))) (do_some (de_if (dt_gt (de_var 5) de_int) de_int de_int)) (do_some de_int))) (dg_name 6 sc__law_book.nd))
  (dss_one (ds_asg (de_add rfl (de_var 4) (de_tup (da_cons (de_tup (da_cons (de_call h__law_choice hr (by decide) rfl (takes_of rfl rfl rfl rfl) (di_src 0 (di_cons (de_var 6) di_nil))) (da_cons (de_call h__law_draw hr (by decide) rfl (takes_of rfl rfl rfl rfl) (di_src 0 (di_cons (de_var 1) di_nil))) da_nil))) da_nil))) (dg_name 4 sc__law_book.nd)))))
  (dss_one (ds_asg (de_add rfl (de_var 2) (de_tup (da_cons (de_var 4) da_nil))) (dg_name 2 sc__law_book.nd))))))
  (dss_one (ds_ret (de_var 2))))))
theorem c__law_book {P : Program} {w : World} {K : PySem.W.Frag} {mg : Str → Option Value} {base : Heap} {cls : Nat → Value} (T : Txt K mg cls) (h__law_choice : FnC P w K mg base cls "_law_choice" 2 2 m__law_choice) (h__law_draw : FnC P w K mg base cls "_law_draw" 2 1 m__law_draw) {f : Addr} {fd : FuncData} (F : Fun K "_law_book" "_law_book" (top 22) f fd) (hm : mg "_law_book" = some (.ref f)) : FnC P w K mg base cls "_law_book" 1 3 m__law_book :=
  fnC_of F sc__law_book hm (F.binds fun _ _ _ _ _ _ us hl => match us, hl with | [_], _ => rfl) (b__law_book T h__law_choice h__law_draw)
/-! _law_allowed -/
def N__law_allowed : List Str := ["_law_climate", "_law_weather_here", "_law_rain"]
theorem sc__law_allowed : FnScope N__law_allowed ["_law_climate", "_law_weather_here", "_law_rain"] (defScope (top 23)) := ⟨rfl, rfl, rfl, by decide +kernel, rfl, by decide +kernel, by decide +kernel⟩
def f__law_allowed : SF := (sSeq (sIf (tV (eOp opEq (eVar 0) (eC (.str "rare"))))
  (sRet (eNot (eAnd (eVar 2) (eOp opEq (eSl (eVar 1) (oSome (eNeg (eC (.int 1)))) oNo) (eTup (aCons (eC (.bl true)) aNil))))))
  sNil)
  (sSeq (sIf (tAndD (tV (eOp opEq (eVar 0) (eC (.str "days")))) (tV (eOp opEq (eOp opMod (eB bLen (aCons (eVar 1) aNil)) (eC (.int 2))) (eC (.int 1)))))
  (sRet (eOp opEq (eVar 2) (eOp opIx (eVar 1) (eNeg (eC (.int 1))))))
  sNil)
  (sRet (eC (.bl true)))))
def m__law_allowed : List AU.It → M DD := runB 3 f__law_allowed
theorem b__law_allowed {P : Program} {w : World} {K : PySem.W.Frag} {mg : Str → Option Value} {base : Heap} {cls : Nat → Value} (T : Txt K mg cls)  {f : Addr} : BodyOk P w K mg base cls N__law_allowed "_law_allowed" (top 23) f 0 f__law_allowed := by
  intro cdv A outer s H E B hr hK hc hT
  subst hK hc
  exact (dss_cons (ds_if (dt_eq rfl hr (de_var 0) de_str)
  (dss_one (ds_ret (de_not (de_and (de_var 2) (de_one (de_eq rfl hr (de_slice rfl (de_var 1) (do_some (de_ng de_int)) do_no) (de_tup (da_cons de_bl da_nil))))))))
  dss_nil)
  (dss_cons (ds_if (dw_pt (dw_and (dt_eq rfl hr (de_var 0) de_str) (dw_and1 (dt_eq rfl hr (de_mod (de_len rfl T.f_len (da_cons (de_var 1) da_nil)) de_int) de_int))))
  (dss_one (ds_ret (de_eq rfl hr (de_var 2) (de_ix rfl (de_var 1) (de_ng de_int)))))
  dss_nil)
  (dss_one (ds_ret de_bl))))
theorem c__law_allowed {P : Program} {w : World} {K : PySem.W.Frag} {mg : Str → Option Value} {base : Heap} {cls : Nat → Value} (T : Txt K mg cls)  {f : Addr} {fd : FuncData} (F : Fun K "_law_allowed" "_law_allowed" (top 23) f fd) (hm : mg "_law_allowed" = some (.ref f)) : FnC P w K mg base cls "_law_allowed" 3 1 m__law_allowed :=
  fnC_of F sc__law_allowed hm (F.binds fun _ _ _ _ _ _ us hl => match us, hl with | [_, _, _], _ => rfl) (b__law_allowed T )
/-! _law_weather -/
def N__law_weather : List Str := ["_law_source_here", "_law_climate", "_law_most", "_law_found", "_law_turn", "_law_some", "_law_rain"]
theorem sc__law_weather : FnScope N__law_weather ["_law_source_here", "_law_climate", "_law_most"] (defScope (top 24)) := ⟨rfl, rfl, rfl, by decide +kernel, rfl, by decide +kernel, by decide +kernel⟩
def f__law_weather_b1 : SF := (sSeq (sAsg (eLc [6] (jSeq (eTup (aCons (eC (.bl false)) (aCons (eC (.bl true)) aNil)))) (gN 6) (tV (eCall m__law_allowed (iCons (eVar 1) (iCons (eVar 3) (iCons (eVar 6) iNil))))) (eVar 6)) (gN 5))
  (sAsg (eOp opAdd (eVar 3) (eTup (aCons (eCall m__law_choice (iSrc 0 (iCons (eVar 5) iNil))) aNil))) (gN 3)))
def f__law_weather : SF := (sSeq (sAsg (eTup aNil) (gN 3))
  (sSeq (sFor (jRng1 (aCons (eCall m__law_draw (iSrc 0 (iCons (eOp opAdd (eVar 2) (eC (.int 1))) iNil))) aNil)) (gN 4)
  (f__law_weather_b1))
  (sRet (eVar 3))))
def m__law_weather : List AU.It → M DD := runB 7 f__law_weather
theorem b__law_weather {P : Program} {w : World} {K : PySem.W.Frag} {mg : Str → Option Value} {base : Heap} {cls : Nat → Value} (T : Txt K mg cls) (h__law_allowed : FnC P w K mg base cls "_law_allowed" 3 1 m__law_allowed) (h__law_choice : FnC P w K mg base cls "_law_choice" 2 2 m__law_choice) (h__law_draw : FnC P w K mg base cls "_law_draw" 2 1 m__law_draw) {f : Addr} : BodyOk P w K mg base cls N__law_weather "_law_weather" (top 24) f 2 f__law_weather := by
  intro cdv A outer s H E B hr hK hc hT
  subst hK hc
  exact (dss_cons (ds_asg (de_tup da_nil) (dg_name 3 sc__law_weather.nd))
  (dss_cons (ds_for rfl (passes_of rfl) rfl (dj_rng1 T.f_range (da_cons (de_call h__law_draw hr (by decide) rfl (takes_of rfl rfl rfl rfl) (di_src 0 (di_cons (de_add rfl (de_var 2) de_int) di_nil))) da_nil)) (dg_name 4 sc__law_weather.nd)
  (dss_cons (ds_setLc 5 (own := [("_law_rain", 6)]) rfl sc__law_weather.nd (dj_seq rfl (de_tup (da_cons de_bl (da_cons de_bl da_nil)))) (blkOk_by (by kernel_rfl)) (fun _ _ _ _ _ => (dg_name 6 sc__law_weather.nd)) (fun _ _ _ _ _ => (dts_one (dt_val (de_call h__law_allowed hr (by decide) rfl takes_none5 (di_cons (de_var 1) (di_cons (de_var 3) (di_cons (de_var 6) di_nil))))))) (fun _ _ _ _ _ => (de_var 6)))
  (dss_one (ds_asg (de_add rfl (de_var 3) (de_tup (da_cons (de_call h__law_choice hr (by decide) rfl (takes_of rfl rfl rfl rfl) (di_src 0 (di_cons (de_var 5) di_nil))) da_nil))) (dg_name 3 sc__law_weather.nd)))))
  (dss_one (ds_ret (de_var 3)))))
theorem c__law_weather {P : Program} {w : World} {K : PySem.W.Frag} {mg : Str → Option Value} {base : Heap} {cls : Nat → Value} (T : Txt K mg cls) (h__law_allowed : FnC P w K mg base cls "_law_allowed" 3 1 m__law_allowed) (h__law_choice : FnC P w K mg base cls "_law_choice" 2 2 m__law_choice) (h__law_draw : FnC P w K mg base cls "_law_draw" 2 1 m__law_draw) {f : Addr} {fd : FuncData} (F : Fun K "_law_weather" "_law_weather" (top 24) f fd) (hm : mg "_law_weather" = some (.ref f)) : FnC P w K mg base cls "_law_weather" 3 3 m__law_weather :=
  fnC_of F sc__law_weather hm (F.binds fun _ _ _ _ _ _ us hl => match us, hl with | [_, _, _], _ => rfl) (b__law_weather T h__law_allowed h__law_choice h__law_draw)
/-! _law_is_book -/
def N__law_is_book : List Str := ["_law_value", "_law_mood", "_law_look", "_law_row"]
theorem sc__law_is_book : FnScope N__law_is_book ["_law_value"] (defScope (top 25)) := ⟨rfl, rfl, rfl, by decide +kernel, rfl, by decide +kernel, by decide +kernel⟩
def f__law_is_book_b1 : SF := (sSeq (sIf (tOrD (tNotD (tV (eB bIsi (aCons (eVar 3) (aCons (eC (.raw (.ty "tuple"))) aNil))))) (tOrD (tV (eOp opNe (eB bLen (aCons (eVar 3) aNil)) (eC (.int 2)))) (tNotD (tV (eB bIsi (aCons (eOp opIx (eVar 3) (eC (.int 0))) (aCons (eC (.raw (.ty "str"))) aNil)))))))
  (sRet (eC (.bl false)))
  sNil)
  (sSeq (sIf (tV (eOp opNotIn (eOp opIx (eVar 3) (eC (.int 0))) (eIf (tV (eOp opIn (eVar 2) (eLst (aCons (eC (.int 0)) (aCons (eC (.int 3)) aNil))))) (eLst (aCons (eC (.str "leave")) aNil)) (eLst (aCons (eC (.str "leave")) (aCons (eC (.str "take")) aNil))))))
  (sRet (eC (.bl false)))
  sNil)
  (sIf (tNotD (tV (eCall m__law_from (iCons (eOp opIx (eVar 3) (eC (.int 1))) (iCons (eC (.int 0)) (iCons (eOp opSub (eB bLen (aCons (eVar 0) aNil)) (eC (.int 1))) iNil))))))
  (sRet (eC (.bl false)))
  sNil)))
def f__law_is_book_b2 : SF := (sSeq (sIf (tOrD (tNotD (tV (eB bIsi (aCons (eVar 1) (aCons (eC (.raw (.ty "tuple"))) aNil))))) (tV (eOp opNe (eB bLen (aCons (eVar 1) aNil)) (eC (.int 6)))))
  (sRet (eC (.bl false)))
  sNil)
  (sFor (jEnum (aCons (eVar 1) aNil)) (gT 2 (gsC (gN 2) (gsC (gN 3) gsN)))
  (f__law_is_book_b1)))
def f__law_is_book : SF := (sSeq (sIf (tOrD (tNotD (tV (eB bIsi (aCons (eVar 0) (aCons (eC (.raw (.ty "tuple"))) aNil))))) (tV (eOp opNotIn (eB bLen (aCons (eVar 0) aNil)) (eLst (aCons (eC (.int 1)) (aCons (eC (.int 2)) aNil))))))
  (sRet (eC (.bl false)))
  sNil)
  (sSeq (sFor (jSeq (eVar 0)) (gN 1)
  (f__law_is_book_b2))
  (sRet (eC (.bl true)))))
def m__law_is_book : List AU.It → M DD := runB 4 f__law_is_book
theorem b__law_is_book {P : Program} {w : World} {K : PySem.W.Frag} {mg : Str → Option Value} {base : Heap} {cls : Nat → Value} (T : Txt K mg cls) (h__law_from : FnC P w K mg base cls "_law_from" 3 1 m__law_from) {f : Addr} : BodyOk P w K mg base cls N__law_is_book "_law_is_book" (top 25) f 1 f__law_is_book := by
  intro cdv A outer s H E B hr hK hc hT
  subst hK hc
  exact (dss_cons (ds_if (dw_pt (dw_or (dt_not (dt_val (de_isi rfl T.f_isinstance (da_cons (de_var 0) (da_cons (de_ty T.f_tuple) da_nil))))) (dw_or1 (dt_notin rfl hr (de_len rfl T.f_len (da_cons (de_var 0) da_nil)) (de_lst (da_cons de_int (da_cons de_int da_nil)))))))
  (dss_one (ds_ret de_bl))
  dss_nil)
  (dss_cons (ds_for rfl (passes_of rfl) rfl (dj_seq rfl (de_var 0)) (dg_name 1 sc__law_is_book.nd)
  (dss_cons (ds_if (dw_pt (dw_or (dt_not (dt_val (de_isi rfl T.f_isinstance (da_cons (de_var 1) (da_cons (de_ty T.f_tuple) da_nil))))) (dw_or1 (dt_ne rfl hr (de_len rfl T.f_len (da_cons (de_var 1) da_nil)) de_int))))
  (dss_one (ds_ret de_bl))
  dss_nil)
  (dss_one (ds_for rfl (passes_of rfl) rfl (dj_enum rfl T.f_enumerate (da_cons (de_var 1) da_nil)) (dg_tup rfl rfl (dgs_cons (dg_name 2 sc__law_is_book.nd) (dgs_cons (dg_name 3 sc__law_is_book.nd) dgs_nil)))
  (dss_cons (ds_if (dw_pt (dw_or (dt_not (dt_val (de_isi rfl T.f_isinstance (da_cons (de_var 3) (da_cons (de_ty T.f_tuple) da_nil))))) (dw_or (dt_ne rfl hr (de_len rfl T.f_len (da_cons (de_var 3) da_nil)) de_int) (dw_or1 (dt_not (dt_val (de_isi rfl T.f_isinstance (da_cons (de_ix rfl (de_var 3) de_int) (da_cons (de_ty T.f_str) da_nil)))))))))
  (dss_one (ds_ret de_bl))
  dss_nil)
  (dss_cons (ds_if (dt_notin rfl hr (de_ix rfl (de_var 3) de_int) (de_if (dt_in rfl hr (de_var 2) (de_lst (da_cons de_int (da_cons de_int da_nil)))) (de_lst (da_cons de_str da_nil)) (de_lst (da_cons de_str (da_cons de_str da_nil)))))
  (dss_one (ds_ret de_bl))
  dss_nil)
  (dss_one (ds_if (dt_not (dt_val (de_call h__law_from hr (by decide) rfl (takes_of rfl rfl rfl rfl) (di_cons (de_ix rfl (de_var 3) de_int) (di_cons de_int (di_cons (de_sub (de_len rfl T.f_len (da_cons (de_var 0) da_nil)) de_int) di_nil))))))
  (dss_one (ds_ret de_bl))
  dss_nil))))))))
  (dss_one (ds_ret de_bl))))
theorem c__law_is_book {P : Program} {w : World} {K : PySem.W.Frag} {mg : Str → Option Value} {base : Heap} {cls : Nat → Value} (T : Txt K mg cls) (h__law_from : FnC P w K mg base cls "_law_from" 3 1 m__law_from) {f : Addr} {fd : FuncData} (F : Fun K "_law_is_book" "_law_is_book" (top 25) f fd) (hm : mg "_law_is_book" = some (.ref f)) : FnC P w K mg base cls "_law_is_book" 1 2 m__law_is_book :=
  fnC_of F sc__law_is_book hm (F.binds fun _ _ _ _ _ _ us hl => match us, hl with | [_], _ => rfl) (b__law_is_book T h__law_from)
/-! _law_is_weather -/
def N__law_is_weather : List Str := ["_law_climate", "_law_value", "_law_rain", "_law_at"]
theorem sc__law_is_weather : FnScope N__law_is_weather ["_law_climate", "_law_value"] (defScope (top 26)) := ⟨rfl, rfl, rfl, by decide +kernel, rfl, by decide +kernel, by decide +kernel⟩
def f__law_is_weather : SF := (sSeq (sIf (tOrD (tNotD (tV (eB bIsi (aCons (eVar 1) (aCons (eC (.raw (.ty "tuple"))) aNil))))) (tV (eOp opGt (eB bLen (aCons (eVar 1) aNil)) (eC (.int 100)))))
  (sRet (eC (.bl false)))
  sNil)
  (sSeq (sIf (tV (eOp opNe (eLc [2] (jSeq (eVar 1)) (gN 2) (tNotD (tV (eB bIsi (aCons (eVar 2) (aCons (eC (.raw (.ty "bool"))) aNil))))) (eVar 2)) (eLst aNil)))
  (sRet (eC (.bl false)))
  sNil)
  (sRet (eOp opEq (eLc [3] (jRng1 (aCons (eB bLen (aCons (eVar 1) aNil)) aNil)) (gN 3) (tNotD (tV (eCall m__law_allowed (iCons (eVar 0) (iCons (eSl (eVar 1) oNo (oSome (eVar 3))) (iCons (eOp opIx (eVar 1) (eVar 3)) iNil)))))) (eVar 3)) (eLst aNil)))))
def m__law_is_weather : List AU.It → M DD := runB 4 f__law_is_weather
theorem b__law_is_weather {P : Program} {w : World} {K : PySem.W.Frag} {mg : Str → Option Value} {base : Heap} {cls : Nat → Value} (T : Txt K mg cls) (h__law_allowed : FnC P w K mg base cls "_law_allowed" 3 1 m__law_allowed) {f : Addr} : BodyOk P w K mg base cls N__law_is_weather "_law_is_weather" (top 26) f 1 f__law_is_weather := by
  intro cdv A outer s H E B hr hK hc hT
  subst hK hc
  exact (dss_cons (ds_if (dw_pt (dw_or (dt_not (dt_val (de_isi rfl T.f_isinstance (da_cons (de_var 1) (da_cons (de_ty T.f_tuple) da_nil))))) (dw_or1 (dt_gt (de_len rfl T.f_len (da_cons (de_var 1) da_nil)) de_int))))
  (dss_one (ds_ret de_bl))
  dss_nil)
  (dss_cons (ds_if (dt_ne rfl hr (de_lc (own := [("_law_rain", 2)]) rfl sc__law_is_weather.nd (dj_seq rfl (de_var 1)) (blkOk_by (by kernel_rfl)) (fun _ _ _ _ _ => (dg_name 2 sc__law_is_weather.nd)) (fun _ _ _ _ _ => (dts_one (dt_not (dt_val (de_isi rfl T.f_isinstance (da_cons (de_var 2) (da_cons (de_ty T.f_bool) da_nil))))))) (fun _ _ _ _ _ => (de_var 2))) (de_lst da_nil))
  (dss_one (ds_ret de_bl))
  dss_nil)
  (dss_one (ds_ret (de_eq rfl hr (de_lc (own := [("_law_at", 3)]) rfl sc__law_is_weather.nd (dj_rng1 T.f_range (da_cons (de_len rfl T.f_len (da_cons (de_var 1) da_nil)) da_nil)) (blkOk_by (by kernel_rfl)) (fun _ _ _ _ _ => (dg_name 3 sc__law_is_weather.nd)) (fun _ _ _ _ _ => (dts_one (dt_not (dt_val (de_call h__law_allowed hr (by decide) rfl takes_none5 (di_cons (de_var 0) (di_cons (de_slice rfl (de_var 1) do_no (do_some (de_var 3))) (di_cons (de_ix rfl (de_var 1) (de_var 3)) di_nil)))))))) (fun _ _ _ _ _ => (de_var 3))) (de_lst da_nil))))))
theorem c__law_is_weather {P : Program} {w : World} {K : PySem.W.Frag} {mg : Str → Option Value} {base : Heap} {cls : Nat → Value} (T : Txt K mg cls) (h__law_allowed : FnC P w K mg base cls "_law_allowed" 3 1 m__law_allowed) {f : Addr} {fd : FuncData} (F : Fun K "_law_is_weather" "_law_is_weather" (top 26) f fd) (hm : mg "_law_is_weather" = some (.ref f)) : FnC P w K mg base cls "_law_is_weather" 2 2 m__law_is_weather :=
  fnC_of F sc__law_is_weather hm (F.binds fun _ _ _ _ _ _ us hl => match us, hl with | [_, _], _ => rfl) (b__law_is_weather T h__law_allowed)
/-! _law_bent -/
def N__law_bent : List Str := ["_law_source_here", "_law_value", "_law_way", "_law_some", "_law_at"]
theorem sc__law_bent : FnScope N__law_bent ["_law_source_here", "_law_value"] (defScope (top 27)) := ⟨rfl, rfl, rfl, by decide +kernel, rfl, by decide +kernel, by decide +kernel⟩
def f__law_bent (rec_ : List AU.It → M DD) : SF := (sSeq (sAsg (eCall m__law_draw (iSrc 0 (iCons (eC (.int 6)) iNil))) (gN 2))
  (sSeq (sIf (tAndD (tV (eB bIsi (aCons (eVar 1) (aCons (eC (.raw (.ty "tuple"))) aNil)))) (tAndD (tV (eOp opNe (eVar 1) (eTup aNil))) (tV (eOp opGt (eVar 2) (eC (.int 0))))))
  (sSeq (sAsg (eCall m__law_draw (iSrc 0 (iCons (eB bLen (aCons (eVar 1) aNil)) iNil))) (gN 4))
  (sSeq (sIf (tV (eOp opEq (eVar 2) (eC (.int 1))))
  (sRet (eOp opAdd (eSl (eVar 1) oNo (oSome (eVar 4))) (eSl (eVar 1) (oSome (eOp opAdd (eVar 4) (eC (.int 1)))) oNo)))
  sNil)
  (sSeq (sIf (tV (eOp opEq (eVar 2) (eC (.int 2))))
  (sRet (eOp opAdd (eSl (eVar 1) oNo (oSome (eOp opAdd (eVar 4) (eC (.int 1))))) (eSl (eVar 1) (oSome (eVar 4)) oNo)))
  sNil)
  (sRet (eOp opAdd (eOp opAdd (eSl (eVar 1) oNo (oSome (eVar 4))) (eTup (aCons (eCall rec_ (iSrc 0 (iCons (eOp opIx (eVar 1) (eVar 4)) iNil))) aNil))) (eSl (eVar 1) (oSome (eOp opAdd (eVar 4) (eC (.int 1)))) oNo))))))
  sNil)
  (sSeq (sAsg (eLst (aCons (eC .non) (aCons (eC (.bl true)) (aCons (eC (.bl false)) (aCons (eC (.bl true)) (aCons (eC (.bl false)) (aCons (eC (.int 0)) (aCons (eC (.int 1)) (aCons (eC (.int 2)) (aCons (eNeg (eC (.int 1))) (aCons (eC (.str "")) (aCons (eC (.str "take")) (aCons (eC (.str "leave")) (aCons (eC (.str "lose")) (aCons (eTup aNil) (aCons (eLst aNil) (aCons (eTup (aCons (eC (.str "take")) (aCons (eC (.int 0)) aNil))) (aCons (eTup (aCons (eC (.str "leave")) (aCons (eC (.int 1)) aNil))) aNil)))))))))))))))))) (gN 3))
  (sRet (eCall m__law_choice (iSrc 0 (iCons (eOp opAdd (eVar 3) (eLst (aCons (eLst (aCons (eC (.str "leave")) (aCons (eC (.int 0)) aNil))) (aCons (eOp opPow (eC (.int 10)) (eC (.int 30))) (aCons (eC (.str "Take")) (aCons (eTup (aCons (eC (.bl true)) aNil)) (aCons (eTup (aCons (eC (.str "leave")) (aCons (eC (.bl true)) aNil))) aNil))))))) iNil)))))))
def m__law_bent_ : Nat → List AU.It → M DD
  | 0 => runB 5 fun _ _ => none
  | n + 1 => runB 5 (f__law_bent (m__law_bent_ n))
def m__law_bent : List AU.It → M DD := m__law_bent_ 20
theorem b__law_bent {P : Program} {w : World} {K : PySem.W.Frag} {mg : Str → Option Value} {base : Heap} {cls : Nat → Value} (T : Txt K mg cls) (h__law_choice : FnC P w K mg base cls "_law_choice" 2 2 m__law_choice) (h__law_draw : FnC P w K mg base cls "_law_draw" 2 1 m__law_draw) {rec_ : List AU.It → M DD} {j : Nat} (hj : 2 ≤ j) (h_rec : FnC P w K mg base cls "_law_bent" 2 j rec_) {f : Addr} : BodyOk P w K mg base cls N__law_bent "_law_bent" (top 27) f j (f__law_bent rec_) := by
  intro cdv A outer s H E B hr hK hc hT
  subst hK hc
  exact (dss_cons (ds_asg (de_call h__law_draw hr (by omega) rfl (takes_of rfl rfl rfl rfl) (di_src 0 (di_cons de_int di_nil))) (dg_name 2 sc__law_bent.nd))
  (dss_cons (ds_if (dw_pt (dw_and (dt_val (de_isi rfl T.f_isinstance (da_cons (de_var 1) (da_cons (de_ty T.f_tuple) da_nil)))) (dw_and (dt_ne rfl hr (de_var 1) (de_tup da_nil)) (dw_and1 (dt_gt (de_var 2) de_int)))))
  (dss_cons (ds_asg (de_call h__law_draw hr (by omega) rfl (takes_of rfl rfl rfl rfl) (di_src 0 (di_cons (de_len rfl T.f_len (da_cons (de_var 1) da_nil)) di_nil))) (dg_name 4 sc__law_bent.nd))
  (dss_cons (ds_if (dt_eq rfl hr (de_var 2) de_int)
  (dss_one (ds_ret (de_add rfl (de_slice rfl (de_var 1) do_no (do_some (de_var 4))) (de_slice rfl (de_var 1) (do_some (de_add rfl (de_var 4) de_int)) do_no))))
  dss_nil)
  (dss_cons (ds_if (dt_eq rfl hr (de_var 2) de_int)
  (dss_one (ds_ret (de_add rfl (de_slice rfl (de_var 1) do_no (do_some (de_add rfl (de_var 4) de_int))) (de_slice rfl (de_var 1) (do_some (de_var 4)) do_no))))
  dss_nil)
  (dss_one (ds_ret (de_add rfl (de_add rfl (de_slice rfl (de_var 1) do_no (do_some (de_var 4))) (de_tup (da_cons (de_call h_rec hr (by omega) rfl (takes_of rfl rfl rfl rfl) (di_src 0 (di_cons (de_ix rfl (de_var 1) (de_var 4)) di_nil))) da_nil))) (de_slice rfl (de_var 1) (do_some (de_add rfl (de_var 4) de_int)) do_no)))))))
  dss_nil)
  (dss_cons (ds_asg (de_lst (da_cons de_non (da_cons de_bl (da_cons de_bl (da_cons de_bl (da_cons de_bl (da_cons de_int (da_cons de_int (da_cons de_int (da_cons (de_ng de_int) (da_cons de_str (da_cons de_str (da_cons de_str (da_cons de_str (da_cons (de_tup da_nil) (da_cons (de_lst da_nil) (da_cons (de_tup (da_cons de_str (da_cons de_int da_nil))) (da_cons (de_tup (da_cons de_str (da_cons de_int da_nil))) da_nil)))))))))))))))))) (dg_name 3 sc__law_bent.nd))
  (dss_one (ds_ret (de_call h__law_choice hr (by omega) rfl (takes_of rfl rfl rfl rfl) (di_src 0 (di_cons (de_add rfl (de_var 3) (de_lst (da_cons (de_lst (da_cons de_str (da_cons de_int da_nil))) (da_cons (de_pow de_int de_int) (da_cons de_str (da_cons (de_tup (da_cons de_bl da_nil)) (da_cons (de_tup (da_cons de_str (da_cons de_bl da_nil))) da_nil))))))) di_nil))))))))
theorem r__law_bent {P : Program} {w : World} {K : PySem.W.Frag} {mg : Str → Option Value} {base : Heap} {cls : Nat → Value} (T : Txt K mg cls) (h__law_choice : FnC P w K mg base cls "_law_choice" 2 2 m__law_choice) (h__law_draw : FnC P w K mg base cls "_law_draw" 2 1 m__law_draw) {f : Addr} {fd : FuncData} (F : Fun K "_law_bent" "_law_bent" (top 27) f fd) (hm : mg "_law_bent" = some (.ref f)) : ∀ d : Nat, FnC P w K mg base cls "_law_bent" 2 (3 + d) (m__law_bent_ d)
  | 0 => fnC_of F sc__law_bent hm (F.binds fun _ _ _ _ _ _ us hl => match us, hl with | [_, _], _ => rfl) fun _ _ _ _ _ _ _ _ _ _ _ => dss_stk
  | d + 1 => fnC_of (k := 3 + d) F sc__law_bent hm (F.binds fun _ _ _ _ _ _ us hl => match us, hl with | [_, _], _ => rfl) (b__law_bent T h__law_choice h__law_draw (by omega) (r__law_bent T h__law_choice h__law_draw F hm d))
theorem c__law_bent {P : Program} {w : World} {K : PySem.W.Frag} {mg : Str → Option Value} {base : Heap} {cls : Nat → Value} (T : Txt K mg cls) (h__law_choice : FnC P w K mg base cls "_law_choice" 2 2 m__law_choice) (h__law_draw : FnC P w K mg base cls "_law_draw" 2 1 m__law_draw) {f : Addr} {fd : FuncData} (F : Fun K "_law_bent" "_law_bent" (top 27) f fd) (hm : mg "_law_bent" = some (.ref f)) : FnC P w K mg base cls "_law_bent" 2 23 m__law_bent := r__law_bent T h__law_choice h__law_draw F hm 20
/-! _law_told -/
def N__law_told : List Str := ["_law_climate", "_law_value", "_law_due", "_law_turn", "_law_found", "_law_truth"]
theorem sc__law_told : FnScope N__law_told ["_law_climate", "_law_value"] (defScope (top 28)) := ⟨rfl, rfl, rfl, by decide +kernel, rfl, by decide +kernel, by decide +kernel⟩
def f__law_told_b1 : SF := (sSeq (sAsg (eLst (aCons (eCall m_is_book (iCons (eVar 1) iNil)) (aCons (eCall m_is_weather (iCons (eVar 0) (iCons (eVar 1) iNil))) aNil))) (gN 4))
  (sIf (tOrD (tV (eOp opNe (eVar 4) (eVar 2))) (tV (eOp opNe (eLc [5] (jSeq (eVar 4)) (gN 5) (tNotD (tV (eB bIsi (aCons (eVar 5) (aCons (eC (.raw (.ty "bool"))) aNil))))) (eVar 5)) (eLst aNil))))
  (sRet (eC (.bl false)))
  sNil))
def f__law_told : SF := (sSeq (sAsg (eLst (aCons (eCall m__law_is_book (iCons (eVar 1) iNil)) (aCons (eCall m__law_is_weather (iCons (eVar 0) (iCons (eVar 1) iNil))) aNil))) (gN 2))
  (sSeq (sFor (jRng1 (aCons (eC (.int 2)) aNil)) (gN 3)
  (f__law_told_b1))
  (sRet (eC (.bl true)))))
def m__law_told : List AU.It → M DD := runB 6 f__law_told
theorem b__law_told {P : Program} {w : World} {K : PySem.W.Frag} {mg : Str → Option Value} {base : Heap} {cls : Nat → Value} (T : Txt K mg cls) (h__law_is_book : FnC P w K mg base cls "_law_is_book" 1 2 m__law_is_book) (h__law_is_weather : FnC P w K mg base cls "_law_is_weather" 2 2 m__law_is_weather) (h_is_book : FnC P w K mg base cls "is_book" 1 5 m_is_book) (h_is_weather : FnC P w K mg base cls "is_weather" 2 2 m_is_weather) {f : Addr} : BodyOk P w K mg base cls N__law_told "_law_told" (top 28) f 5 f__law_told := by
  intro cdv A outer s H E B hr hK hc hT
  subst hK hc
  exact (dss_cons (ds_asg (de_lst (da_cons (de_call h__law_is_book hr (by decide) rfl (takes_of rfl rfl rfl rfl) (di_cons (de_var 1) di_nil)) (da_cons (de_call h__law_is_weather hr (by decide) rfl (takes_of rfl rfl rfl rfl) (di_cons (de_var 0) (di_cons (de_var 1) di_nil))) da_nil))) (dg_name 2 sc__law_told.nd))
  (dss_cons (ds_for rfl (passes_of rfl) rfl (dj_rng1 T.f_range (da_cons de_int da_nil)) (dg_name 3 sc__law_told.nd)
  (dss_cons (ds_asg (de_lst (da_cons (de_call h_is_book hr (by decide) rfl (takes_of rfl rfl rfl rfl) (di_cons (de_var 1) di_nil)) (da_cons (de_call h_is_weather hr (by decide) rfl (takes_of rfl rfl rfl rfl) (di_cons (de_var 0) (di_cons (de_var 1) di_nil))) da_nil))) (dg_name 4 sc__law_told.nd))
  (dss_one (ds_if (dw_pt (dw_or (dt_ne rfl hr (de_var 4) (de_var 2)) (dw_or1 (dt_ne rfl hr (de_lc (own := [("_law_truth", 5)]) rfl sc__law_told.nd (dj_seq rfl (de_var 4)) (blkOk_by (by kernel_rfl)) (fun _ _ _ _ _ => (dg_name 5 sc__law_told.nd)) (fun _ _ _ _ _ => (dts_one (dt_not (dt_val (de_isi rfl T.f_isinstance (da_cons (de_var 5) (da_cons (de_ty T.f_bool) da_nil))))))) (fun _ _ _ _ _ => (de_var 5))) (de_lst da_nil)))))
  (dss_one (ds_ret de_bl))
  dss_nil))))
  (dss_one (ds_ret de_bl))))
theorem c__law_told {P : Program} {w : World} {K : PySem.W.Frag} {mg : Str → Option Value} {base : Heap} {cls : Nat → Value} (T : Txt K mg cls) (h__law_is_book : FnC P w K mg base cls "_law_is_book" 1 2 m__law_is_book) (h__law_is_weather : FnC P w K mg base cls "_law_is_weather" 2 2 m__law_is_weather) (h_is_book : FnC P w K mg base cls "is_book" 1 5 m_is_book) (h_is_weather : FnC P w K mg base cls "is_weather" 2 2 m_is_weather) {f : Addr} {fd : FuncData} (F : Fun K "_law_told" "_law_told" (top 28) f fd) (hm : mg "_law_told" = some (.ref f)) : FnC P w K mg base cls "_law_told" 2 6 m__law_told :=
  fnC_of F sc__law_told hm (F.binds fun _ _ _ _ _ _ us hl => match us, hl with | [_, _], _ => rfl) (b__law_told T h__law_is_book h__law_is_weather h_is_book h_is_weather)
/-! _law_refused -/
def N__law_refused : List Str := ["_law_odd"]
theorem sc__law_refused : FnScope N__law_refused ["_law_odd"] (defScope (top 29)) := ⟨rfl, rfl, rfl, by decide +kernel, rfl, by decide +kernel, by decide +kernel⟩
def f__law_refused : SF := (sSeq (sTry nx_ (sExpr (eCall m_is_weather (iCons (eVar 0) (iCons (eC .non) iNil)))) [(kx_InvalidClimate, (sRet (eC (.bl true))))])
  (sRet (eC (.bl false))))
def m__law_refused : List AU.It → M DD := runB 1 f__law_refused
theorem b__law_refused {P : Program} {w : World} {K : PySem.W.Frag} {mg : Str → Option Value} {base : Heap} {cls : Nat → Value} (T : Txt K mg cls) (h_is_weather : FnC P w K mg base cls "is_weather" 2 2 m_is_weather) {f : Addr} : BodyOk P w K mg base cls N__law_refused "_law_refused" (top 29) f 2 f__law_refused := by
  intro cdv A outer s H E B hr hK hc hT
  subst hK hc
  exact (dss_cons (ds_try rfl rfl rfl (takes_of rfl rfl rfl rfl) T.exm (fun _ _ _ t o => (dss_one (ds_expr (de_call h_is_weather hr (by decide) rfl t (di_cons (de_var 0) (di_cons de_non di_nil)))))) (HdsD.cons (by decide) ⟨rfl, by decide, .inl T.mg_InvalidClimate⟩ (fun _ _ _ => (dss_one (ds_ret de_bl))) HdsD.nil))
  (dss_one (ds_ret de_bl)))
theorem c__law_refused {P : Program} {w : World} {K : PySem.W.Frag} {mg : Str → Option Value} {base : Heap} {cls : Nat → Value} (T : Txt K mg cls) (h_is_weather : FnC P w K mg base cls "is_weather" 2 2 m_is_weather) {f : Addr} {fd : FuncData} (F : Fun K "_law_refused" "_law_refused" (top 29) f fd) (hm : mg "_law_refused" = some (.ref f)) : FnC P w K mg base cls "_law_refused" 1 3 m__law_refused :=
  fnC_of F sc__law_refused hm (F.binds fun _ _ _ _ _ _ us hl => match us, hl with | [_], _ => rfl) (b__law_refused T h_is_weather)
end AUL
namespace AUL
open PySem PySem.Spec PyProof.Rows L2 AU
/-! ### books.py, reckoned out -/
theorem ok_plain {n : Nat} {v : DD} (h : okN n v = true) : plain1 v = true := by
  cases v <;> first | rfl | (simp [okN, DD.pure] at h)
theorem ok_inA {n : Nat} : ∀ {xs : List DD}, DD.pureA xs = true → PyData.canLayAll0 (DD.pyA xs) = true → PyData.depthAll (DD.pyA xs) ≤ n → ∀ x ∈ xs, okN n x = true
  | [], _, _, _, x, hx => by cases hx
  | y :: ys, h1, h2, h3, x, hx => by
    simp only [DD.pureA, DD.pyA, PyData.canLayAll0, PyData.depthAll, Bool.and_eq_true] at h1 h2 h3
    rcases List.mem_cons.mp hx with rfl | hx
    · simp only [okN, Bool.and_eq_true, decide_eq_true_eq]
      exact ⟨⟨h1.1, h2.1⟩, by omega⟩
    · exact ok_inA h1.2 h2.2 (by omega) x hx
theorem ok_in {n : Nat} {xs : List DD} (h : okN n (.tup xs) = true) : ∀ x ∈ xs, okN n x = true := by
  simp only [okN, DD.pure, DD.py, PyData.canLay0, PyData.depth, Bool.and_eq_true, decide_eq_true_eq] at h
  exact ok_inA h.1.1 h.1.2 (by omega)
theorem ok_inL {n : Nat} {xs : List DD} (h : okN n (.lst xs) = true) : ∀ x ∈ xs, okN n x = true := by
  simp only [okN, DD.pure, DD.py, PyData.canLay0, PyData.depth, Bool.and_eq_true, decide_eq_true_eq] at h
  exact ok_inA h.1.1 h.1.2 (by omega)
theorem ok_str {n : Nat} {s : Str} (h : okN n (.str s) = true) : PyData.strOk s = true := by
  simp only [okN, DD.pure, DD.py, PyData.canLay0, PyData.depth, Bool.and_eq_true, decide_eq_true_eq] at h
  exact h.1.2
@[simp] theorem ok_leave : PyData.strOk "leave" = true := by decide +kernel
@[simp] theorem ok_take : PyData.strOk "take" = true := by decide +kernel
@[simp] theorem leave_take : (("leave" : Str) = "take") = False := eq_false (by decide +kernel)
@[simp] theorem take_leave : (("take" : Str) = "leave") = False := eq_false (by decide +kernel)
def isFrom (v : DD) (lo hi : Int) : Bool := match v with
  | .int i => decide (lo ≤ i) && decide (i ≤ hi)
  | _ => false
theorem e_is_from (v : DD) (lo hi : Int) (S : Sr) (h : plain1 v = true) : m_is_from [.d v, .d (.int lo), .d (.int hi)] S = some (.ok (.bl (isFrom v lo hi)), S) := by
  cases v with
  | int i =>
    by_cases h1 : lo ≤ i
    · simp [m_is_from, runB, env0, f_is_from, isFrom, h1]
    · simp [m_is_from, runB, env0, f_is_from, isFrom, h1]
  | raw v => cases h
  | dct k v => cases h
  | _ => simp [m_is_from, runB, env0, f_is_from, isFrom]
/-- what a row must be -/
def entryOk (v : DD) (moods look : Int) : Bool := match v with
  | .tup [.str s, x] => (decide (s = "leave") || decide (s = "take")) && !(decide (look % 3 = 0) && decide (s = "take")) && isFrom x 0 (moods - 1)
  | _ => false
theorem e_is_entry {n : Nat} (v : DD) (moods look : Int) (S : Sr) (h : okN n v = true) : m_is_entry [.d v, .d (.int moods), .d (.int look)] S = some (.ok (.bl (entryOk v moods look)), S) := by
  cases v with
  | raw v => simp [okN, DD.pure] at h
  | dct k v => simp [okN, DD.pure] at h
  | tup xs =>
    have hi := ok_in h
    match xs, hi with
    | [], hi => simp [m_is_entry, runB, env0, f_is_entry, entryOk]
    | [a], hi => simp [m_is_entry, runB, env0, f_is_entry, entryOk]
    | a :: b :: c :: r, hi =>
      have : ¬ ((r.length : Int) + 1 + 1 + 1 = 2) := by omega
      simp [m_is_entry, runB, env0, f_is_entry, entryOk, this]
    | [a, b], hi =>
      have ha := hi a (by simp)
      have hb := hi b (by simp)
      have hpa := ok_plain ha
      have hpb := ok_plain hb
      have e0 : atI [a, b] 0 = some a := AU.atI_nat (i := 0) rfl
      have e1 : atI [a, b] 1 = some b := AU.atI_nat (i := 1) rfl
      cases a with
      | str s =>
        have hs := ok_str ha
        have e2 : opNotIn (.str s) (.tup [.str "leave", .str "take"]) = AU.ret (.bl (!decide (s ∈ (["leave", "take"] : List Str)))) := opNotIn_strs (xs := ["leave", "take"]) hs (by intro y hy; simp at hy; rcases hy with rfl | rfl <;> simp)
        have e3 : ∀ S, m_is_from [.d b, .d (.int 0), .d (.int (moods - 1))] S = some (.ok (.bl (isFrom b 0 (moods - 1))), S) := fun S => e_is_from b 0 (moods - 1) S hpb
        by_cases h1 : s = "leave"
        · subst h1
          by_cases h3 : look % 3 = 0
          · simp [m_is_entry, runB, env0, f_is_entry, entryOk, e0, e1, e2, e3, h3]
          · simp [m_is_entry, runB, env0, f_is_entry, entryOk, e0, e1, e2, e3, h3]
        · by_cases h2 : s = "take"
          · subst h2
            by_cases h3 : look % 3 = 0
            · simp [m_is_entry, runB, env0, f_is_entry, entryOk, e0, e1, e2, e3, h3]
            · simp [m_is_entry, runB, env0, f_is_entry, entryOk, e0, e1, e2, e3, h3]
          · simp [m_is_entry, runB, env0, f_is_entry, entryOk, e0, e1, e2, e3, h1, h2]
      | raw v => cases hpa
      | dct k v => cases hpa
      | _ => simp [m_is_entry, runB, env0, f_is_entry, entryOk, e0, e1]
  | _ => simp [m_is_entry, runB, env0, f_is_entry, entryOk]
/-- what a mood must be -/
def moodOk (v : DD) (moods : Int) : Bool := match v with
  | .tup xs => decide (xs.length = 6) && ((List.range xs.length).zip xs).all fun p => entryOk p.2 moods (p.1 : Nat)
  | _ => false
def bookOk (v : DD) : Bool := match v with
  | .tup xs => (decide (xs.length = 1) || decide (xs.length = 2)) && xs.all fun m => moodOk m xs.length
  | _ => false
theorem e_is_mood {n : Nat} (v : DD) (moods : Int) (S : Sr) (h : okN n v = true) : m_is_mood [.d v, .d (.int moods)] S = some (.ok (.bl (moodOk v moods)), S) := by
  cases v with
  | raw v => simp [okN, DD.pure] at h
  | dct k v => simp [okN, DD.pure] at h
  | tup xs =>
    have hi := ok_in h
    by_cases hl : xs.length = 6
    · have hz : szOk xs.length = true := by rw [hl]; rfl
      have hl' : ((xs.length : Int) = 6) = True := eq_true (by omega)
      simp [m_is_mood, runB, env0, f_is_mood, enumZ, ← List.range_eq_range', hl', hz]
      rw [lcD_mapF (fun p : Nat × DD => DD.bl (entryOk p.2 moods (p.1 : Nat))) fun p hp => ⟨_, rfl, ?_⟩]
      · simp [bAll_map, moodOk, hl]
      · simp [e_is_entry p.2 moods (p.1 : Nat) (0, 0) (hi p.2 (List.of_mem_zip hp).2)]
    · have hl' : ((xs.length : Int) = 6) = False := eq_false (by omega)
      simp [m_is_mood, runB, env0, f_is_mood, moodOk, hl', hl]
  | _ => simp [m_is_mood, runB, env0, f_is_mood, moodOk]
theorem e_has_book {n : Nat} (v : DD) (S : Sr) (h : okN n v = true) : m_has_book [.d v] S = some (.ok (.bl (bookOk v)), S) := by
  cases v with
  | raw v => simp [okN, DD.pure] at h
  | dct k v => simp [okN, DD.pure] at h
  | tup xs =>
    have hi := ok_in h
    by_cases hl : xs.length = 1 ∨ xs.length = 2
    · have hz : szOk xs.length = true := by rcases hl with e | e <;> rw [e] <;> rfl
      have h1 : ((1 : Int) ≤ xs.length) = True := eq_true (by omega)
      have h2 : ((xs.length : Int) ≤ 2) = True := eq_true (by omega)
      simp [m_has_book, runB, env0, f_has_book, h1, h2, hz]
      have e0 : xs = xs.map id := by simp
      rw [show lcD (gN 1) tYesD = lcD (gN 1) tYesD from rfl]
      conv => lhs; rw [e0]
      rw [lcD_mapF (h := id) (fun m => DD.bl (moodOk m xs.length)) fun p hp => ⟨_, rfl, ?_⟩]
      · simp [bAll_map, bookOk, hl]
      · simp [e_is_mood p xs.length (0, 0) (hi p hp)]
    · have h1 : (decide ((1 : Int) ≤ xs.length) && decide ((xs.length : Int) ≤ 2)) = false := by
        simp
        omega
      by_cases h3 : (1 : Int) ≤ xs.length
      · have h4 : ¬ ((xs.length : Int) ≤ 2) := by omega
        simp [m_has_book, runB, env0, f_has_book, h3, h4, bookOk, hl]
      · simp [m_has_book, runB, env0, f_has_book, h3, bookOk, hl]
  | _ => simp [m_has_book, runB, env0, f_has_book, bookOk]
end AUL
namespace AUL
open PySem PySem.Spec PyProof.Rows L2 AU
def rowOk : DD → Bool
  | .tup xs => decide (xs.length ≤ 100) && xs.all isBo
  | _ => false
theorem e_is_row {n : Nat} (v : DD) (S : Sr) (h : okN n v = true) : m_is_row [.d v] S = some (.ok (.bl (rowOk v)), S) := by
  cases v with
  | raw v => simp [okN, DD.pure] at h
  | dct k v => simp [okN, DD.pure] at h
  | tup xs =>
    have hi := ok_in h
    by_cases hl : xs.length ≤ 100
    · have hz : szOk xs.length = true := by unfold szOk; exact decide_eq_true (by omega)
      have h1 : ((xs.length : Int) ≤ 100) = True := eq_true (by omega)
      simp [m_is_row, runB, env0, f_is_row, h1, hz]
      have e0 : xs = xs.map id := by simp
      conv => lhs; rw [e0]
      rw [lcD_mapF (h := id) (fun m => DD.bl (isBo m)) fun p hp => ⟨_, rfl, ?_⟩]
      · simp [bAll_map, rowOk, hl]
        rfl
      · simp [bIsi_bool p (ok_plain (hi p hp))]
    · have h1 : ((xs.length : Int) ≤ 100) = False := eq_false (by omega)
      simp [m_is_row, runB, env0, f_is_row, h1, rowOk, hl]
  | _ => simp [m_is_row, runB, env0, f_is_row, rowOk]
/-! ### books as data -/
abbrev Bk := List (List (Bool × Nat))
def rowD (r : Bool × Nat) : DD := .tup [.str (if r.1 = true then "take" else "leave"), .int (r.2 : Nat)]
def moodD (m : List (Bool × Nat)) : DD := .tup (m.map rowD)
def bookD (b : Bk) : DD := .tup (b.map moodD)
structure WF (b : Bk) : Prop where
  len : b.length = 1 ∨ b.length = 2
  six : ∀ m ∈ b, m.length = 6
  row : ∀ m ∈ b, ∀ (i : Nat) (r : Bool × Nat), m[i]? = some r → (i % 3 = 0 → r.1 = false) ∧ r.2 < b.length
theorem ok_rowD (r : Bool × Nat) : okN 1 (rowD r) = true := okN_tup fun x hx => by
  simp only [List.mem_cons, List.not_mem_nil, or_false] at hx
  rcases hx with rfl | rfl
  · exact okN_str (by split <;> simp)
  · exact okN_int _
theorem ok_moodD (m : List (Bool × Nat)) : okN 2 (moodD m) = true := okN_tup fun x hx => by
  obtain ⟨r, _, rfl⟩ := List.mem_map.mp hx
  exact ok_rowD r
theorem ok_bookD (b : Bk) : okN 3 (bookD b) = true := okN_tup fun x hx => by
  obtain ⟨r, _, rfl⟩ := List.mem_map.mp hx
  exact ok_moodD r
theorem WF.ok {b : Bk} (w : WF b) : bookOk (bookD b) = true := by
  unfold bookOk bookD
  simp only [List.length_map, Bool.and_eq_true, Bool.or_eq_true, decide_eq_true_eq, List.all_eq_true]
  refine ⟨w.len, fun x hx => ?_⟩
  obtain ⟨m, hm, rfl⟩ := List.mem_map.mp hx
  unfold moodOk moodD
  simp only [List.length_map, Bool.and_eq_true, decide_eq_true_eq, List.all_eq_true]
  refine ⟨w.six m hm, fun p hp => ?_⟩
  obtain ⟨i, hi, e⟩ := List.mem_iff_getElem.mp hp
  have hi' : i < m.length := by
    simp at hi
    exact hi
  have e1 : p = (i, rowD m[i]) := by
    rw [← e]
    simp
  rw [e1]
  obtain ⟨h1, h2⟩ := w.row m hm i m[i] (List.getElem?_eq_getElem hi')
  unfold entryOk rowD isFrom
  have h3 : ((i : Int) % 3 = 0) → i % 3 = 0 := fun z => by omega
  cases hb : (m[i]).1 with
  | true =>
    have h4 : ¬ ((i : Int) % 3 = 0) := fun z => by
      have := h1 (h3 z)
      rw [hb] at this
      cases this
    simp [h4]
    omega
  | false =>
    simp
    omega
theorem ok_bls (ws : List Bool) : okN 1 (.tup (ws.map DD.bl)) = true := okN_tup fun x hx => by
  obtain ⟨b, _, rfl⟩ := List.mem_map.mp hx
  exact okN_bl b
theorem ok_blsL (ws : List Bool) : okN 1 (.lst (ws.map DD.bl)) = true := okN_lst fun x hx => by
  obtain ⟨b, _, rfl⟩ := List.mem_map.mp hx
  exact okN_bl b
theorem row_bls {ws : List Bool} (h : ws.length ≤ 100) : rowOk (.tup (ws.map DD.bl)) = true := by
  unfold rowOk
  simp [h]
theorem mem_rangeZip {α : Type} {ws : List α} {p : Nat × α} (h : p ∈ (List.range ws.length).zip ws) : ws[p.1]? = some p.2 := by
  obtain ⟨i, hi, e⟩ := List.mem_iff_getElem.mp h
  simp at hi
  have : p = (i, ws[i]) := by rw [← e]; simp
  rw [this]
  exact List.getElem?_eq_getElem hi
end AUL
namespace AUL
open PySem PySem.Spec PyProof.Rows L2 AU
/-! ### draws -/
theorem opPow_int (i j : Int) : opPow (.int i) (.int j) = if (decide (0 ≤ j) && decide (j ≤ 1000) && decide (i.natAbs < 1000)) = true then AU.ret (.int (i ^ j.toNat)) else stk := rfl
theorem e_draw (many : Int) (S : Sr) (h0 : 0 < many) (h1 : many < 10 ^ 40) : ∃ r S', m__law_draw [.s, .d (.int many)] S = some (.ok (.int r), S') ∧ 0 ≤ r ∧ r < many := by
  have hc : cDiv S.1 many = true := by
    unfold cDiv
    simp [h0]
    exact h1
  by_cases hS : 0 < S.1
  · refine ⟨S.1 % many, (S.1 / many, S.2), ?_, Int.emod_nonneg _ (by omega), Int.emod_lt_of_pos _ h0⟩
    simp [m__law_draw, runB, env0, f__law_draw, hS, h0, hc]
  · have hy1 := Int.emod_nonneg (S.2 * 48271 + 83) (show (2147483237 : Int) ≠ 0 by decide)
    have hy2 := Int.emod_lt_of_pos (S.2 * 48271 + 83) (show (0 : Int) < 2147483237 by decide)
    have hd : cDiv ((S.2 * 48271 + 83) % 2147483237) 41 = true := by unfold cDiv; decide
    have hd2 : ∀ z, cDiv z 32 = true := fun z => by unfold cDiv; decide
    have hm : ((S.2 * 48271 + 83) % 2147483237).natAbs < 18446744073709551616 := by omega
    refine ⟨(((S.2 * 48271 + 83) % 2147483237 * ((S.2 * 48271 + 83) % 2147483237 / 41 + 26)) % 2147483179 / 32) % many, (S.1, (S.2 * 48271 + 83) % 2147483237), ?_, Int.emod_nonneg _ (by omega), Int.emod_lt_of_pos _ h0⟩
    simp [m__law_draw, runB, env0, f__law_draw, hS, h0, hd, hd2, hm]
theorem e_choice (xs : List DD) (S : Sr) (h : xs ≠ []) (h2 : xs.length ≤ 1000) : ∃ x S', m__law_choice [.s, .d (.lst xs)] S = some (.ok x, S') ∧ x ∈ xs := by
  have hl : 0 < xs.length := List.length_pos_iff.mpr h
  obtain ⟨r, S', e, r0, r1⟩ := e_draw xs.length S (by omega) (by omega)
  have hr : r.toNat < xs.length := by omega
  have e2 : atI xs r = some xs[r.toNat] := by
    have := AU.atI_nat (xs := xs) (i := r.toNat) (List.getElem?_eq_getElem hr)
    rwa [show ((r.toNat : Nat) : Int) = r by omega] at this
  exact ⟨xs[r.toNat], S', by simp [m__law_choice, runB, env0, f__law_choice, e, e2], List.getElem_mem hr⟩
/-! ### a random book -/
theorem e_book_b1 (moods : Nat) (x1 x2 x3 : DD) (m1 : moods = 1 ∨ moods = 2) (look : Nat) (hlk : look < 6) (rows : List (Bool × Nat)) (x6 : Option AU.It) (S : Sr) (hr : rows.length ≤ 6) :
    ∃ r : Bool × Nat, ∃ x6' S', f__law_book_b1 [some .s, some (.d (.int moods)), some (.d x2), some (.d x3), some (.d (.tup (rows.map rowD))), some (.d (.int look)), x6] S = some (.nx [some .s, some (.d (.int moods)), some (.d x2), some (.d x3), some (.d (.tup ((rows ++ [r]).map rowD))), some (.d (.int look)), x6'] S') ∧ (look % 3 = 0 → r.1 = false) ∧ r.2 < moods := by
  have hz : szOk (rows.length + 1) = true := decide_eq_true (by omega)
  obtain ⟨some_, hs, hne, hle, hmem⟩ : ∃ some_ : List DD, (∀ S, (eIf (tV (eOp opEq (eOp opMod (eVar 5) (eC (.int 3))) (eC (.int 0)))) (eLst (aCons (eC (.str "leave")) aNil)) (eSl (eLst (aCons (eC (.str "take")) (aCons (eC (.str "leave")) (aCons (eC (.str "take")) (aCons (eC (.str "take")) aNil))))) (oSome (eIf (tV (eOp opGt (eVar 5) (eC (.int 3)))) (eC (.int 0)) (eC (.int 1)))) (oSome (eC (.int 4))))) [some .s, some (.d (.int moods)), some (.d x2), some (.d x3), some (.d (.tup (rows.map rowD))), some (.d (.int look)), x6] S = some (.ok (.lst some_), S)) ∧
      some_ ≠ [] ∧ some_.length ≤ 1000 ∧ ∀ x ∈ some_, ∃ t : Bool, x = .str (if t = true then "take" else "leave") ∧ (look % 3 = 0 → t = false) := by
    by_cases h3 : look % 3 = 0
    · have h3' : (look : Int) % 3 = 0 := by omega
      refine ⟨[.str "leave"], fun S => by simp [h3'], by simp, by simp, fun x hx => ⟨false, by simpa using hx, fun _ => rfl⟩⟩
    · have h3' : ¬ ((look : Int) % 3 = 0) := by omega
      by_cases h4 : 3 < look
      · have h4' : (3 : Int) < look := by omega
        refine ⟨[.str "take", .str "leave", .str "take", .str "take"], fun S => by simp [h3', h4']; rfl, by simp, by simp, fun x hx => ?_⟩
        simp only [List.mem_cons, List.not_mem_nil, or_false] at hx
        rcases hx with rfl | rfl | rfl | rfl
        · exact ⟨true, rfl, fun z => absurd z h3⟩
        · exact ⟨false, rfl, fun z => absurd z h3⟩
        · exact ⟨true, rfl, fun z => absurd z h3⟩
        · exact ⟨true, rfl, fun z => absurd z h3⟩
      · have h4' : ¬ (3 : Int) < look := by omega
        refine ⟨[.str "leave", .str "take", .str "take"], fun S => by simp [h3', h4']; rfl, by simp, by simp, fun x hx => ?_⟩
        simp only [List.mem_cons, List.not_mem_nil, or_false] at hx
        rcases hx with rfl | rfl | rfl
        · exact ⟨false, rfl, fun z => absurd z h3⟩
        · exact ⟨true, rfl, fun z => absurd z h3⟩
        · exact ⟨true, rfl, fun z => absurd z h3⟩
  obtain ⟨x, S1, e1, hx⟩ := e_choice some_ S hne hle
  obtain ⟨t, rfl, ht⟩ := hmem x hx
  obtain ⟨r, S2, e2, r0, r1⟩ := e_draw moods S1 (by omega) (by omega)
  refine ⟨(t, r.toNat), some (.d (.lst some_)), S2, ?_, ht, by omega⟩
  have er : ((r.toNat : Nat) : Int) = r := by omega
  unfold f__law_book_b1
  rw [sSeq_app, sAsg_app, thenS_app, hs]
  simp [e1, e2, hz, rowD, er]
theorem e_book_l1 (moods : Nat) (x2 x3 : DD) (m1 : moods = 1 ∨ moods = 2) : ∀ (k : Nat) (rows : List (Bool × Nat)) (x5 x6 : Option AU.It) (S : Sr), rows.length + k = 6 → (∀ (i : Nat) (r : Bool × Nat), rows[i]? = some r → (i % 3 = 0 → r.1 = false) ∧ r.2 < moods) →
    ∃ (rows' : List (Bool × Nat)) (x5' x6' : Option AU.It) (S' : Sr), forD (gN 5) f__law_book_b1 ((List.range' rows.length k).map fun i => DD.int ((0 : Int) + (i : Nat))) [some .s, some (.d (.int moods)), some (.d x2), some (.d x3), some (.d (.tup (rows.map rowD))), x5, x6] S =
      some (.nx [some .s, some (.d (.int moods)), some (.d x2), some (.d x3), some (.d (.tup (rows'.map rowD))), x5', x6'] S') ∧ rows'.length = 6 ∧ (∀ (i : Nat) (r : Bool × Nat), rows'[i]? = some r → (i % 3 = 0 → r.1 = false) ∧ r.2 < moods)
  | 0, rows, x5, x6, S, hl, hi => ⟨rows, x5, x6, S, by simp [forD], by omega, hi⟩
  | k + 1, rows, x5, x6, S, hl, hi => by
    obtain ⟨r, x6', S1, e, h1, h2⟩ := e_book_b1 moods x2 x2 x3 m1 rows.length (by omega) rows x6 S (by omega)
    obtain ⟨rows', x5', x6'', S', ih, h3, h4⟩ := e_book_l1 moods x2 x3 m1 k (rows ++ [r]) (some (.d (.int (rows.length : Nat)))) x6' S1 (by simp; omega) fun i q hq => by
      rw [List.getElem?_append] at hq
      split at hq
      · exact hi i q hq
      · rename_i hge
        have : i = rows.length := by
          have := (List.getElem?_eq_some_iff.mp hq).1
          simp at this
          omega
        subst this
        simp at hq
        subst hq
        exact ⟨h1, h2⟩
    refine ⟨rows', x5', x6'', S', ?_, h3, h4⟩
    simp at ih e
    simp [List.range'_succ, forD, e, ih]
theorem rng6 (n : Nat) : rngD 0 n = (List.range' 0 n).map fun i => DD.int ((0 : Int) + (i : Nat)) := by
  unfold rngD
  rw [List.range_eq_range']
theorem e_book_b2 (moods : Nat) (m1 : moods = 1 ∨ moods = 2) (bk : Bk) (x3 x4 x5 x6 : Option AU.It) (S : Sr) (hb : bk.length ≤ 2) (d3 : DD) :
    ∃ (m : List (Bool × Nat)) (x4' x5' x6' : Option AU.It) (S' : Sr), f__law_book_b2 [some .s, some (.d (.int moods)), some (.d (bookD bk)), some (.d d3), x4, x5, x6] S = some (.nx [some .s, some (.d (.int moods)), some (.d (bookD (bk ++ [m]))), some (.d d3), x4', x5', x6'] S') ∧
      m.length = 6 ∧ (∀ (i : Nat) (r : Bool × Nat), m[i]? = some r → (i % 3 = 0 → r.1 = false) ∧ r.2 < moods) := by
  obtain ⟨rows', x5', x6', S', e, h1, h2⟩ := e_book_l1 moods (bookD bk) d3 m1 6 [] x5 x6 S rfl fun i r h => by simp at h
  have hz : szOk (bk.length + 1) = true := decide_eq_true (by omega)
  refine ⟨rows', some (.d (.tup (rows'.map rowD))), x5', x6', S', ?_, h1, h2⟩
  unfold f__law_book_b2
  simp [bookD] at e
  simp [rng6, e, bookD, hz, moodD]
theorem e_book_l2 (moods : Nat) (m1 : moods = 1 ∨ moods = 2) : ∀ (k : Nat) (bk : Bk) (x3 x4 x5 x6 : Option AU.It) (S : Sr), bk.length + k = moods → (∀ m ∈ bk, m.length = 6 ∧ ∀ (i : Nat) (r : Bool × Nat), m[i]? = some r → (i % 3 = 0 → r.1 = false) ∧ r.2 < moods) →
    ∃ (bk' : Bk) (x3' x4' x5' x6' : Option AU.It) (S' : Sr), forD (gN 3) f__law_book_b2 ((List.range' bk.length k).map fun i => DD.int ((0 : Int) + (i : Nat))) [some .s, some (.d (.int moods)), some (.d (bookD bk)), x3, x4, x5, x6] S =
      some (.nx [some .s, some (.d (.int moods)), some (.d (bookD bk')), x3', x4', x5', x6'] S') ∧ bk'.length = moods ∧ (∀ m ∈ bk', m.length = 6 ∧ ∀ (i : Nat) (r : Bool × Nat), m[i]? = some r → (i % 3 = 0 → r.1 = false) ∧ r.2 < moods)
  | 0, bk, x3, x4, x5, x6, S, hl, hi => ⟨bk, x3, x4, x5, x6, S, by simp [forD], by omega, hi⟩
  | k + 1, bk, x3, x4, x5, x6, S, hl, hi => by
    obtain ⟨m, x4', x5', x6', S1, e, h1, h2⟩ := e_book_b2 moods m1 bk x3 x4 x5 x6 S (by rcases m1 with z | z <;> omega) (.int (bk.length : Nat))
    obtain ⟨bk', y3, y4, y5, y6, S', ih, h3, h4⟩ := e_book_l2 moods m1 k (bk ++ [m]) (some (.d (.int (bk.length : Nat)))) x4' x5' x6' S1 (by rw [List.length_append, List.length_singleton]; omega) fun q hq => by
      rcases List.mem_append.mp hq with hq | hq
      · exact hi q hq
      · rw [List.mem_singleton.mp hq]
        exact ⟨h1, h2⟩
    refine ⟨bk', y3, y4, y5, y6, S', ?_, h3, h4⟩
    simp at ih e
    simp [List.range'_succ, forD, e, ih]
theorem e_book (S : Sr) : ∃ (b : Bk) (S' : Sr), m__law_book [.s] S = some (.ok (bookD b), S') ∧ WF b := by
  obtain ⟨r, S1, e1, r0, r1⟩ := e_draw 2 S (by decide) (by decide)
  obtain ⟨moods, hm, m1⟩ : ∃ moods : Nat, 1 + r = (moods : Int) ∧ (moods = 1 ∨ moods = 2) := ⟨(1 + r).toNat, by omega, by omega⟩
  obtain ⟨b, x3, x4, x5, x6, S', e2, h1, h2⟩ := e_book_l2 moods m1 moods [] none none none none S1 (by simp) fun m hm => by cases hm
  refine ⟨b, S', ?_, ⟨by rw [h1]; exact m1, fun m hm => (h2 m hm).1, fun m hm i r h => by rw [h1]; exact (h2 m hm).2 i r h⟩⟩
  have hz : ((-100000 : Int) ≤ moods) = True := eq_true (by omega)
  have hz2 : ((moods : Int) ≤ 100000) = True := eq_true (by rcases m1 with z | z <;> omega)
  simp [bookD] at e2
  simp [m__law_book, runB, env0, f__law_book, e1, hm, rng6, hz, hz2, e2, bookD]
/-! ### a random weather -/
def allowed (c : Str) (ws : List Bool) (rain : Bool) : Bool := if c = "rare" then !(rain && decide (ws.getLast? = some true)) else if c = "days" ∧ ws.length % 2 = 1 then decide (ws.getLast? = some rain) else true
theorem nil_or_snoc {α : Type} (l : List α) : l = [] ∨ ∃ (l' : List α) (x : α), l = l' ++ [x] := by
  rcases l with _ | ⟨a, l⟩
  · exact .inl rfl
  · exact .inr ⟨(a :: l).dropLast, (a :: l).getLast (by simp), (List.dropLast_concat_getLast (by simp)).symm⟩
theorem cut_last (xs : List DD) : AU.cutD xs (some (-1)) none = xs.drop (xs.length - 1) := by
  unfold AU.cutD HT.sIx
  have e : ((-1 : Int) + (xs.length : Int)).toNat = xs.length - 1 := by omega
  simp only [show ((-1 : Int) < 0) from by decide, if_true, e]
  rw [List.take_of_length_le]
  rw [List.length_drop]
  omega
theorem atI_last {xs : List DD} {x : DD} (h : xs.getLast? = some x) : atI xs (-1) = some x := by
  rw [List.getLast?_eq_getElem?] at h
  have hl := (List.getElem?_eq_some_iff.mp h).1
  unfold L2.atI ixN
  rw [if_neg (by decide), if_pos (by omega), show ((-1 : Int) + (xs.length : Int)).toNat = xs.length - 1 by omega]
  exact h
@[simp] theorem ok_rare : PyData.strOk "rare" = true := by decide +kernel
@[simp] theorem ok_days : PyData.strOk "days" = true := by decide +kernel
@[simp] theorem ok_any : PyData.strOk "any" = true := by decide +kernel
@[simp] theorem rare_days : (("rare" : Str) = "days") = False := eq_false (by decide +kernel)
@[simp] theorem days_rare : (("days" : Str) = "rare") = False := eq_false (by decide +kernel)
@[simp] theorem any_rare : (("any" : Str) = "rare") = False := eq_false (by decide +kernel)
@[simp] theorem any_days : (("any" : Str) = "days") = False := eq_false (by decide +kernel)
theorem e_allowed (c : Str) (ws : List Bool) (rain : Bool) (S : Sr) (hc : PyData.strOk c = true) : m__law_allowed [.d (.str c), .d (.tup (ws.map DD.bl)), .d (.bl rain)] S = some (.ok (.bl (allowed c ws rain)), S) := by
  by_cases h1 : c = "rare"
  · subst h1
    cases rain with
    | false => simp [m__law_allowed, runB, env0, f__law_allowed, allowed]
    | true =>
      have e : opEq (.tup (AU.cutD (ws.map DD.bl) (some (-1)) none)) (.tup [.bl true]) = AU.ret (.bl (decide (ws.getLast? = some true))) := by
        have e1 : AU.cutD (ws.map DD.bl) (some (-1)) none = (ws.drop (ws.length - 1)).map DD.bl := by rw [cut_last, List.length_map, List.map_drop]
        rw [e1, show DD.tup [DD.bl true] = DD.tup ([true].map DD.bl) from rfl, opEq_of (eqOk_of (ok_bls _)) (eqOk_of (ok_bls [true]))]
        rcases nil_or_snoc ws with rfl | ⟨l, x, rfl⟩
        · rfl
        · have e2 : (l ++ [x]).drop ((l ++ [x]).length - 1) = [x] := by simp
          rw [e2]
          cases x <;> simp [DD.py, DD.pyA, PyData.eqv, PyData.eqvAll]
      simp [m__law_allowed, runB, env0, f__law_allowed, allowed, e]
  · by_cases h2 : c = "days"
    · subst h2
      by_cases h3 : ws.length % 2 = 1
      · have h3' : ((ws.length : Int) % 2 = 1) = True := eq_true (by omega)
        rcases nil_or_snoc ws with rfl | ⟨l, x, rfl⟩
        · simp at h3
        · have e2 : atI ((l ++ [x]).map DD.bl) (-1) = some (.bl x) := atI_last (by simp)
          simp at e2 h3'
          simp at h3
          cases x <;> cases rain <;> simp [m__law_allowed, runB, env0, f__law_allowed, allowed, h3, h3', e2]
      · have h3' : ((ws.length : Int) % 2 = 1) = False := eq_false (by omega)
        simp [m__law_allowed, runB, env0, f__law_allowed, allowed, h3, h3']
    · simp [m__law_allowed, runB, env0, f__law_allowed, allowed, h1, h2, hc]
/-- a weather that goes on as the climate lets it -/
inductive WOk (c : Str) : List Bool → Prop
  | nil : WOk c []
  | snoc {ws : List Bool} {r : Bool} : WOk c ws → allowed c ws r = true → WOk c (ws ++ [r])
theorem allowed_some (c : Str) (ws : List Bool) : allowed c ws false = true ∨ allowed c ws true = true := by
  unfold allowed
  by_cases h1 : c = "rare"
  · simp [h1]
  · by_cases h2 : c = "days" ∧ ws.length % 2 = 1
    · rw [if_neg h1, if_pos h2, if_neg h1, if_pos h2]
      rcases nil_or_snoc ws with rfl | ⟨l, x, rfl⟩
      · simp at h2
      · cases x <;> simp
    · rw [if_neg h1, if_neg h2]
      exact .inl rfl
theorem e_weather_l (c : Str) (hc : PyData.strOk c = true) (v2 : DD) : ∀ (k i0 : Nat) (ws : List Bool) (x4 x5 x6 : Option AU.It) (S : Sr), ws.length + k ≤ 1000 → WOk c ws →
    ∃ (ws' : List Bool) (x4' x5' x6' : Option AU.It) (S' : Sr), forD (gN 4) f__law_weather_b1 ((List.range' i0 k).map fun i => DD.int ((0 : Int) + (i : Nat))) [some .s, some (.d (.str c)), some (.d v2), some (.d (.tup (ws.map DD.bl))), x4, x5, x6] S =
      some (.nx [some .s, some (.d (.str c)), some (.d v2), some (.d (.tup (ws'.map DD.bl))), x4', x5', x6'] S') ∧ ws'.length = ws.length + k ∧ WOk c ws'
  | 0, i0, ws, x4, x5, x6, S, hl, hw => ⟨ws, x4, x5, x6, S, by simp [forD], by omega, hw⟩
  | k + 1, i0, ws, x4, x5, x6, S, hl, hw => by
    have hz : szOk (ws.length + 1) = true := decide_eq_true (by omega)
    have ef : ∀ S, lcD (gN 6) (tV (eCall m__law_allowed (iCons (eVar 1) (iCons (eVar 3) (iCons (eVar 6) iNil))))) (eVar 6) [some .s, some (.d (.str c)), some (.d v2), some (.d (.tup (ws.map DD.bl))), some (.d (.int (i0 : Nat))), x5, none] [.bl false, .bl true] S =
        some (.ok (([false, true].filter fun r => allowed c ws r).map DD.bl), S) := fun S => by
      have z := lcD_filF (fg := gN 6) (ft := tV (eCall m__law_allowed (iCons (eVar 1) (iCons (eVar 3) (iCons (eVar 6) iNil))))) (fe := eVar 6) (env := [some .s, some (.d (.str c)), some (.d v2), some (.d (.tup (ws.map DD.bl))), some (.d (.int (i0 : Nat))), x5, none]) (S := S) (h := DD.bl) (fun r => allowed c ws r) DD.bl (l := [false, true]) fun r _ => ⟨_, rfl, ?_, fun _ => ?_⟩
      · exact z
      · simp [e_allowed c ws r (0, 0) hc]
      · simp
    obtain ⟨x, S1, e1, hx⟩ := e_choice (([false, true].filter fun r => allowed c ws r).map DD.bl) S (by
      intro z
      have z := List.map_eq_nil_iff.mp z
      rcases allowed_some c ws with h | h
      · have z2 : false ∈ [false, true].filter fun r => allowed c ws r := List.mem_filter.mpr ⟨by simp, h⟩
        rw [z] at z2
        cases z2
      · have z2 : true ∈ [false, true].filter fun r => allowed c ws r := List.mem_filter.mpr ⟨by simp, h⟩
        rw [z] at z2
        cases z2) (by
        rw [List.length_map]
        exact Nat.le_trans (List.length_filter_le _ _) (by decide))
    obtain ⟨r, hr, rfl⟩ := List.mem_map.mp hx
    have ha := (List.mem_filter.mp hr).2
    have st : f__law_weather_b1 [some .s, some (.d (.str c)), some (.d v2), some (.d (.tup (ws.map DD.bl))), some (.d (.int (i0 : Nat))), x5, x6] S =
        some (.nx [some .s, some (.d (.str c)), some (.d v2), some (.d (.tup ((ws ++ [r]).map DD.bl))), some (.d (.int (i0 : Nat))), some (.d (.lst (([false, true].filter fun r => allowed c ws r).map DD.bl))), x6] S1) := by
      simp [f__law_weather_b1, ef, e1, hz]
    obtain ⟨ws', x4', x5', x6', S', ih, h1, h2⟩ := e_weather_l c hc v2 k (i0 + 1) (ws ++ [r]) (some (.d (.int (i0 : Nat)))) (some (.d (.lst (([false, true].filter fun r => allowed c ws r).map DD.bl)))) x6 S1 (by simp; omega) (.snoc hw ha)
    refine ⟨ws', x4', x5', x6', S', ?_, by rw [h1]; simp; omega, h2⟩
    simp at ih st
    simp [List.range'_succ, forD, st, ih]
theorem e_weather (c : Str) (hc : PyData.strOk c = true) (most : Int) (S : Sr) (h0 : 0 ≤ most) (h1 : most ≤ 999) : ∃ (ws : List Bool) (S' : Sr), m__law_weather [.s, .d (.str c), .d (.int most)] S = some (.ok (.tup (ws.map DD.bl)), S') ∧ ws.length ≤ most ∧ WOk c ws := by
  obtain ⟨r, S1, e1, r0, r1⟩ := e_draw (most + 1) S (by omega) (by omega)
  obtain ⟨k, rfl⟩ : ∃ k : Nat, r = (k : Int) := ⟨r.toNat, by omega⟩
  obtain ⟨ws', x4, x5, x6, S', e2, h2, h3⟩ := e_weather_l c hc (.int most) k 0 [] none none none S1 (by simp; omega) .nil
  refine ⟨ws', S', ?_, by simp at h2; omega, h3⟩
  have hz : ((-100000 : Int) ≤ k) = True := eq_true (by omega)
  have hz2 : ((k : Int) ≤ 100000) = True := eq_true (by omega)
  simp at e2
  simp [m__law_weather, runB, env0, f__law_weather, e1, rng6, hz, hz2, e2]
end AUL
namespace AUL
open PySem PySem.Spec PyProof.Rows L2 AU
/-! ### k01: climates -/
def climOk : DD → Bool
  | .str s => decide (s ∈ (["any", "days", "rare"] : List Str))
  | _ => false
theorem e_need_climate {n : Nat} (v : DD) (S : Sr) (h : okN n v = true) : m_need_climate [.d v] S = if climOk v = true then some (.ok .non, S) else some (.error ⟨kx_InvalidClimate, none⟩, S) := by
  cases v with
  | raw v => simp [okN, DD.pure] at h
  | dct k v => simp [okN, DD.pure] at h
  | str s =>
    have hs := ok_str h
    have e2 : opNotIn (.str s) (.tup [.str "any", .str "days", .str "rare"]) = AU.ret (.bl (!decide (s ∈ (["any", "days", "rare"] : List Str)))) := opNotIn_strs (xs := ["any", "days", "rare"]) hs (by intro y hy; simp at hy; rcases hy with rfl | rfl | rfl <;> decide +kernel)
    cases hc : decide (s ∈ (["any", "days", "rare"] : List Str)) with
    | true =>
      rw [hc] at e2
      have hk : climOk (.str s) = true := hc
      simp [m_need_climate, runB, env0, f_need_climate, e2, hk]
    | false =>
      rw [hc] at e2
      have hk : climOk (.str s) = false := hc
      simp [m_need_climate, runB, env0, f_need_climate, e2, hk]
  | _ => simp [m_need_climate, runB, env0, f_need_climate, climOk]
def letsOk (c : Str) (ws : List Bool) : Bool := if c = "rare" then !((ws.zip (ws.drop 1)).any fun p => p.1 && p.2) else if c = "days" then ((cut2 ws 0).zip (cut2 ws 1)).all fun p => decide (p.1 = p.2) else true
theorem zipD_map : ∀ (xs ys : List Bool), zipD (xs.map DD.bl) (ys.map DD.bl) = (xs.zip ys).map fun p => DD.tup [.bl p.1, .bl p.2]
  | [], _ => by simp [zipD]
  | _ :: _, [] => rfl
  | x :: xs, y :: ys => by simp [zipD, zipD_map xs ys]
theorem cut2_map (ws : List Bool) (c : Nat) : cut2 (ws.map DD.bl) c = (cut2 ws c).map DD.bl := by
  unfold cut2
  rw [List.length_map]
  induction idx2 ws.length c with
  | nil => rfl
  | cons i is ih =>
    by_cases h : i < ws.length
    · have e1 : (ws.map DD.bl)[i]? = some (DD.bl ws[i]) := by rw [List.getElem?_map, List.getElem?_eq_getElem h]; rfl
      rw [List.filterMap_cons_some e1, List.filterMap_cons_some (List.getElem?_eq_getElem h), ih]
      rfl
    · have e1 : (ws.map DD.bl)[i]? = none := List.getElem?_eq_none (by rw [List.length_map]; omega)
      rw [List.filterMap_cons_none e1, List.filterMap_cons_none (List.getElem?_eq_none (by omega)), ih]
theorem cut_from1 (xs : List DD) : AU.cutD xs (some 1) none = xs.drop 1 := by
  unfold AU.cutD HT.sIx
  simp only [show ¬ ((1 : Int) < 0) from by decide, if_false]
  rcases xs with _ | ⟨x, xs⟩
  · rfl
  · rw [List.take_of_length_le]
    · simp
    · simp
@[simp] theorem eSl2_app (c : Nat) (f : Env → M DD) (env : Env) : eSl2 c f env = bnd (f env) fun d => match d with
  | .tup xs => AU.ret (.tup (cut2 xs c))
  | _ => stk := rfl
theorem e_lets (c : Str) (ws : List Bool) (S : Sr) (hc : PyData.strOk c = true) (hl : ws.length ≤ 100) : m_lets [.d (.str c), .d (.tup (ws.map DD.bl))] S = some (.ok (.bl (letsOk c ws)), S) := by
  by_cases h1 : c = "rare"
  · subst h1
    have hz : szOk (ws.zip (ws.drop 1)).length = true := decide_eq_true (by rw [List.length_zip]; omega)
    have e0 : zipD (ws.map DD.bl) (AU.cutD (ws.map DD.bl) (some 1) none) = (ws.zip (ws.drop 1)).map fun p => DD.tup [.bl p.1, .bl p.2] := by rw [cut_from1, ← List.map_drop, zipD_map]
    have hz2 : szOk (zipD (ws.map DD.bl) (AU.cutD (ws.map DD.bl) (some 1) none)).length = true := by rw [e0, List.length_map]; exact hz
    simp [m_lets, runB, env0, f_lets, hz2]
    rw [e0, lcD_mapF (fun p : Bool × Bool => DD.bl (p.1 && p.2)) fun p hp => ⟨_, rfl, ?_⟩]
    · simp [bAny_map, letsOk]
    · cases hp1 : p.1 <;> simp [hp1]
  · by_cases h2 : c = "days"
    · subst h2
      have e0 : zipD (cut2 (ws.map DD.bl) 0) (cut2 (ws.map DD.bl) 1) = ((cut2 ws 0).zip (cut2 ws 1)).map fun p => DD.tup [.bl p.1, .bl p.2] := by rw [cut2_map, cut2_map, zipD_map]
      have hz : szOk (zipD (cut2 (ws.map DD.bl) 0) (cut2 (ws.map DD.bl) 1)).length = true := decide_eq_true (by
        rw [e0, List.length_map, List.length_zip]
        have := cut2_len ws 0
        omega)
      simp [m_lets, runB, env0, f_lets, hz]
      rw [e0, lcD_mapF (fun p : Bool × Bool => DD.bl (decide (p.1 = p.2))) fun p hp => ⟨_, rfl, ?_⟩]
      · simp [bAll_map, letsOk]
      · simp
    · simp [m_lets, runB, env0, f_lets, hc, h1, h2, letsOk]
/-! ### rows -/
theorem rowOk_inv {v : DD} (h : rowOk v = true) : ∃ ws : List Bool, v = .tup (ws.map DD.bl) ∧ ws.length ≤ 100 := by
  cases v with
  | tup xs =>
    simp only [rowOk, Bool.and_eq_true, decide_eq_true_eq] at h
    obtain ⟨h1, h2⟩ := h
    have key : ∀ xs : List DD, xs.all isBo = true → ∃ ws : List Bool, xs = ws.map DD.bl := by
      intro xs
      induction xs with
      | nil => exact fun _ => ⟨[], rfl⟩
      | cons x xs ih =>
        intro h
        rw [List.all_cons, Bool.and_eq_true] at h
        obtain ⟨ws, rfl⟩ := ih h.2
        cases x with
        | bl b => exact ⟨b :: ws, rfl⟩
        | _ => cases h.1
    obtain ⟨ws, rfl⟩ := key xs h2
    exact ⟨ws, rfl, by simpa using h1⟩
  | _ => cases h
def boolOf : DD → Bool
  | .bl b => b
  | _ => false
theorem boolOf_map (ws : List Bool) : (ws.map DD.bl).map boolOf = ws := by
  rw [List.map_map]
  exact List.map_id ws
def weatherOk (c : Str) (v : DD) : Bool := rowOk v && (match v with
  | .tup xs => letsOk c (xs.map boolOf)
  | _ => false)
theorem weatherOk_row (c : Str) {ws : List Bool} (h : ws.length ≤ 100) : weatherOk c (.tup (ws.map DD.bl)) = letsOk c ws := by
  unfold weatherOk
  rw [row_bls h]
  simp only [Bool.true_and]
  rw [boolOf_map]
theorem e_is_weather {n : Nat} (c : Str) (v : DD) (S : Sr) (hc : c ∈ (["any", "days", "rare"] : List Str)) (h : okN n v = true) : m_is_weather [.d (.str c), .d v] S = some (.ok (.bl (weatherOk c v)), S) := by
  have hs : PyData.strOk c = true := by
    simp only [List.mem_cons, List.not_mem_nil, or_false] at hc
    rcases hc with rfl | rfl | rfl <;> decide +kernel
  have e1 := e_need_climate (.str c) (0, 0) (okN_str (n := 0) hs)
  rw [if_pos (show climOk (.str c) = true from decide_eq_true hc)] at e1
  have e2 := e_is_row v (0, 0) h
  cases hr : rowOk v with
  | true =>
    obtain ⟨ws, rfl, hl⟩ := rowOk_inv hr
    have e3 := e_lets c ws (0, 0) hs hl
    rw [weatherOk_row c hl]
    rw [hr] at e2
    simp [m_is_weather, runB, env0, f_is_weather, e1, e2, e3]
  | false =>
    rw [hr] at e2
    simp [m_is_weather, runB, env0, f_is_weather, e1, e2, weatherOk, hr]
theorem e_is_weather_bad {n : Nat} (v w : DD) (S : Sr) (hv : okN n v = true) (h : climOk v = false) : m_is_weather [.d v, .d w] S = some (.error ⟨kx_InvalidClimate, none⟩, S) := by
  have e1 := e_need_climate v (0, 0) hv
  rw [h] at e1
  simp at e1
  simp [m_is_weather, runB, env0, f_is_weather, e1]
end AUL
namespace AUL
open PySem PySem.Spec PyProof.Rows L2 AU
/-! ### a loop that ends at the first that is not so -/
theorem forD_all {α : Type} {fg : Env → DD → Option Env} {fb : SF} {h : α → DD} {r : DD} {S : Sr} (p : α → Bool) (I : Env → Prop) : ∀ (l : List α) (env : Env), I env →
    (∀ x ∈ l, ∀ env, I env → ∃ e1, fg env (h x) = some e1 ∧ (p x = true → ∃ e2, fb e1 S = some (.nx e2 S) ∧ I e2) ∧ (p x = false → fb e1 S = some (.rt r S))) →
    (l.all p = true → ∃ e', forD fg fb (l.map h) env S = some (.nx e' S) ∧ I e') ∧ (l.all p = false → forD fg fb (l.map h) env S = some (.rt r S))
  | [], env, hI, _ => ⟨fun _ => ⟨env, rfl, hI⟩, fun z => by cases z⟩
  | x :: l, env, hI, hs => by
    obtain ⟨e1, h1, h2, h3⟩ := hs x List.mem_cons_self env hI
    cases hp : p x with
    | true =>
      obtain ⟨e2, h4, hI2⟩ := h2 hp
      obtain ⟨a, b⟩ := forD_all p I l e2 hI2 fun y hy => hs y (List.mem_cons_of_mem _ hy)
      refine ⟨fun z => ?_, fun z => ?_⟩
      · obtain ⟨e', h5, h6⟩ := a (by simpa [hp] using z)
        exact ⟨e', by simp [forD, h1, h4, h5], h6⟩
      · have := b (by simpa [hp] using z)
        simp [forD, h1, h4, this]
    | false =>
      refine ⟨fun z => ?_, fun _ => by simp [forD, h1, h3 hp]⟩
      simp [hp] at z
theorem e_law_from (v : DD) (lo hi : Int) (S : Sr) (h : AU.plain1 v = true) : m__law_from [.d v, .d (.int lo), .d (.int hi)] S = some (.ok (.bl (isFrom v lo hi)), S) := by
  cases v with
  | int i =>
    by_cases h1 : lo ≤ i
    · simp [m__law_from, runB, env0, f__law_from, isFrom, h1]
    · simp [m__law_from, runB, env0, f__law_from, isFrom, h1]
  | raw v => cases h
  | dct k v => cases h
  | _ => simp [m__law_from, runB, env0, f__law_from, isFrom]
theorem mem_ints (x : Int) : ∀ xs : List Int, memD (.int x) (xs.map DD.int) = decide (x ∈ xs)
  | [] => rfl
  | y :: ys => by
    have ih := mem_ints x ys
    have e : memD (.int x) ((y :: ys).map DD.int) = (PyData.eqv (.int y) (.int x) || memD (.int x) (ys.map DD.int)) := rfl
    rw [e, ih, AU.eqv_int]
    by_cases h : y = x
    · subst h
      simp
    · have h' : ¬ x = y := fun z => h z.symm
      simp [h, h']
theorem opIn_ints (x : Int) (xs : List Int) : opIn (.int x) (.lst (xs.map DD.int)) = AU.ret (.bl (decide (x ∈ xs))) := by
  show (if (eqOk (.int x) && eqOk (.lst (xs.map DD.int))) = true then AU.ret (.bl (false != memD (.int x) (xs.map DD.int))) else (stk : M DD)) = _
  rw [if_pos, mem_ints]
  · rw [Bool.false_bne]
  · rw [eqOk_of (okN_int (n := 0) x), eqOk_of (n := 1) (okN_lst fun d hd => ?_)]
    · rfl
    · obtain ⟨y, hy, rfl⟩ := List.mem_map.mp hd
      exact okN_int y
theorem opNotIn_ints (x : Int) (xs : List Int) : opNotIn (.int x) (.lst (xs.map DD.int)) = AU.ret (.bl (!decide (x ∈ xs))) := by
  show (if (eqOk (.int x) && eqOk (.lst (xs.map DD.int))) = true then AU.ret (.bl (true != memD (.int x) (xs.map DD.int))) else (stk : M DD)) = _
  rw [if_pos, mem_ints]
  · rw [Bool.true_bne]
  · rw [eqOk_of (okN_int (n := 0) x), eqOk_of (n := 1) (okN_lst fun d hd => ?_)]
    · rfl
    · obtain ⟨y, hy, rfl⟩ := List.mem_map.mp hd
      exact okN_int y
theorem opNotIn_strsL {x : Str} {xs : List Str} (hx : PyData.strOk x = true) (hs : ∀ y ∈ xs, PyData.strOk y = true) : opNotIn (.str x) (.lst (xs.map DD.str)) = AU.ret (.bl (!decide (x ∈ xs))) := by
  show (if (eqOk (.str x) && eqOk (.lst (xs.map DD.str))) = true then AU.ret (.bl (true != memD (.str x) (xs.map DD.str))) else (stk : M DD)) = _
  rw [if_pos, mem_strs]
  · rw [Bool.true_bne]
  · rw [eqOk_of (okN_str (n := 0) hx), eqOk_of (n := 1) (okN_lst fun d hd => ?_)]
    · rfl
    · obtain ⟨y, hy, rfl⟩ := List.mem_map.mp hd
      exact okN_str (hs y hy)
/-! ### the law's book -/
theorem e_lib_b1 {n : Nat} (vs : List DD) (m row : DD) (look : Nat) (S : Sr) (hr : okN n row = true) (hk : look < 6) :
    f__law_is_book_b1 [some (.d (.tup vs)), some (.d m), some (.d (.int (look : Nat))), some (.d row)] S = if entryOk row vs.length look = true then some (.nx [some (.d (.tup vs)), some (.d m), some (.d (.int (look : Nat))), some (.d row)] S) else some (.rt (.bl false) S) := by
  cases row with
  | raw v => simp [okN, DD.pure] at hr
  | dct k v => simp [okN, DD.pure] at hr
  | tup xs =>
    have hi := ok_in hr
    match xs, hi with
    | [], hi => simp [f__law_is_book_b1, entryOk]
    | [a], hi => simp [f__law_is_book_b1, entryOk]
    | a :: b :: c :: r, hi =>
      have : ¬ ((r.length : Int) + 1 + 1 + 1 = 2) := by omega
      simp [f__law_is_book_b1, entryOk, this]
    | [a, b], hi =>
      have ha := hi a (by simp)
      have hb := hi b (by simp)
      have hpa := ok_plain ha
      have hpb := ok_plain hb
      have e0 : atI [a, b] 0 = some a := AU.atI_nat (i := 0) rfl
      have e1 : atI [a, b] 1 = some b := AU.atI_nat (i := 1) rfl
      cases a with
      | str s =>
        have hs := ok_str ha
        have e2 : opIn (.int (look : Nat)) (.lst [.int 0, .int 3]) = AU.ret (.bl (decide ((look : Int) ∈ ([0, 3] : List Int)))) := opIn_ints _ [0, 3]
        have e3 : opNotIn (.str s) (.lst [.str "leave"]) = AU.ret (.bl (!decide (s ∈ (["leave"] : List Str)))) := opNotIn_strsL (xs := ["leave"]) hs (by intro y hy; simp at hy; subst hy; simp)
        have e4 : opNotIn (.str s) (.lst [.str "leave", .str "take"]) = AU.ret (.bl (!decide (s ∈ (["leave", "take"] : List Str)))) := opNotIn_strsL (xs := ["leave", "take"]) hs (by intro y hy; simp at hy; rcases hy with rfl | rfl <;> simp)
        have e5 : ∀ S, m__law_from [.d b, .d (.int 0), .d (.int ((vs.length : Int) - 1))] S = some (.ok (.bl (isFrom b 0 ((vs.length : Int) - 1))), S) := fun S => e_law_from b 0 _ S hpb
        have hl : decide ((look : Int) ∈ ([0, 3] : List Int)) = decide ((look : Int) % 3 = 0) := by
          apply decide_eq_decide.mpr
          simp
          omega
        rw [hl] at e2
        by_cases h1 : s = "leave"
        · subst h1
          cases hf : isFrom b 0 ((vs.length : Int) - 1) with
          | true =>
            by_cases h3 : (look : Int) % 3 = 0
            · simp [h3] at e2
              simp [f__law_is_book_b1, entryOk, e0, e1, e2, e3, e4, e5, h3, hf]
            · simp [h3] at e2
              simp [f__law_is_book_b1, entryOk, e0, e1, e2, e3, e4, e5, h3, hf]
          | false =>
            by_cases h3 : (look : Int) % 3 = 0
            · simp [h3] at e2
              simp [f__law_is_book_b1, entryOk, e0, e1, e2, e3, e4, e5, h3, hf]
            · simp [h3] at e2
              simp [f__law_is_book_b1, entryOk, e0, e1, e2, e3, e4, e5, h3, hf]
        · by_cases h2 : s = "take"
          · subst h2
            cases hf : isFrom b 0 ((vs.length : Int) - 1) with
            | true =>
              by_cases h3 : (look : Int) % 3 = 0
              · simp [h3] at e2
                simp [f__law_is_book_b1, entryOk, e0, e1, e2, e3, e4, e5, h3, hf]
              · simp [h3] at e2
                simp [f__law_is_book_b1, entryOk, e0, e1, e2, e3, e4, e5, h3, hf]
            | false =>
              by_cases h3 : (look : Int) % 3 = 0
              · simp [h3] at e2
                simp [f__law_is_book_b1, entryOk, e0, e1, e2, e3, e4, e5, h3, hf]
              · simp [h3] at e2
                simp [f__law_is_book_b1, entryOk, e0, e1, e2, e3, e4, e5, h3, hf]
          · by_cases h3 : (look : Int) % 3 = 0
            · simp [h3] at e2
              simp [f__law_is_book_b1, entryOk, e0, e1, e2, e3, e4, e5, h1, h2, h3]
            · simp [h3] at e2
              simp [f__law_is_book_b1, entryOk, e0, e1, e2, e3, e4, e5, h1, h2, h3]
      | raw v => cases hpa
      | dct k v => cases hpa
      | _ => simp [f__law_is_book_b1, entryOk, e0, e1]
  | _ => simp [f__law_is_book_b1, entryOk]
end AUL
namespace AUL
open PySem PySem.Spec PyProof.Rows L2 AU
theorem e_lib_b2 {n : Nat} (vs : List DD) (m : DD) (x2 x3 : Option AU.It) (S : Sr) (hm : okN n m = true) :
    (moodOk m vs.length = true → ∃ x2' x3', f__law_is_book_b2 [some (.d (.tup vs)), some (.d m), x2, x3] S = some (.nx [some (.d (.tup vs)), some (.d m), x2', x3'] S)) ∧
    (moodOk m vs.length = false → f__law_is_book_b2 [some (.d (.tup vs)), some (.d m), x2, x3] S = some (.rt (.bl false) S)) := by
  cases m with
  | raw v => simp [okN, DD.pure] at hm
  | dct k v => simp [okN, DD.pure] at hm
  | tup xs =>
    have hi := ok_in hm
    by_cases hl : xs.length = 6
    · have hl' : ((xs.length : Int) = 6) = True := eq_true (by omega)
      have key := forD_all (fg := gT 2 (gsC (gN 2) (gsC (gN 3) gsN))) (fb := f__law_is_book_b1) (h := fun p : Nat × DD => DD.tup [.int (p.1 : Nat), p.2]) (r := .bl false) (S := S) (fun p : Nat × DD => entryOk p.2 vs.length (p.1 : Nat))
        (fun env => ∃ a b, env = [some (.d (.tup vs)), some (.d (.tup xs)), a, b]) ((List.range xs.length).zip xs) [some (.d (.tup vs)), some (.d (.tup xs)), x2, x3] ⟨_, _, rfl⟩ (fun p hp env hI => by
          obtain ⟨a, b, rfl⟩ := hI
          have hp1 : p.1 < 6 := by
            have := (List.of_mem_zip hp).1
            rw [hl] at this
            exact List.mem_range.mp this
          have e := e_lib_b1 vs (.tup xs) p.2 p.1 S (hi p.2 (List.of_mem_zip hp).2) hp1
          refine ⟨_, rfl, fun h => ⟨[some (.d (.tup vs)), some (.d (.tup xs)), some (.d (.int (p.1 : Nat))), some (.d p.2)], ?_, _, _, rfl⟩, fun h => ?_⟩
          · rw [if_pos h] at e
            exact e
          · rw [h, if_neg (by decide)] at e
            exact e)
      have hmo : moodOk (.tup xs) vs.length = ((List.range xs.length).zip xs).all fun p : Nat × DD => entryOk p.2 vs.length (p.1 : Nat) := by
        simp [moodOk, hl]
      rw [hmo]
      constructor
      · intro h
        obtain ⟨e', h1, a, b, rfl⟩ := key.1 h
        exact ⟨a, b, by simp [f__law_is_book_b2, hl', enumZ, ← List.range_eq_range', h1]⟩
      · intro h
        have h1 := key.2 h
        simp [f__law_is_book_b2, hl', enumZ, ← List.range_eq_range', h1]
    · have hl' : ((xs.length : Int) = 6) = False := eq_false (by omega)
      have hmo : moodOk (.tup xs) vs.length = false := by simp [moodOk, hl]
      rw [hmo]
      exact ⟨fun z => (by cases z), fun _ => by simp [f__law_is_book_b2, hl']⟩
  | _ => exact ⟨fun z => (by cases z), fun _ => by simp [f__law_is_book_b2]⟩
theorem e_law_is_book {n : Nat} (v : DD) (S : Sr) (h : okN n v = true) : m__law_is_book [.d v] S = some (.ok (.bl (bookOk v)), S) := by
  cases v with
  | raw v => simp [okN, DD.pure] at h
  | dct k v => simp [okN, DD.pure] at h
  | tup xs =>
    have hi := ok_in h
    have e0 : opNotIn (.int (xs.length : Nat)) (.lst [.int 1, .int 2]) = AU.ret (.bl (!decide (((xs.length : Nat) : Int) ∈ ([1, 2] : List Int)))) := opNotIn_ints _ [1, 2]
    by_cases hl : xs.length = 1 ∨ xs.length = 2
    · have hl' : decide (((xs.length : Nat) : Int) ∈ ([1, 2] : List Int)) = true := by
        apply decide_eq_true
        simp
        omega
      rw [hl'] at e0
      have key := forD_all (fg := gN 1) (fb := f__law_is_book_b2) (h := id) (r := .bl false) (S := S) (fun m => moodOk m xs.length) (fun env => ∃ a b c, env = [some (.d (.tup xs)), a, b, c]) xs [some (.d (.tup xs)), none, none, none] ⟨_, _, _, rfl⟩ (fun m hm env hI => by
        obtain ⟨a, b, c, rfl⟩ := hI
        obtain ⟨h1, h2⟩ := e_lib_b2 xs m b c S (hi m hm)
        refine ⟨_, rfl, fun hp => ?_, h2⟩
        obtain ⟨b', c', h3⟩ := h1 hp
        exact ⟨_, h3, _, _, _, rfl⟩)
      rw [List.map_id] at key
      have hbo : bookOk (.tup xs) = xs.all fun m => moodOk m xs.length := by simp [bookOk, hl]
      rw [hbo]
      cases hb : xs.all fun m => moodOk m xs.length with
      | true =>
        obtain ⟨e', h1, a, b, c, rfl⟩ := key.1 hb
        simp at e0
        simp [m__law_is_book, runB, env0, f__law_is_book, e0, h1]
      | false =>
        have h1 := key.2 hb
        simp at e0
        simp [m__law_is_book, runB, env0, f__law_is_book, e0, h1]
    · have hl' : decide (((xs.length : Nat) : Int) ∈ ([1, 2] : List Int)) = false := by
        apply decide_eq_false
        simp
        omega
      rw [hl'] at e0
      simp at e0
      simp [m__law_is_book, runB, env0, f__law_is_book, e0, bookOk, hl]
  | _ => simp [m__law_is_book, runB, env0, f__law_is_book, bookOk]
/-! ### the law's weather -/
theorem opNe_nilL {n : Nat} {xs : List DD} (h : okN n (.lst xs) = true) (hn : n ≤ 64) : opNe (.lst xs) (.lst []) = AU.ret (.bl (!xs.isEmpty)) := by
  rw [opNe_of (eqOk_of h hn) (eqOk_of (n := 1) (okN_lst fun x hx => by cases hx))]
  cases xs <;> simp [DD.py, DD.pyA, PyData.eqv, PyData.eqvAll]
theorem opEq_nilL {n : Nat} {xs : List DD} (h : okN n (.lst xs) = true) (hn : n ≤ 64) : opEq (.lst xs) (.lst []) = AU.ret (.bl xs.isEmpty) := by
  rw [opEq_of (eqOk_of h hn) (eqOk_of (n := 1) (okN_lst fun x hx => by cases hx))]
  cases xs <;> simp [DD.py, DD.pyA, PyData.eqv, PyData.eqvAll]
/-- walk by walk -/
def stepOkW (c : Str) (ws : List Bool) : Bool := (List.range ws.length).all fun i => allowed c (ws.take i) ((ws[i]?).getD false)
theorem cut_to (xs : List DD) (i : Nat) (h : i ≤ xs.length) : AU.cutD xs none (some (i : Int)) = xs.take i := by
  unfold AU.cutD HT.sIx
  simp only [show ¬ (((i : Nat) : Int) < 0) from by omega, if_false]
  rw [List.drop_zero, Int.toNat_natCast, Nat.min_eq_left h]
  rfl
theorem isEmpty_filter {α : Type} (l : List α) (p : α → Bool) : (l.filter p).isEmpty = l.all fun x => !p x := by
  induction l with
  | nil => rfl
  | cons x l ih => cases hp : p x <;> simp [List.filter_cons, hp, ih]
theorem e_law_is_weather {n : Nat} (c : Str) (v : DD) (S : Sr) (hc : PyData.strOk c = true) (h : okN n v = true) (hn : n ≤ 60) : m__law_is_weather [.d (.str c), .d v] S = some (.ok (.bl (rowOk v && (match v with
    | .tup xs => stepOkW c (xs.map boolOf)
    | _ => false))), S) := by
  cases v with
  | raw v => simp [okN, DD.pure] at h
  | dct k v => simp [okN, DD.pure] at h
  | tup xs =>
    have hi := ok_in h
    by_cases hl : xs.length ≤ 100
    · have hl' : ((100 : Int) < xs.length) = False := eq_false (by omega)
      have hz : szOk xs.length = true := decide_eq_true (by omega)
      have e1 : ∀ S, lcD (gN 2) (tNotD (tV (eB bIsi (aCons (eVar 2) (aCons (eC (.raw (.ty "bool"))) aNil))))) (eVar 2) [some (.d (.str c)), some (.d (.tup xs)), none, none] xs S = some (.ok (xs.filter fun x => !isBo x), S) := fun S => by
        have z := lcD_filF (fg := gN 2) (ft := tNotD (tV (eB bIsi (aCons (eVar 2) (aCons (eC (.raw (.ty "bool"))) aNil))))) (fe := eVar 2) (env := [some (.d (.str c)), some (.d (.tup xs)), none, none]) (S := S) (h := id) (fun x => !isBo x) id (l := xs) fun x hx => ⟨_, rfl, ?_, fun _ => ?_⟩
        · rw [List.map_id, List.map_id] at z
          exact z
        · simp [bIsi_bool x (ok_plain (hi x hx))]
        · simp
      have e2 : opNe (.lst (xs.filter fun x => !isBo x)) (.lst []) = AU.ret (.bl (!(xs.filter fun x => !isBo x).isEmpty)) := opNe_nilL (n := n + 1) (okN_lst fun x hx => hi x (List.mem_filter.mp hx).1) (by omega)
      have e3 : (xs.filter fun x => !isBo x).isEmpty = xs.all isBo := by
        rw [isEmpty_filter]
        simp
        rfl
      cases hb : xs.all isBo with
      | false =>
        rw [e3, hb] at e2
        simp at e2
        simp [m__law_is_weather, runB, env0, f__law_is_weather, hl', hz, e1, e2, rowOk, hb]
      | true =>
        rw [e3, hb] at e2
        obtain ⟨ws, e4, hw⟩ := rowOk_inv (v := .tup xs) (by simp [rowOk, hl, hb])
        cases e4
        have hw' : ((-100000 : Int) ≤ ws.length) = True := eq_true (by omega)
        have hw2 : ((ws.length : Int) ≤ 100000) = True := eq_true (by omega)
        have hz2 : szOk ws.length = true := decide_eq_true (by omega)
        have e5 : ∀ S, lcD (gN 3) (tNotD (tV (eCall m__law_allowed (iCons (eVar 0) (iCons (eSl (eVar 1) oNo (oSome (eVar 3))) (iCons (eOp opIx (eVar 1) (eVar 3)) iNil)))))) (eVar 3) [some (.d (.str c)), some (.d (.tup (ws.map DD.bl))), none, none] ((List.range ws.length).map fun (i : Nat) => DD.int (i : Int)) S =
            some (.ok (((List.range ws.length).filter fun i => !allowed c (ws.take i) ((ws[i]?).getD false)).map fun (i : Nat) => DD.int (i : Int)), S) := fun S => by
          refine lcD_filF (fun i => !allowed c (ws.take i) ((ws[i]?).getD false)) (fun (i : Nat) => DD.int (i : Int)) fun i hi2 => ⟨_, rfl, ?_, fun _ => by simp⟩
          have hi3 := List.mem_range.mp hi2
          have c1 : AU.cutD (ws.map DD.bl) none (some (i : Int)) = (ws.take i).map DD.bl := by rw [cut_to _ i (by rw [List.length_map]; omega), List.map_take]
          have c2 : atI (ws.map DD.bl) (i : Nat) = some (.bl ws[i]) := AU.atI_nat (by simp [hi3])
          have c3 := e_allowed c (ws.take i) ws[i] (0, 0) hc
          rw [List.map_take] at c1 c3
          simp [c1, c2, c3, hi3]
        have e6 : opEq (.lst (((List.range ws.length).filter fun i => !allowed c (ws.take i) ((ws[i]?).getD false)).map fun (i : Nat) => DD.int (i : Int))) (.lst []) = AU.ret (.bl (stepOkW c ws)) := by
          rw [opEq_nilL (n := 1) (okN_lst fun x hx => by
            obtain ⟨i, _, rfl⟩ := List.mem_map.mp hx
            exact okN_int _) (by decide)]
          congr 2
          rw [List.isEmpty_map, isEmpty_filter]
          unfold stepOkW
          simp
        have hr : rngD 0 ws.length = (List.range ws.length).map fun (i : Nat) => DD.int (i : Int) := by
          unfold rngD
          simp
        have ef : (ws.map DD.bl).filter (fun x => !isBo x) = [] := by
          rw [List.filter_eq_nil_iff]
          intro x hx
          obtain ⟨b, _, rfl⟩ := List.mem_map.mp hx
          simp
        rw [ef] at e2
        simp only [ef] at e1
        have hl3 : ((100 : Int) < ws.length) = False := eq_false (by omega)
        have e7 : opNe (.lst []) (.lst []) = AU.ret (.bl false) := opNe_self (eqOk_of (n := 1) (okN_lst fun x hx => by cases hx))
        simp [m__law_is_weather, runB, env0, f__law_is_weather, hl3, e1, e7, hw', hw2, hz2, hr, e5, e6, row_bls hw]
        have := boolOf_map ws
        rw [List.map_map] at this
        rw [this]
    · have hl' : ((100 : Int) < xs.length) = True := eq_true (by omega)
      simp [m__law_is_weather, runB, env0, f__law_is_weather, hl', rowOk, hl]
  | _ => simp [m__law_is_weather, runB, env0, f__law_is_weather, rowOk]
end AUL
namespace AUL
open PySem PySem.Spec PyProof.Rows L2 AU
theorem last_take (ws : List Bool) (i : Nat) (h : i ≤ ws.length) : (ws.take i).getLast? = if i = 0 then none else ws[i - 1]? := by
  rw [List.getLast?_eq_getElem?, List.length_take, Nat.min_eq_left h]
  by_cases h0 : i = 0
  · subst h0
    rfl
  · rw [if_neg h0, List.getElem?_take_of_lt (by omega)]
theorem idx2_get (n c j : Nat) (hc : c ≤ n) : (idx2 n c)[j]? = if c + 2 * j < n then some (c + 2 * j) else none := by
  unfold idx2
  rw [Nat.min_eq_left hc, List.getElem?_map]
  unfold Builtin.Slice.slicePlaces
  simp only [show ((2 : Int) > 0) from by decide, if_true]
  by_cases h : c + 2 * j < n
  · rw [if_pos h, if_pos (by omega), List.getElem?_range (by omega)]
    simp
    omega
  · rw [if_neg h]
    split
    · rw [List.getElem?_eq_none (by rw [List.length_range]; omega)]
      rfl
    · rfl
theorem pick_get {α : Type} (xs : List α) : ∀ (is : List Nat) (j : Nat), (∀ i ∈ is, i < xs.length) → (is.filterMap (xs[·]?))[j]? = (is[j]?).bind (xs[·]?)
  | [], j, _ => by simp
  | i :: is, j, h => by
    have hi := h i List.mem_cons_self
    rw [List.filterMap_cons_some (List.getElem?_eq_getElem hi)]
    cases j with
    | zero => simp [hi]
    | succ j => simpa using pick_get xs is j fun k hk => h k (List.mem_cons_of_mem _ hk)
theorem idx2_lt (n c : Nat) (hc : c ≤ n) : ∀ i ∈ idx2 n c, i < n := fun i hi => by
  obtain ⟨j, e⟩ := List.mem_iff_getElem?.mp hi
  rw [idx2_get n c j hc] at e
  split at e
  · cases e
    assumption
  · cases e
theorem cut2_get {α : Type} (xs : List α) (c j : Nat) (hc : c ≤ xs.length) : (cut2 xs c)[j]? = xs[c + 2 * j]? := by
  unfold cut2
  rw [pick_get xs _ j (idx2_lt _ _ hc), idx2_get _ _ _ hc]
  by_cases h : c + 2 * j < xs.length
  · rw [if_pos h]
    rfl
  · rw [if_neg h, List.getElem?_eq_none (by omega)]
    rfl
theorem all_zip {α : Type} {xs ys : List α} {p : α × α → Bool} : ((xs.zip ys).all p = true) ↔ ∀ (j : Nat) (x y : α), xs[j]? = some x → ys[j]? = some y → p (x, y) = true := by
  rw [List.all_eq_true]
  constructor
  · intro h j x y hx hy
    refine h (x, y) (List.mem_iff_getElem?.mpr ⟨j, ?_⟩)
    rw [List.getElem?_zip_eq_some]
    exact ⟨hx, hy⟩
  · intro h q hq
    obtain ⟨j, e⟩ := List.mem_iff_getElem?.mp hq
    rw [List.getElem?_zip_eq_some] at e
    exact h j q.1 q.2 e.1 e.2
theorem not_any {α : Type} (p : α → Bool) : ∀ l : List α, (!l.any p) = l.all fun q => !p q
  | [] => rfl
  | x :: l => by
    have := not_any p l
    cases hp : p x <;> simp [hp, ← this]
theorem lets_step (c : Str) (ws : List Bool) : letsOk c ws = stepOkW c ws := by
  apply Bool.eq_iff_iff.mpr
  unfold stepOkW
  rw [List.all_eq_true]
  unfold letsOk
  by_cases h1 : c = "rare"
  · rw [if_pos h1, not_any, all_zip]
    constructor
    · intro h i hi
      have hi := List.mem_range.mp hi
      unfold allowed
      rw [if_pos h1, last_take ws i (by omega)]
      have e1 : ws[i]? = some ws[i] := List.getElem?_eq_getElem hi
      by_cases h0 : i = 0
      · simp [h0]
      · rw [if_neg h0]
        have e2 : ws[i - 1]? = some ws[i - 1] := List.getElem?_eq_getElem (by omega)
        have := h (i - 1) ws[i - 1] ws[i] e2 (by rw [List.getElem?_drop, show 1 + (i - 1) = i by omega, e1])
        rw [e1, e2]
        cases ha : ws[i] <;> cases hb : ws[i - 1] <;> simp_all
    · intro h j x y hx hy
      rw [List.getElem?_drop] at hy
      have hj := (List.getElem?_eq_some_iff.mp hy).1
      have := h (1 + j) (List.mem_range.mpr hj)
      unfold allowed at this
      rw [if_pos h1, last_take ws _ (by omega), if_neg (by omega), hy, show 1 + j - 1 = j by omega, hx] at this
      cases x <;> cases y <;> simp_all
  · by_cases h2 : c = "days"
    · rw [if_neg h1, if_pos h2, all_zip]
      constructor
      · intro h i hi
        have hi := List.mem_range.mp hi
        unfold allowed
        rw [if_neg h1]
        split
        · rename_i hh
          have hlen : (ws.take i).length = i := by rw [List.length_take]; omega
          rw [hlen] at hh
          rw [last_take ws i (by omega), if_neg (by omega)]
          have e1 : ws[i]? = some ws[i] := List.getElem?_eq_getElem hi
          have e2 : ws[i - 1]? = some ws[i - 1] := List.getElem?_eq_getElem (by omega)
          have := h (i / 2) ws[i - 1] ws[i] (by rw [cut2_get _ _ _ (by omega), show 0 + 2 * (i / 2) = i - 1 by omega, e2]) (by rw [cut2_get _ _ _ (by omega), show 1 + 2 * (i / 2) = i by omega, e1])
          rw [e1, e2]
          simpa using this
        · rfl
      · intro h j x y hx hy
        by_cases hl : 1 ≤ ws.length
        · rw [cut2_get _ _ _ (by omega)] at hx hy
          have hj := (List.getElem?_eq_some_iff.mp hy).1
          have := h (1 + 2 * j) (List.mem_range.mpr hj)
          unfold allowed at this
          have hlen : (ws.take (1 + 2 * j)).length = 1 + 2 * j := by rw [List.length_take]; omega
          rw [if_neg h1, if_pos ⟨h2, by rw [hlen]; omega⟩, last_take ws _ (by omega), if_neg (by omega), hy, show 1 + 2 * j - 1 = 0 + 2 * j by omega, hx] at this
          simpa using this
        · have : ws = [] := List.length_eq_zero_iff.mp (by omega)
          subst this
          rw [cut2_get [] 0 j (by simp)] at hx
          simp at hx
    · rw [if_neg h1, if_neg h2]
      simp only [true_iff]
      intro i _
      unfold allowed
      rw [if_neg h1, if_neg (fun z => h2 z.1)]
end AUL
namespace AUL
open PySem PySem.Spec PyProof.Rows L2 AU
theorem clim_ok {c : Str} (hc : c ∈ (["any", "days", "rare"] : List Str)) : PyData.strOk c = true := by
  simp only [List.mem_cons, List.not_mem_nil, or_false] at hc
  rcases hc with rfl | rfl | rfl <;> decide +kernel
theorem weather_same {n : Nat} (c : Str) (v : DD) (S : Sr) (hc : c ∈ (["any", "days", "rare"] : List Str)) (h : okN n v = true) (hn : n ≤ 60) : m__law_is_weather [.d (.str c), .d v] S = some (.ok (.bl (weatherOk c v)), S) := by
  rw [e_law_is_weather c v S (clim_ok hc) h hn]
  unfold weatherOk
  cases v with
  | tup xs => simp only [lets_step]
  | _ => rfl
theorem e_told_b1 {n : Nat} (c : Str) (v : DD) (x3 x4 x5 : Option AU.It) (S : Sr) (hc : c ∈ (["any", "days", "rare"] : List Str)) (h : okN n v = true) :
    f__law_told_b1 [some (.d (.str c)), some (.d v), some (.d (.lst [.bl (bookOk v), .bl (weatherOk c v)])), x3, x4, x5] S = some (.nx [some (.d (.str c)), some (.d v), some (.d (.lst [.bl (bookOk v), .bl (weatherOk c v)])), x3, some (.d (.lst [.bl (bookOk v), .bl (weatherOk c v)])), x5] S) := by
  have e1 : m_is_book [.d v] (0, 0) = some (.ok (.bl (bookOk v)), 0, 0) := by
    have := e_has_book v (0, 0) h
    simp [m_is_book, runB, env0, f_is_book, this]
  have e2 := e_is_weather c v (0, 0) hc h
  have e3 : opNe (.lst [.bl (bookOk v), .bl (weatherOk c v)]) (.lst [.bl (bookOk v), .bl (weatherOk c v)]) = AU.ret (.bl false) := opNe_self (eqOk_of (ok_blsL [bookOk v, weatherOk c v]))
  have e4 : opNe (.lst []) (.lst []) = AU.ret (.bl false) := opNe_self (eqOk_of (n := 1) (okN_lst fun x hx => by cases hx))
  simp [f__law_told_b1, e1, e2, e3, lcD, e4]
theorem e_told {n : Nat} (c : Str) (v : DD) (S : Sr) (hc : c ∈ (["any", "days", "rare"] : List Str)) (h : okN n v = true) (hn : n ≤ 60) : m__law_told [.d (.str c), .d v] S = some (.ok (.bl true), S) := by
  have e1 := e_law_is_book v (0, 0) h
  have e2 := weather_same c v (0, 0) hc h hn
  have e3 := fun x3 x4 => e_told_b1 c v x3 x4 none S hc h
  have hr : rngD 0 2 = [.int 0, .int 1] := rfl
  simp [m__law_told, runB, env0, f__law_told, e1, e2, hr, forD, e3]
theorem e_refused {n : Nat} (v : DD) (S : Sr) (hv : okN n v = true) (h : climOk v = false) : m__law_refused [.d v] S = some (.ok (.bl true), S) := by
  have e1 := e_is_weather_bad v .non (0, 0) hv h
  have hx : kx_InvalidClimate < nx_ := by decide
  simp [m__law_refused, runB, env0, f__law_refused, sTry, e1, hx, noEx]
/-! ### lengths, all the way down -/
mutual
def lenB (L : Nat) : DD → Bool
  | .lst xs => decide (xs.length ≤ L) && lenBA L xs
  | .tup xs => decide (xs.length ≤ L) && lenBA L xs
  | _ => true
def lenBA (L : Nat) : List DD → Bool
  | [] => true
  | x :: xs => lenB L x && lenBA L xs
end
theorem lenBA_iff {L : Nat} : ∀ {xs : List DD}, lenBA L xs = true ↔ ∀ x ∈ xs, lenB L x = true
  | [] => by simp [lenBA]
  | x :: xs => by simp [lenBA, lenBA_iff (xs := xs)]
mutual
theorem lenB_mono {L M : Nat} (h : L ≤ M) : ∀ d : DD, lenB L d = true → lenB M d = true
  | .lst xs, k => by
    simp only [lenB, Bool.and_eq_true, decide_eq_true_eq] at k ⊢
    exact ⟨by omega, lenBA_mono h xs k.2⟩
  | .tup xs, k => by
    simp only [lenB, Bool.and_eq_true, decide_eq_true_eq] at k ⊢
    exact ⟨by omega, lenBA_mono h xs k.2⟩
  | .non, _ => rfl
  | .bl _, _ => rfl
  | .int _, _ => rfl
  | .str _, _ => rfl
  | .raw _, _ => rfl
  | .dct _ _, _ => rfl
theorem lenBA_mono {L M : Nat} (h : L ≤ M) : ∀ ds : List DD, lenBA L ds = true → lenBA M ds = true
  | [], _ => rfl
  | d :: ds, k => by
    simp only [lenBA, Bool.and_eq_true] at k ⊢
    exact ⟨lenB_mono h d k.1, lenBA_mono h ds k.2⟩
end
theorem cut_from (xs : List DD) (i : Nat) (h : i ≤ xs.length) : AU.cutD xs (some (i : Int)) none = xs.drop i := by
  unfold AU.cutD HT.sIx
  simp only [show ¬ (((i : Nat) : Int) < 0) from by omega, if_false]
  rw [Int.toNat_natCast, Nat.min_eq_left h, List.take_of_length_le (by rw [List.length_drop]; omega)]
theorem opNe_nilT {n : Nat} {xs : List DD} (h : okN n (.tup xs) = true) (hn : n ≤ 64) : opNe (.tup xs) (.tup []) = AU.ret (.bl (!xs.isEmpty)) := by
  rw [opNe_of (eqOk_of h hn) (eqOk_of (n := 1) (okN_tup fun x hx => by cases hx))]
  cases xs <;> simp [DD.py, DD.pyA, PyData.eqv, PyData.eqvAll]
end AUL
namespace AUL
open PySem PySem.Spec PyProof.Rows L2 AU
/-! ### a value with one part otherwise -/
def oddsL : List DD := [.non, .bl true, .bl false, .bl true, .bl false, .int 0, .int 1, .int 2, .int (-1), .str "", .str "take", .str "leave", .str "lose", .tup [], .lst [], .tup [.str "take", .int 0], .tup [.str "leave", .int 1],
  .lst [.str "leave", .int 0], .int 1000000000000000000000000000000, .str "Take", .tup [.bl true], .tup [.str "leave", .bl true]]
theorem odds_ok : (oddsL.all fun d => okN 1 d && lenB 2 d) = true := by kernel_rfl
theorem odds_at {x : DD} (h : x ∈ oddsL) : okN 1 x = true ∧ lenB 2 x = true := by
  have := List.all_eq_true.mp odds_ok x h
  exact Bool.and_eq_true_iff.mp this
theorem ok_in1 {k : Nat} {xs : List DD} (h : okN (k + 1) (.tup xs) = true) : ∀ x ∈ xs, okN k x = true := by
  simp only [okN, DD.pure, DD.py, PyData.canLay0, PyData.depth, Bool.and_eq_true, decide_eq_true_eq] at h
  exact ok_inA h.1.1 h.1.2 (by omega)
theorem ok_no {xs : List DD} : okN 0 (.tup xs) = false := by
  simp [okN, DD.py, PyData.depth]
theorem e_odd (S : Sr) : ∃ x S', m__law_choice [.s, .d (.lst oddsL)] S = some (.ok x, S') ∧ x ∈ oddsL := e_choice oddsL S (by simp [oddsL]) (by simp [oddsL])
theorem e_bent_tail (rec_ : List AU.It → M DD) (v : DD) (S : Sr) (hv : AU.plain1 v = true) (r : Int) (S1 : Sr) (e1 : m__law_draw [.s, .d (.int 6)] S = some (.ok (.int r), S1))
    (hno : ∀ xs, v = .tup xs → (r = 0 ∨ xs = [])) (hok : ∀ xs, v = .tup xs → okN 60 v = true) : ∃ x S', runB 5 (f__law_bent rec_) [.s, .d v] S = some (.ok x, S') ∧ x ∈ oddsL := by
  obtain ⟨x, S', e2, hx⟩ := e_odd S1
  refine ⟨x, S', ?_, hx⟩
  unfold oddsL at e2
  cases v with
  | raw v => cases hv
  | dct k v => cases hv
  | tup xs =>
    have e3 := opNe_nilT (hok xs rfl) (by decide)
    rcases hno xs rfl with h | h
    · subst h
      cases hx : xs.isEmpty with
      | true =>
        rw [hx] at e3
        simp at e3
        simp [runB, env0, f__law_bent, e1, e3, opPow_int, e2]
      | false =>
        rw [hx] at e3
        simp at e3
        simp [runB, env0, f__law_bent, e1, e3, opPow_int, e2]
    · subst h
      simp at e3
      simp [runB, env0, f__law_bent, e1, e3, opPow_int, e2]
  | _ => simp [runB, env0, f__law_bent, e1, opPow_int, e2]
end AUL
namespace AUL
open PySem PySem.Spec PyProof.Rows L2 AU
theorem lenB_tup {L : Nat} {xs : List DD} : lenB L (.tup xs) = true ↔ xs.length ≤ L ∧ ∀ x ∈ xs, lenB L x = true := by
  simp only [lenB, Bool.and_eq_true, decide_eq_true_eq, lenBA_iff]
theorem e_bent : ∀ (d n L : Nat) (v : DD) (S : Sr), okN n v = true → n ≤ d → d ≤ 50 → lenB L v = true → 2 ≤ L → L ≤ 50000 → ∃ v' S', m__law_bent_ (d + 1) [.s, .d v] S = some (.ok v', S') ∧ okN (n + 1) v' = true ∧ lenB (L + 1) v' = true
  | d, n, L, v, S, hv, hn, hd, hL, h2, h3 => by
    obtain ⟨r, S1, e1, r0, r1⟩ := e_draw 6 S (by decide) (by decide)
    have hp := ok_plain hv
    have tail : (∀ xs, v = .tup xs → (r = 0 ∨ xs = [])) → ∃ v' S', m__law_bent_ (d + 1) [.s, .d v] S = some (.ok v', S') ∧ okN (n + 1) v' = true ∧ lenB (L + 1) v' = true := fun hno => by
      obtain ⟨x, S', e, hx⟩ := e_bent_tail (m__law_bent_ d) v S hp r S1 e1 hno fun xs _ => okN_mono (by omega) hv
      obtain ⟨q1, q2⟩ := odds_at hx
      exact ⟨x, S', e, okN_mono (by omega) q1, lenB_mono (by omega) x q2⟩
    by_cases hno : ∀ xs, v = .tup xs → (r = 0 ∨ xs = [])
    · exact tail hno
    · obtain ⟨xs, rfl, hr0, hxs⟩ : ∃ xs, v = .tup xs ∧ r ≠ 0 ∧ xs ≠ [] := by
        apply Classical.byContradiction
        intro z
        refine hno fun xs hx => ?_
        apply Classical.byContradiction
        intro y
        exact z ⟨xs, hx, fun q => y (.inl q), fun q => y (.inr q)⟩
      obtain ⟨k, rfl⟩ : ∃ k, n = k + 1 := by
        cases n with
        | zero => rw [ok_no] at hv; cases hv
        | succ k => exact ⟨k, rfl⟩
      have hi := ok_in1 hv
      obtain ⟨hl, hLx⟩ := lenB_tup.mp hL
      have hpos : 0 < xs.length := List.length_pos_iff.mpr hxs
      obtain ⟨q, S2, e2, q0, q1⟩ := e_draw xs.length S1 (by omega) (by omega)
      obtain ⟨a, rfl⟩ : ∃ a : Nat, q = (a : Int) := ⟨q.toNat, by omega⟩
      have ha : a < xs.length := by omega
      have e3 := opNe_nilT hv (by omega)
      rw [show xs.isEmpty = false by cases xs <;> simp_all] at e3
      simp at e3
      have hr : (0 < r) = True := eq_true (by omega)
      have c1 : AU.cutD xs none (some (a : Int)) = xs.take a := cut_to xs a (by omega)
      have c2 : AU.cutD xs (some ((a : Int) + 1)) none = xs.drop (a + 1) := by
        have := cut_from xs (a + 1) (by omega)
        rwa [show (((a + 1 : Nat)) : Int) = (a : Int) + 1 by omega] at this
      have c3 : AU.cutD xs none (some ((a : Int) + 1)) = xs.take (a + 1) := by
        have := cut_to xs (a + 1) (by omega)
        rwa [show (((a + 1 : Nat)) : Int) = (a : Int) + 1 by omega] at this
      have c4 : AU.cutD xs (some (a : Int)) none = xs.drop a := cut_from xs a (by omega)
      by_cases r1' : r = 1
      · subst r1'
        have hz : szOk (min a xs.length + (xs.length - (a + 1))) = true := decide_eq_true (by omega)
        refine ⟨.tup (xs.take a ++ xs.drop (a + 1)), S2, ?_, okN_mono (n := k + 1) (by omega) (okN_tup fun x hx => ?_), lenB_tup.mpr ⟨?_, fun x hx => ?_⟩⟩
        · simp [m__law_bent_, runB, env0, f__law_bent, e1, e3, e2, c1, c2, hz]
        · rcases List.mem_append.mp hx with hx | hx
          · exact hi x (List.mem_of_mem_take hx)
          · exact hi x (List.mem_of_mem_drop hx)
        · rw [List.length_append, List.length_take, List.length_drop]
          omega
        · refine lenB_mono (L := L) (by omega) x ?_
          rcases List.mem_append.mp hx with hx | hx
          · exact hLx x (List.mem_of_mem_take hx)
          · exact hLx x (List.mem_of_mem_drop hx)
      · by_cases r2' : r = 2
        · subst r2'
          have hz : szOk (min (a + 1) xs.length + (xs.length - a)) = true := decide_eq_true (by omega)
          refine ⟨.tup (xs.take (a + 1) ++ xs.drop a), S2, ?_, okN_mono (n := k + 1) (by omega) (okN_tup fun x hx => ?_), lenB_tup.mpr ⟨?_, fun x hx => ?_⟩⟩
          · simp [m__law_bent_, runB, env0, f__law_bent, e1, e3, e2, c3, c4, hz]
          · rcases List.mem_append.mp hx with hx | hx
            · exact hi x (List.mem_of_mem_take hx)
            · exact hi x (List.mem_of_mem_drop hx)
          · rw [List.length_append, List.length_take, List.length_drop]
            omega
          · refine lenB_mono (L := L) (by omega) x ?_
            rcases List.mem_append.mp hx with hx | hx
            · exact hLx x (List.mem_of_mem_take hx)
            · exact hLx x (List.mem_of_mem_drop hx)
        · obtain ⟨d', rfl⟩ : ∃ d', d = d' + 1 := ⟨d - 1, by omega⟩
          have ea : atI xs (a : Nat) = some xs[a] := AU.atI_nat (List.getElem?_eq_getElem ha)
          have hmem : xs[a] ∈ xs := List.getElem_mem ha
          obtain ⟨v', S3, e4, o4, l4⟩ := e_bent d' k L xs[a] S2 (hi _ hmem) (by omega) (by omega) (hLx _ hmem) h2 h3
          have hz : szOk (min a xs.length + 1) = true := decide_eq_true (by omega)
          have hz2 : szOk (min a xs.length + (xs.length - (a + 1) + 1)) = true := decide_eq_true (by omega)
          have hz3 : szOk (min a xs.length + 1 + (xs.length - (a + 1))) = true := decide_eq_true (by omega)
          have hq1 : (r = 1) = False := eq_false r1'
          have hq2 : (r = 2) = False := eq_false r2'
          have em : m__law_bent_ (d' + 1) = runB 5 (f__law_bent (m__law_bent_ d')) := rfl
          refine ⟨.tup (xs.take a ++ v' :: xs.drop (a + 1)), S3, ?_, okN_tup fun x hx => ?_, lenB_tup.mpr ⟨?_, fun x hx => ?_⟩⟩
          · show runB 5 (f__law_bent (m__law_bent_ (d' + 1))) [.s, .d (.tup xs)] S = _
            generalize m__law_bent_ (d' + 1) = rec_ at e4
            simp [runB, env0, f__law_bent, e1, e3, hr, e2, hq1, hq2, c1, c2, ea, e4, hz, hz2, hz3]
          · rcases List.mem_append.mp hx with hx | hx
            · exact okN_mono (by omega) (hi x (List.mem_of_mem_take hx))
            · rcases List.mem_cons.mp hx with rfl | hx
              · exact o4
              · exact okN_mono (by omega) (hi x (List.mem_of_mem_drop hx))
          · rw [List.length_append, List.length_cons, List.length_take, List.length_drop]
            omega
          · rcases List.mem_append.mp hx with hx | hx
            · exact lenB_mono (by omega) x (hLx x (List.mem_of_mem_take hx))
            · rcases List.mem_cons.mp hx with rfl | hx
              · exact l4
              · exact lenB_mono (by omega) x (hLx x (List.mem_of_mem_drop hx))
end AUL
namespace AUL
open PySem PySem.Spec PyProof.Rows L2 AU
/-! ### the source -/
theorem atI_some {α : Type} {xs : List α} {k : Nat} (h : k < xs.length) : L2.atI xs (k : Int) = some xs[k] := by
  unfold L2.atI ixN
  rw [if_pos (by omega), if_pos (by omega)]
  simp [h]
theorem e_source (ns : List Int) (k : Nat) (S : Sr) : ∃ x y, m__law_source [.sc ns, .d (.int (k : Nat))] S = some (.ok [.int x, .int y], S) := by
  by_cases h : k < ns.length
  · have h' : ((k : Int) < ns.length) = True := eq_true (by omega)
    have e1 : L2.atI ns (k : Int) = some ns[k] := atI_some h
    by_cases h2 : (if ns[k] < 0 then -ns[k] else ns[k]) > 100000000000000000
    · simp [m__law_source, AU.runN, env0, f__law_source, h', e1, bAbs, opPow_int, h2]
    · simp [m__law_source, AU.runN, env0, f__law_source, h', e1, bAbs, opPow_int, h2]
  · have h' : ((k : Int) < ns.length) = False := eq_false (by omega)
    by_cases h2 : (113 * (k : Int) + 67) > 100000000000000000
    · simp [m__law_source, AU.runN, env0, f__law_source, h', bAbs, opPow_int, h2]
    · simp [m__law_source, AU.runN, env0, f__law_source, h', bAbs, opPow_int, h2]
def nsB : Option AU.It → Bool
  | some .s => false
  | _ => true
theorem nsB_n : nsB none = true := rfl
theorem nsB_d (d : DD) : nsB (some (.d d)) = true := rfl
theorem nsB_sc (d : List Int) : nsB (some (.sc d)) = true := rfl
theorem noS_eq (env : Env) : noS env = env.all nsB := by
  unfold noS
  congr 1
theorem rng_item {n i : Nat} {d : DD} (h : (rngD 0 n)[i]? = some d) : i < n ∧ d = .int (i : Nat) := by
  unfold rngD at h
  rw [List.getElem?_map] at h
  by_cases hi : i < n
  · rw [List.getElem?_range hi] at h
    have := Option.some.inj h
    refine ⟨hi, ?_⟩
    rw [← this]
    simp
  · rw [List.getElem?_eq_none (by rw [List.length_range]; omega)] at h
    cases h
end AUL
namespace AUL
open PySem PySem.Spec PyProof.Rows L2 AU
/-! law -/
def N_law : List Str := ["_law_script", "_law_k", "_law_plain", "_law_rows", "_law_found", "_law_source_here", "_law_climate", "_law_good", "_law_book_here", "_law_weather_here", "_law_value", "_law_turn", "_law_odd"]
theorem sc_law : FnScope N_law ["_law_script"] (defScope (top 30)) := ⟨rfl, rfl, rfl, by decide +kernel, rfl, by decide +kernel, by decide +kernel⟩
def f_law_b1 : SF := (sSeq (sIf (tNotD (tV (eCall m__law_told (iCons (eVar 6) (iCons (eVar 10) iNil)))))
  (sRet (eC (.bl false)))
  sNil)
  (sAsg (eCall m__law_bent (iSrc 5 (iCons (eIf (tV (eOp opEq (eOp opMod (eVar 11) (eC (.int 4))) (eC (.int 0)))) (eVar 7) (eVar 10)) iNil))) (gN 10)))
def f_law_b2 : SF := (sSeq (sAsg (eVar 7) (gN 10))
  (sFor (jRng1 (aCons (eC (.int 10)) aNil)) (gN 11)
  (f_law_b1)))
def f_law_b3 : SF := (sSeq (sSrcNew 5 (nCall m__law_source (iSrc 0 (iCons (eVar 1) iNil))))
  (sSeq (sAsg (eCall m__law_choice (iSrc 5 (iCons (eLst (aCons (eC (.str "any")) (aCons (eC (.str "days")) (aCons (eC (.str "rare")) aNil)))) iNil))) (gN 6))
  (sSeq (sPar [8, 9] (pD (eCall m__law_book (iSrc 5 iNil)) (pD (eCall m__law_weather (iSrc 5 (iCons (eVar 6) (iCons (eC (.int 12)) iNil)))) pNil)))
  (sSeq (sIf (tOrD (tNotD (tV (eCall m_is_book (iCons (eVar 8) iNil)))) (tNotD (tV (eCall m_is_weather (iCons (eVar 6) (iCons (eVar 9) iNil))))))
  (sRet (eC (.bl false)))
  sNil)
  (sSeq (sFor (jSeq (eLst (aCons (eVar 8) (aCons (eVar 9) aNil)))) (gN 7)
  (f_law_b2))
  (sIf (tV (eOp opNe (eLc [12] (jSeq (eLst (aCons (eC .non) (aCons (eC (.str "")) (aCons (eC (.str "Any")) (aCons (eC (.int 0)) (aCons (eTup (aCons (eC (.str "any")) aNil)) (aCons (eVar 8) aNil)))))))) (gN 12) (tNotD (tV (eCall m__law_refused (iCons (eVar 12) iNil)))) (eVar 12)) (eLst aNil)))
  (sRet (eC (.bl false)))
  sNil))))))
def f_law : SF := (sSeq (sFor (jRng1 (aCons (eOp opAdd (eC (.int 1)) (eB (b2I minI) (aCons (eScLen 0) (aCons (eC (.int 10)) aNil)))) aNil)) (gN 1)
  (f_law_b3))
  (sSeq (sAsg (eOp opAdd (eOp opMul (eTup (aCons (eTup (aCons (eC (.str "leave")) (aCons (eC (.int 0)) aNil))) aNil)) (eC (.int 4))) (eOp opMul (eTup (aCons (eTup (aCons (eC (.str "take")) (aCons (eC (.int 0)) aNil))) aNil)) (eC (.int 2)))) (gN 2))
  (sSeq (sAsg (eLst (aCons (eTup (aCons (eVar 2) aNil)) (aCons (eTup (aCons (eVar 2) (aCons (eVar 2) aNil))) (aCons (eOp opMul (eTup (aCons (eVar 2) aNil)) (eC (.int 3))) (aCons (eTup aNil) (aCons (eVar 2) (aCons (eLst (aCons (eVar 2) aNil)) (aCons (eTup (aCons (eSl (eVar 2) oNo (oSome (eC (.int 5)))) aNil)) aNil)))))))) (gN 3))
  (sSeq (sAsg (eOp opAdd (eVar 3) (eLst (aCons (eTup (aCons (eOp opAdd (eOp opAdd (eSl (eVar 2) oNo (oSome (eC (.int 3)))) (eTup (aCons (eTup (aCons (eC (.str "take")) (aCons (eC (.int 0)) aNil))) aNil))) (eSl (eVar 2) (oSome (eC (.int 4))) oNo)) aNil)) (aCons (eTup (aCons (eOp opAdd (eTup (aCons (eTup (aCons (eC (.str "take")) (aCons (eC (.int 0)) aNil))) aNil)) (eSl (eVar 2) (oSome (eC (.int 1))) oNo)) aNil)) aNil)))) (gN 3))
  (sSeq (sAsg (eOp opAdd (eVar 3) (eLst (aCons (eTup (aCons (eOp opAdd (eOp opAdd (eSl (eVar 2) oNo (oSome (eC (.int 1)))) (eTup (aCons (eTup (aCons (eC (.str "leave")) (aCons (eC (.int 1)) aNil))) aNil))) (eSl (eVar 2) (oSome (eC (.int 2))) oNo)) aNil)) (aCons (eTup (aCons (eOp opAdd (eSl (eVar 2) oNo (oSome (eC (.int 5)))) (eTup (aCons (eTup (aCons (eC (.str "take")) (aCons (eC (.bl true)) aNil))) aNil))) aNil)) aNil)))) (gN 3))
  (sSeq (sIf (tV (eOp opNe (eLc [10] (jSeq (eVar 3)) (gN 10) tYesD (eCall m_is_book (iCons (eVar 10) iNil))) (eOp opAdd (eLst (aCons (eC (.bl true)) (aCons (eC (.bl true)) aNil))) (eOp opMul (eLst (aCons (eC (.bl false)) aNil)) (eC (.int 9))))))
  (sRet (eC (.bl false)))
  sNil)
  (sSeq (sAsg (eLst (aCons (eTup (aCons (eC (.str "any")) (aCons (eOp opMul (eTup (aCons (eC (.bl true)) aNil)) (eC (.int 100))) aNil))) (aCons (eTup (aCons (eC (.str "any")) (aCons (eOp opMul (eTup (aCons (eC (.bl true)) aNil)) (eC (.int 101))) aNil))) (aCons (eTup (aCons (eC (.str "days")) (aCons (eTup (aCons (eC (.bl true)) (aCons (eC (.bl true)) (aCons (eC (.bl false)) aNil)))) aNil))) (aCons (eTup (aCons (eC (.str "days")) (aCons (eTup (aCons (eC (.bl false)) (aCons (eC (.bl true)) aNil))) aNil))) aNil))))) (gN 3))
  (sSeq (sAsg (eOp opAdd (eVar 3) (eLst (aCons (eTup (aCons (eC (.str "days")) (aCons (eTup (aCons (eC (.bl true)) (aCons (eC (.bl true)) (aCons (eC (.bl false)) (aCons (eC (.bl false)) aNil))))) aNil))) (aCons (eTup (aCons (eC (.str "rare")) (aCons (eTup (aCons (eC (.bl true)) (aCons (eC (.bl false)) (aCons (eC (.bl true)) aNil)))) aNil))) aNil)))) (gN 3))
  (sSeq (sAsg (eLc [6, 10] (jSeq (eVar 3)) (gT 2 (gsC (gN 6) (gsC (gN 10) gsN))) tYesD (eCall m_is_weather (iCons (eVar 6) (iCons (eVar 10) iNil)))) (gN 4))
  (sSeq (sIf (tV (eOp opNe (eVar 4) (eLst (aCons (eC (.bl true)) (aCons (eC (.bl false)) (aCons (eC (.bl true)) (aCons (eC (.bl false)) (aCons (eC (.bl true)) (aCons (eC (.bl true)) aNil)))))))))
  (sRet (eC (.bl false)))
  sNil)
  (sRet (eAnd (eNot (eCall m_is_weather (iCons (eC (.str "rare")) (iCons (eTup (aCons (eC (.bl false)) (aCons (eC (.bl true)) (aCons (eC (.bl true)) aNil)))) iNil)))) (eNot (eCall m_is_weather (iCons (eC (.str "any")) (iCons (eTup (aCons (eC (.int 1)) aNil)) iNil))))))))))))))))
theorem d_law {P : Program} {w : World} {K : PySem.W.Frag} {mg : Str → Option Value} {base : Heap} {cls : Nat → Value} (T : Txt K mg cls) (h__law_bent : FnC P w K mg base cls "_law_bent" 2 23 m__law_bent) (h__law_book : FnC P w K mg base cls "_law_book" 1 3 m__law_book) (h__law_choice : FnC P w K mg base cls "_law_choice" 2 2 m__law_choice) (h__law_refused : FnC P w K mg base cls "_law_refused" 1 3 m__law_refused) (h__law_source : FnN P w K mg base cls "_law_source" 2 1 m__law_source) (h__law_told : FnC P w K mg base cls "_law_told" 2 6 m__law_told) (h__law_weather : FnC P w K mg base cls "_law_weather" 3 3 m__law_weather) (h_is_book : FnC P w K mg base cls "is_book" 1 5 m_is_book) (h_is_weather : FnC P w K mg base cls "is_weather" 2 2 m_is_weather) {f : Addr} {cdv : Value} (A : Around) (outer : List PySem.Env) (s : Shared) (H : Hp) (E : XK) (hr : Room 23 (A.deeper (envOfC "law" (defScope (top 30)) s.heap.objs.size f cdv))) :
    DSs (cxOf (L2.CX P w) P w K mg base N_law "law" (defScope (top 30)) f cdv A outer s H E) (BL K [] cls) (WD E) (defBody (top 30)) (f_law ) := by
  exact (dss_cons (ds_for rfl (passes_of rfl) rfl (dj_rng1 T.f_range (da_cons (de_add rfl de_int (de_mn rfl T.f_min (da_cons (de_scLen 0 rfl T.f_len) (da_cons de_int da_nil)))) da_nil)) (dg_name 1 sc_law.nd)
  (dss_cons (ds_srcNew 5 rfl sc_law.nd (dn_call h__law_source hr (by decide) rfl (takes_of rfl rfl rfl rfl) (di_src 0 (di_cons (de_var 1) di_nil))))
  (dss_cons (ds_asg (de_call h__law_choice hr (by decide) rfl (takes_of rfl rfl rfl rfl) (di_src 5 (di_cons (de_lst (da_cons de_str (da_cons de_str (da_cons de_str da_nil)))) di_nil))) (dg_name 6 sc_law.nd))
  (dss_cons (ds_par2 rfl sc_law.nd (dp_d (de_call h__law_book hr (by decide) rfl (takes_of rfl rfl rfl rfl) (di_src 5 di_nil)) (dp_d (de_call h__law_weather hr (by decide) rfl (takes_of rfl rfl rfl rfl) (di_src 5 (di_cons (de_var 6) (di_cons de_int di_nil)))) dp_nil)))
  (dss_cons (ds_if (dw_pt (dw_or (dt_not (dt_val (de_call h_is_book hr (by decide) rfl (takes_of rfl rfl rfl rfl) (di_cons (de_var 8) di_nil)))) (dw_or1 (dt_not (dt_val (de_call h_is_weather hr (by decide) rfl (takes_of rfl rfl rfl rfl) (di_cons (de_var 6) (di_cons (de_var 9) di_nil))))))))
  (dss_one (ds_ret de_bl))
  dss_nil)
  (dss_cons (ds_for rfl (passes_of rfl) rfl (dj_seq rfl (de_lst (da_cons (de_var 8) (da_cons (de_var 9) da_nil)))) (dg_name 7 sc_law.nd)
  (dss_cons (ds_asg (de_var 7) (dg_name 10 sc_law.nd))
  (dss_one (ds_for rfl (passes_of rfl) rfl (dj_rng1 T.f_range (da_cons de_int da_nil)) (dg_name 11 sc_law.nd)
  (dss_cons (ds_if (dt_not (dt_val (de_call h__law_told hr (by decide) rfl (takes_of rfl rfl rfl rfl) (di_cons (de_var 6) (di_cons (de_var 10) di_nil)))))
  (dss_one (ds_ret de_bl))
  dss_nil)
  (dss_one (ds_asg (de_call h__law_bent hr (by decide) rfl (takes_of rfl rfl rfl rfl) (di_src 5 (di_cons (de_if (dt_eq rfl hr (de_mod (de_var 11) de_int) de_int) (de_var 7) (de_var 10)) di_nil))) (dg_name 10 sc_law.nd))))))))
  (dss_one (ds_if (dt_ne rfl hr (de_lc (own := [("_law_odd", 12)]) rfl sc_law.nd (dj_seq rfl (de_lst (da_cons de_non (da_cons de_str (da_cons de_str (da_cons de_int (da_cons (de_tup (da_cons de_str da_nil)) (da_cons (de_var 8) da_nil)))))))) (blkOk_by (by kernel_rfl)) (fun _ _ _ _ _ => (dg_name 12 sc_law.nd)) (fun _ _ _ _ _ => (dts_one (dt_not (dt_val (de_call h__law_refused hr (by decide) rfl takes_none5 (di_cons (de_var 12) di_nil)))))) (fun _ _ _ _ _ => (de_var 12))) (de_lst da_nil))
  (dss_one (ds_ret de_bl))
  dss_nil))))))))
  (dss_cons (ds_asg (de_add rfl (de_mul rfl (de_tup (da_cons (de_tup (da_cons de_str (da_cons de_int da_nil))) da_nil)) de_int) (de_mul rfl (de_tup (da_cons (de_tup (da_cons de_str (da_cons de_int da_nil))) da_nil)) de_int)) (dg_name 2 sc_law.nd))
  (dss_cons (ds_asg (de_lst (da_cons (de_tup (da_cons (de_var 2) da_nil)) (da_cons (de_tup (da_cons (de_var 2) (da_cons (de_var 2) da_nil))) (da_cons (de_mul rfl (de_tup (da_cons (de_var 2) da_nil)) de_int) (da_cons (de_tup da_nil) (da_cons (de_var 2) (da_cons (de_lst (da_cons (de_var 2) da_nil)) (da_cons (de_tup (da_cons (de_slice rfl (de_var 2) do_no (do_some de_int)) da_nil)) da_nil)))))))) (dg_name 3 sc_law.nd))
  (dss_cons (ds_asg (de_add rfl (de_var 3) (de_lst (da_cons (de_tup (da_cons (de_add rfl (de_add rfl (de_slice rfl (de_var 2) do_no (do_some de_int)) (de_tup (da_cons (de_tup (da_cons de_str (da_cons de_int da_nil))) da_nil))) (de_slice rfl (de_var 2) (do_some de_int) do_no)) da_nil)) (da_cons (de_tup (da_cons (de_add rfl (de_tup (da_cons (de_tup (da_cons de_str (da_cons de_int da_nil))) da_nil)) (de_slice rfl (de_var 2) (do_some de_int) do_no)) da_nil)) da_nil)))) (dg_name 3 sc_law.nd))
  (dss_cons (ds_asg (de_add rfl (de_var 3) (de_lst (da_cons (de_tup (da_cons (de_add rfl (de_add rfl (de_slice rfl (de_var 2) do_no (do_some de_int)) (de_tup (da_cons (de_tup (da_cons de_str (da_cons de_int da_nil))) da_nil))) (de_slice rfl (de_var 2) (do_some de_int) do_no)) da_nil)) (da_cons (de_tup (da_cons (de_add rfl (de_slice rfl (de_var 2) do_no (do_some de_int)) (de_tup (da_cons (de_tup (da_cons de_str (da_cons de_bl da_nil))) da_nil))) da_nil)) da_nil)))) (dg_name 3 sc_law.nd))
  (dss_cons (ds_if (dt_ne rfl hr (de_lc (own := [("_law_value", 10)]) rfl sc_law.nd (dj_seq rfl (de_var 3)) (blkOk_by (by kernel_rfl)) (fun _ _ _ _ _ => (dg_name 10 sc_law.nd)) (fun _ _ _ _ _ => dts_nil) (fun _ _ _ _ _ => (de_call h_is_book hr (by decide) rfl takes_none5 (di_cons (de_var 10) di_nil)))) (de_add rfl (de_lst (da_cons de_bl (da_cons de_bl da_nil))) (de_mul rfl (de_lst (da_cons de_bl da_nil)) de_int)))
  (dss_one (ds_ret de_bl))
  dss_nil)
  (dss_cons (ds_asg (de_lst (da_cons (de_tup (da_cons de_str (da_cons (de_mul rfl (de_tup (da_cons de_bl da_nil)) de_int) da_nil))) (da_cons (de_tup (da_cons de_str (da_cons (de_mul rfl (de_tup (da_cons de_bl da_nil)) de_int) da_nil))) (da_cons (de_tup (da_cons de_str (da_cons (de_tup (da_cons de_bl (da_cons de_bl (da_cons de_bl da_nil)))) da_nil))) (da_cons (de_tup (da_cons de_str (da_cons (de_tup (da_cons de_bl (da_cons de_bl da_nil))) da_nil))) da_nil))))) (dg_name 3 sc_law.nd))
  (dss_cons (ds_asg (de_add rfl (de_var 3) (de_lst (da_cons (de_tup (da_cons de_str (da_cons (de_tup (da_cons de_bl (da_cons de_bl (da_cons de_bl (da_cons de_bl da_nil))))) da_nil))) (da_cons (de_tup (da_cons de_str (da_cons (de_tup (da_cons de_bl (da_cons de_bl (da_cons de_bl da_nil)))) da_nil))) da_nil)))) (dg_name 3 sc_law.nd))
  (dss_cons (ds_setLc 4 (own := [("_law_climate", 6), ("_law_value", 10)]) rfl sc_law.nd (dj_seq rfl (de_var 3)) (blkOk_by (by kernel_rfl)) (fun _ _ _ _ _ => (dg_tup rfl rfl (dgs_cons (dg_name 6 sc_law.nd) (dgs_cons (dg_name 10 sc_law.nd) dgs_nil)))) (fun _ _ _ _ _ => dts_nil) (fun _ _ _ _ _ => (de_call h_is_weather hr (by decide) rfl takes_none5 (di_cons (de_var 6) (di_cons (de_var 10) di_nil)))))
  (dss_cons (ds_if (dt_ne rfl hr (de_var 4) (de_lst (da_cons de_bl (da_cons de_bl (da_cons de_bl (da_cons de_bl (da_cons de_bl (da_cons de_bl da_nil))))))))
  (dss_one (ds_ret de_bl))
  dss_nil)
  (dss_one (ds_ret (de_and (de_not (de_call h_is_weather hr (by decide) rfl (takes_of rfl rfl rfl rfl) (di_cons de_str (di_cons (de_tup (da_cons de_bl (da_cons de_bl (da_cons de_bl da_nil)))) di_nil)))) (de_one (de_not (de_call h_is_weather hr (by decide) rfl (takes_of rfl rfl rfl rfl) (di_cons de_str (di_cons (de_tup (da_cons de_int da_nil)) di_nil))))))))))))))))))
end AUL
namespace AUL
open PySem PySem.Spec PyProof.Rows L2 AU
theorem len_rowD (r : Bool × Nat) : lenB 12 (rowD r) = true := rfl
theorem len_bookD {b : Bk} (w : WF b) : lenB 12 (bookD b) = true := lenB_tup.mpr ⟨by rw [List.length_map]; rcases w.len with z | z <;> omega, fun x hx => by
  obtain ⟨m, hm, rfl⟩ := List.mem_map.mp hx
  refine lenB_tup.mpr ⟨by rw [List.length_map, w.six m hm]; decide, fun y hy => ?_⟩
  obtain ⟨r, _, rfl⟩ := List.mem_map.mp hy
  exact len_rowD r⟩
theorem len_bls {ws : List Bool} (h : ws.length ≤ 12) : lenB 12 (.tup (ws.map DD.bl)) = true := lenB_tup.mpr ⟨by simpa using h, fun x hx => by
  obtain ⟨b, _, rfl⟩ := List.mem_map.mp hx
  rfl⟩
section
variable {c : Str} (hc : c ∈ (["any", "days", "rare"] : List Str))
include hc
theorem e_lb1 (i : Nat) (hi : i < 10) (g v : DD) (x0 x1 x2 x3 x4 x8 x9 x12 : Option AU.It) (S : Sr) (hg : okN 3 g = true) (lg : lenB 12 g = true) (hv : okN (3 + i) v = true) (lv : lenB (12 + i) v = true) :
    ∃ v' S', f_law_b1 [x0, x1, x2, x3, x4, some .s, some (.d (.str c)), some (.d g), x8, x9, some (.d v), some (.d (.int (i : Nat))), x12] S = some (.nx [x0, x1, x2, x3, x4, some .s, some (.d (.str c)), some (.d g), x8, x9, some (.d v'), some (.d (.int (i : Nat))), x12] S') ∧ okN (3 + (i + 1)) v' = true ∧ lenB (12 + (i + 1)) v' = true := by
  have e1 := e_told c v (0, 0) hc hv (by omega)
  have em : m__law_bent = m__law_bent_ (19 + 1) := rfl
  by_cases h4 : i % 4 = 0
  · have h4' : ((i : Int) % 4 = 0) = True := eq_true (by omega)
    obtain ⟨v', S', e2, o, l⟩ := e_bent 19 (3 + i) (12 + i) g S (okN_mono (by omega) hg) (by omega) (by decide) (lenB_mono (by omega) g lg) (by omega) (by omega)
    rw [← em] at e2
    exact ⟨v', S', by simp [f_law_b1, e1, h4', e2], o, l⟩
  · have h4' : ((i : Int) % 4 = 0) = False := eq_false (by omega)
    obtain ⟨v', S', e2, o, l⟩ := e_bent 19 (3 + i) (12 + i) v S hv (by omega) (by decide) lv (by omega) (by omega)
    rw [← em] at e2
    exact ⟨v', S', by simp [f_law_b1, e1, h4', e2], o, l⟩
theorem e_lb2 (g : DD) (x0 x1 x2 x3 x4 x8 x9 x10 x11 x12 : Option AU.It) (S : Sr) (hg : okN 3 g = true) (lg : lenB 12 g = true) (h11 : nsB x11 = true) :
    ∃ v' x11' S', f_law_b2 [x0, x1, x2, x3, x4, some .s, some (.d (.str c)), some (.d g), x8, x9, x10, x11, x12] S = some (.nx [x0, x1, x2, x3, x4, some .s, some (.d (.str c)), some (.d g), x8, x9, some (.d v'), x11', x12] S') ∧ nsB x11' = true := by
  obtain ⟨e, S', h1, v, x11', h2, h3⟩ := forD_inv (fg := gN 11) (fb := f_law_b1) (fun k env _ => ∃ v y, env = [x0, x1, x2, x3, x4, some .s, some (.d (.str c)), some (.d g), x8, x9, some (.d v), y, x12] ∧ nsB y = true ∧ okN (3 + k) v = true ∧ lenB (12 + k) v = true)
    (rngD 0 10) 0 [x0, x1, x2, x3, x4, some .s, some (.d (.str c)), some (.d g), x8, x9, some (.d g), x11, x12] S ⟨g, x11, rfl, h11, hg, lg⟩ (fun i d env S hi hI => by
      obtain ⟨hi2, rfl⟩ := rng_item hi
      obtain ⟨v, y, rfl, hy, hv, lv⟩ := hI
      rw [Nat.zero_add] at hv lv ⊢
      obtain ⟨v', S', e, o, l⟩ := e_lb1 hc i hi2 g v x0 x1 x2 x3 x4 x8 x9 x12 S hg lg hv lv
      exact ⟨_, rfl, _, S', .inl e, v', _, rfl, rfl, o, l⟩)
  subst h2
  exact ⟨v, x11', S', by simp [f_law_b2, h1], h3.1⟩
end
theorem e_lb3 (ns : List Int) (k : Nat) (x5 x6 x7 x8 x9 x10 x11 x12 : Option AU.It) (S : Sr) (h6 : nsB x6 = true) (h7 : nsB x7 = true) (h8 : nsB x8 = true) (h9 : nsB x9 = true) (h10 : nsB x10 = true) (h11 : nsB x11 = true) (h12 : nsB x12 = true) :
    ∃ (x6' x7' x8' x9' x10' x11' x12' : Option AU.It) (S' : Sr), f_law_b3 [some (.sc ns), some (.d (.int (k : Nat))), none, none, none, x5, x6, x7, x8, x9, x10, x11, x12] S = some (.nx [some (.sc ns), some (.d (.int (k : Nat))), none, none, none, some .s, x6', x7', x8', x9', x10', x11', x12'] S') ∧
      nsB x6' = true ∧ nsB x7' = true ∧ nsB x8' = true ∧ nsB x9' = true ∧ nsB x10' = true ∧ nsB x11' = true ∧ nsB x12' = true := by
  obtain ⟨x, y, e1⟩ := e_source ns k (0, 0)
  have hn : noS [some (.sc ns), some (.d (.int (k : Nat))), none, none, none, none, x6, x7, x8, x9, x10, x11, x12] = true := by
    rw [noS_eq]
    simp [h6, h7, h8, h9, h10, h11, h12, nsB_n, nsB_d, nsB_sc]
  obtain ⟨z, S1, q1, hz⟩ := e_choice [.str "any", .str "days", .str "rare"] (x, y) (by simp) (by simp)
  obtain ⟨c, rfl, hc⟩ : ∃ c : Str, z = .str c ∧ c ∈ (["any", "days", "rare"] : List Str) := by
    simp only [List.mem_cons, List.not_mem_nil, or_false] at hz
    rcases hz with rfl | rfl | rfl
    · exact ⟨_, rfl, by simp⟩
    · exact ⟨_, rfl, by simp⟩
    · exact ⟨_, rfl, by simp⟩
  obtain ⟨b, S2, q2, w⟩ := e_book S1
  obtain ⟨ws, S3, q3, hl, hw⟩ := e_weather c (clim_ok hc) 12 S2 (by decide) (by decide)
  have hl : ws.length ≤ 12 := by omega
  have q4 : m_is_book [.d (bookD b)] (0, 0) = some (.ok (.bl true), 0, 0) := by
    have := e_has_book (bookD b) (0, 0) (ok_bookD b)
    rw [w.ok] at this
    simp [m_is_book, runB, env0, f_is_book, this]
  have hwo : ∀ ws : List Bool, WOk c ws → stepOkW c ws = true := by
    intro ws hw
    induction hw with
    | nil => rfl
    | @snoc ws r h1 h2 ih =>
      unfold stepOkW at ih ⊢
      rw [List.all_eq_true] at ih ⊢
      intro i hi
      have hi := List.mem_range.mp hi
      rw [List.length_append, List.length_singleton] at hi
      by_cases hi2 : i < ws.length
      · have := ih i (List.mem_range.mpr hi2)
        rw [List.take_append_of_le_length (by omega), List.getElem?_append_left hi2]
        exact this
      · have : i = ws.length := by omega
        subst this
        rw [List.take_left']
        · simpa using h2
        · rfl
  have q5 : m_is_weather [.d (.str c), .d (.tup (ws.map DD.bl))] (0, 0) = some (.ok (.bl true), 0, 0) := by
    have := e_is_weather c (.tup (ws.map DD.bl)) (0, 0) hc (ok_bls ws)
    rw [weatherOk_row c (by omega), lets_step, hwo ws hw] at this
    exact this
  obtain ⟨v1, y1, S4, q6, n1⟩ := e_lb2 hc (bookD b) (some (.sc ns)) (some (.d (.int (k : Nat)))) none none none (some (.d (bookD b))) (some (.d (.tup (ws.map DD.bl)))) x10 x11 x12 S3 (ok_bookD b) (len_bookD w) h11
  obtain ⟨v2, y2, S5, q7, n2⟩ := e_lb2 hc (.tup (ws.map DD.bl)) (some (.sc ns)) (some (.d (.int (k : Nat)))) none none none (some (.d (bookD b))) (some (.d (.tup (ws.map DD.bl)))) (some (.d v1)) y1 x12 S4 (okN_mono (by decide) (ok_bls ws)) (len_bls hl) n1
  have rf : ∀ (v : DD) (S : Sr), okN 3 v = true → climOk v = false → m__law_refused [.d v] S = some (.ok (.bl true), S) := fun v S h1 h2 => e_refused v S h1 h2
  have r1 := rf .non (0, 0) okN_non rfl
  have r2 := rf (.str "") (0, 0) (okN_str (by decide +kernel)) (by decide +kernel)
  have r3 := rf (.str "Any") (0, 0) (okN_str (by decide +kernel)) (by decide +kernel)
  have r4 := rf (.int 0) (0, 0) (okN_int _) rfl
  have r5 := rf (.tup [.str "any"]) (0, 0) (okN_mono (n := 1) (by decide) (okN_tup fun x hx => by rw [List.mem_singleton.mp hx]; exact okN_str (by decide +kernel))) rfl
  have r6 := rf (bookD b) (0, 0) (ok_bookD b) rfl
  have e7 : opNe (.lst []) (.lst []) = AU.ret (.bl false) := opNe_self (eqOk_of (n := 1) (okN_lst fun x hx => by cases hx))
  refine ⟨some (.d (.str c)), some (.d (.tup (ws.map DD.bl))), some (.d (bookD b)), some (.d (.tup (ws.map DD.bl))), some (.d v2), y2, x12, S5, ?_, rfl, rfl, rfl, rfl, rfl, n2, h12⟩
  simp [f_law_b3, e1, hn, q1, q2, q3, q4, q5, forD, q6, q7, lcD, r1, r2, r3, r4, r5, r6, e7]
theorem law_true : ∀ ns : List Int, ns.length ≤ 63 → (∀ z ∈ ns, Builtin.Int.intBits z ≤ 1048576) → ∃ S', f_law (env0 N_law.length [.sc ns]) (0, 0) = some (.rt (.bl true) S') := fun ns hl _ => by
  obtain ⟨j, hj, hj2⟩ : ∃ j : Nat, 1 + minI (ns.length : Int) 10 = (j : Int) ∧ j ≤ 11 := ⟨(1 + minI (ns.length : Int) 10).toNat, by unfold minI; split <;> omega, by unfold minI; split <;> omega⟩
  obtain ⟨e, S', h1, x1, x5, x6, x7, x8, x9, x10, x11, x12, h2, h3⟩ := forD_inv (fg := gN 1) (fb := f_law_b3) (fun _ env _ => ∃ x1 x5 x6 x7 x8 x9 x10 x11 x12, env = [some (.sc ns), x1, none, none, none, x5, x6, x7, x8, x9, x10, x11, x12] ∧ nsB x6 = true ∧ nsB x7 = true ∧ nsB x8 = true ∧ nsB x9 = true ∧ nsB x10 = true ∧ nsB x11 = true ∧ nsB x12 = true)
    (rngD 0 j) 0 (env0 N_law.length [.sc ns]) (0, 0) ⟨none, none, none, none, none, none, none, none, none, rfl, rfl, rfl, rfl, rfl, rfl, rfl, rfl⟩ (fun i d env S hi hI => by
      obtain ⟨x1, x5, x6, x7, x8, x9, x10, x11, x12, rfl, h6, h7, h8, h9, h10, h11, h12⟩ := hI
      obtain ⟨_, rfl⟩ := rng_item hi
      obtain ⟨y6, y7, y8, y9, y10, y11, y12, S1, e, g⟩ := e_lb3 ns i x5 x6 x7 x8 x9 x10 x11 x12 S h6 h7 h8 h9 h10 h11 h12
      exact ⟨_, rfl, _, S1, .inl e, _, _, _, _, _, _, _, _, _, rfl, g⟩)
  subst h2
  refine ⟨S', ?_⟩
  have hz : ((-100000 : Int) ≤ j) = True := eq_true (by omega)
  have hz2 : ((j : Int) ≤ 100000) = True := eq_true (by omega)
  have hloop : sFor (jRng1 (aCons (eOp opAdd (eC (.int 1)) (eB (b2I minI) (aCons (eScLen 0) (aCons (eC (.int 10)) aNil)))) aNil)) (gN 1) f_law_b3 (env0 N_law.length [.sc ns]) (0, 0) = some (.nx [some (.sc ns), x1, none, none, none, x5, x6, x7, x8, x9, x10, x11, x12] S') := by
    have e0 : (env0 N_law.length [.sc ns])[0]? = some (some (.sc ns)) := rfl
    simp [e0, hj, hz, hz2, h1]
  unfold f_law
  rw [sSeq_app, hloop]
  kernel_rfl
end AUL
namespace AUL
open PySem PySem.Spec PyProof.Rows L2 AU
def D_is_from : He.DefD := ⟨("is_from", none), "is_from", "is_from", defArgs (top 8), defBody (top 8), defScope (top 8), [], []⟩
def D_is_entry : He.DefD := ⟨("is_entry", none), "is_entry", "is_entry", defArgs (top 9), defBody (top 9), defScope (top 9), [], []⟩
def D_is_mood : He.DefD := ⟨("is_mood", none), "is_mood", "is_mood", defArgs (top 10), defBody (top 10), defScope (top 10), [], []⟩
def D_has_book : He.DefD := ⟨("has_book", none), "has_book", "has_book", defArgs (top 11), defBody (top 11), defScope (top 11), [], []⟩
def D_is_book : He.DefD := ⟨("is_book", none), "is_book", "is_book", defArgs (top 12), defBody (top 12), defScope (top 12), [], []⟩
def D_need_climate : He.DefD := ⟨("need_climate", none), "need_climate", "need_climate", defArgs (top 13), defBody (top 13), defScope (top 13), [], []⟩
def D_is_row : He.DefD := ⟨("is_row", none), "is_row", "is_row", defArgs (top 14), defBody (top 14), defScope (top 14), [], []⟩
def D_lets : He.DefD := ⟨("lets", none), "lets", "lets", defArgs (top 15), defBody (top 15), defScope (top 15), [], []⟩
def D_is_weather : He.DefD := ⟨("is_weather", none), "is_weather", "is_weather", defArgs (top 16), defBody (top 16), defScope (top 16), [], []⟩
def D__law_source : He.DefD := ⟨("_law_source", none), "_law_source", "_law_source", defArgs (top 18), defBody (top 18), defScope (top 18), [], []⟩
def D__law_draw : He.DefD := ⟨("_law_draw", none), "_law_draw", "_law_draw", defArgs (top 19), defBody (top 19), defScope (top 19), [], []⟩
def D__law_choice : He.DefD := ⟨("_law_choice", none), "_law_choice", "_law_choice", defArgs (top 20), defBody (top 20), defScope (top 20), [], []⟩
def D__law_from : He.DefD := ⟨("_law_from", none), "_law_from", "_law_from", defArgs (top 21), defBody (top 21), defScope (top 21), [], []⟩
def D__law_book : He.DefD := ⟨("_law_book", none), "_law_book", "_law_book", defArgs (top 22), defBody (top 22), defScope (top 22), [], []⟩
def D__law_allowed : He.DefD := ⟨("_law_allowed", none), "_law_allowed", "_law_allowed", defArgs (top 23), defBody (top 23), defScope (top 23), [], []⟩
def D__law_weather : He.DefD := ⟨("_law_weather", none), "_law_weather", "_law_weather", defArgs (top 24), defBody (top 24), defScope (top 24), [], []⟩
def D__law_is_book : He.DefD := ⟨("_law_is_book", none), "_law_is_book", "_law_is_book", defArgs (top 25), defBody (top 25), defScope (top 25), [], []⟩
def D__law_is_weather : He.DefD := ⟨("_law_is_weather", none), "_law_is_weather", "_law_is_weather", defArgs (top 26), defBody (top 26), defScope (top 26), [], []⟩
def D__law_bent : He.DefD := ⟨("_law_bent", none), "_law_bent", "_law_bent", defArgs (top 27), defBody (top 27), defScope (top 27), [], []⟩
def D__law_told : He.DefD := ⟨("_law_told", none), "_law_told", "_law_told", defArgs (top 28), defBody (top 28), defScope (top 28), [], []⟩
def D__law_refused : He.DefD := ⟨("_law_refused", none), "_law_refused", "_law_refused", defArgs (top 29), defBody (top 29), defScope (top 29), [], []⟩
def D_law : He.DefD := ⟨("law", none), "law", "law", defArgs (top 30), defBody (top 30), defScope (top 30), [], []⟩
def fn_ : List He.DefD := ([D_is_from, D_is_entry, D_is_mood, D_has_book, D_is_book, D_need_climate, D_is_row, D_lets, D_is_weather, D__law_source, D__law_draw, D__law_choice, D__law_from, D__law_book, D__law_allowed, D__law_weather, D__law_is_book, D__law_is_weather, D__law_bent, D__law_told, D__law_refused, D_law] : List He.DefD)
def fa_ : List He.Fa := ([.glo "is_from", .glo "is_entry", .glo "is_mood", .glo "has_book", .glo "is_book", .glo "need_climate", .glo "is_row", .glo "lets", .glo "is_weather", .glo "_law_source", .glo "_law_draw", .glo "_law_choice", .glo "_law_from", .glo "_law_book", .glo "_law_allowed", .glo "_law_weather", .glo "_law_is_book", .glo "_law_is_weather", .glo "_law_bent", .glo "_law_told", .glo "_law_refused", .glo "law", .free "abs", .free "all", .free "any", .free "bool", .free "enumerate", .free "int", .free "isinstance", .free "len"] : List He.Fa) ++ ([.free "min", .free "range", .free "str", .free "tuple", .free "zip", .glo "CLIMATES", .glo "DEEDS", .int "MOST_MOODS" (2), .int "MOST_WALKS" (100), .glo "InvalidClimate", .exc "InvalidClimate"] : List He.Fa)
def names_ : List Str := ["InvalidClimate"]
def tups_ : List (Str × List Str) := [("CLIMATES", ["any", "days", "rare"]), ("DEEDS", ["leave", "take"])]
def ex_ (K : PySem.W.Frag) : Bool := exmB K names_ && tups_.all fun t => He.tupB K t.1 (t.2.map He.Dv.str)
def tf_ : List He.Defn := []
abbrev R_ : PySem.W.OpenRow := PySem.W.OpenLaw.row PySem.Challenge.rw_anyumbrellas_k01_books_and_weathers_reco
abbrev hk_ : PySem.W.Hook := He.hookX 5 fa_ fn_ [] tf_ ex_
def ob_ (s : PySem.W.SharedT) : He.AlX := He.obsX 5 fa_ fn_ [] tf_ ex_ (HandSHeadRun.getT s)
theorem ob_eq (s : PySem.W.SharedT) : ob_ s = hk_.obs s.abs := He.obsX_eq (HandSHeadRun.getT_eq s)
def loose_ : List Str := (["__name__", "UmbrellaError", "InvalidClimate", "CLIMATES", "DEEDS", "MOST_MOODS", "MOST_WALKS", "is_from", "is_entry", "is_mood", "has_book", "is_book", "need_climate", "is_row", "lets", "is_weather", "_law_source", "_law_draw", "_law_choice", "_law_from", "_law_book", "_law_allowed", "_law_weather", "_law_is_book", "_law_is_weather", "_law_bent", "_law_told", "_law_refused"] : List Str)
theorem run_ (w : World) : HandSHeadRun.RunEq R_ (PySem.W.view R_.prog [30]) hk_ ob_ 14000 loose_ w := by
  intro os
  kernel_rfl
abbrev clsK (K : PySem.W.Frag) : Nat → Value := clsOf K names_
theorem txt_ {K : PySem.W.Frag} {h : Heap} {mg : Str → Option Value} (X : K.In h) (G : h.Ns mainGlobals mg) (c : He.SaysD fa_ fn_ K) (e : ex_ K = true) : Txt K mg (clsK K) := by
  obtain ⟨e1, e2⟩ := He.ba e
  have fx : ∀ {f : He.Fa}, f ∈ fa_ → f.ok K = true := fun h => c.facts h
  exact ⟨He.free_ok X G (c.fact 22 (f := .free "abs") rfl),
    He.free_ok X G (c.fact 23 (f := .free "all") rfl),
    He.free_ok X G (c.fact 24 (f := .free "any") rfl),
    He.free_ok X G (c.fact 25 (f := .free "bool") rfl),
    He.free_ok X G (c.fact 26 (f := .free "enumerate") rfl),
    He.free_ok X G (c.fact 27 (f := .free "int") rfl),
    He.free_ok X G (c.fact 28 (f := .free "isinstance") rfl),
    He.free_ok X G (c.fact 29 (f := .free "len") rfl),
    He.free_ok X G (c.fact 30 (f := .free "min") rfl),
    He.free_ok X G (c.fact 31 (f := .free "range") rfl),
    He.free_ok X G (c.fact 32 (f := .free "str") rfl),
    He.free_ok X G (c.fact 33 (f := .free "tuple") rfl),
    He.free_ok X G (c.fact 34 (f := .free "zip") rfl),
    gloT_strs (xs := ["any", "days", "rare"]) (He.glo_ok X G (c.fact 35 (f := .glo "CLIMATES") rfl)) (List.all_eq_true.mp e2 ("CLIMATES", ["any", "days", "rare"]) (by simp [tups_])),
    gloT_strs (xs := ["leave", "take"]) (He.glo_ok X G (c.fact 36 (f := .glo "DEEDS") rfl)) (List.all_eq_true.mp e2 ("DEEDS", ["leave", "take"]) (by simp [tups_])),
    He.int_ok X G (c.fact 37 (f := .int "MOST_MOODS" (2)) rfl),
    He.int_ok X G (c.fact 38 (f := .int "MOST_WALKS" (100)) rfl),
    excC_of rfl (He.glo_ok X G (c.fact 39 (f := .glo "InvalidClimate") rfl)) (c.fact 40 (f := .exc "InvalidClimate") rfl),
    He.glo_ok X G (c.fact 39 (f := .glo "InvalidClimate") rfl),
    exmB_ok e1⟩
theorem facts_ {P : Program} {w : World} {K : PySem.W.Frag} {h : Heap} {mg : Str → Option Value} {f : Addr} (X : K.In h) (G : h.Ns mainGlobals mg) (hfa : mg ("law" : Str) = some (.ref f)) (c : He.SaysD fa_ fn_ K) (e : ex_ K = true) :
    ∃ fd : FuncData, (∀ (s : Shared) (v : Value), BindsTo s fd ⟨[v], []⟩ [("_law_script", v)]) ∧ ∀ base : Heap, K.In base → base.Ns mainGlobals mg → (∀ p ∈ tf_.map (He.cT K), LamX.TabB base mg p.1 p.2) → FnOk P w K mg base (L2.CX P w) 24 f fd ["_law_script"] (spL K ((tf_.map (He.cT K)).map fun p => (p.2, lamQ))) := by
  have T := txt_ X G c e
  obtain ⟨fd_is_from, F_is_from⟩ := c.def_ 0 (d := D_is_from) rfl
  have hm_is_from : mg "is_from" = some (.ref (He.ga K "is_from")) := He.glo_ok X G (c.fact 0 (f := .glo "is_from") rfl)
  obtain ⟨fd_is_entry, F_is_entry⟩ := c.def_ 1 (d := D_is_entry) rfl
  have hm_is_entry : mg "is_entry" = some (.ref (He.ga K "is_entry")) := He.glo_ok X G (c.fact 1 (f := .glo "is_entry") rfl)
  obtain ⟨fd_is_mood, F_is_mood⟩ := c.def_ 2 (d := D_is_mood) rfl
  have hm_is_mood : mg "is_mood" = some (.ref (He.ga K "is_mood")) := He.glo_ok X G (c.fact 2 (f := .glo "is_mood") rfl)
  obtain ⟨fd_has_book, F_has_book⟩ := c.def_ 3 (d := D_has_book) rfl
  have hm_has_book : mg "has_book" = some (.ref (He.ga K "has_book")) := He.glo_ok X G (c.fact 3 (f := .glo "has_book") rfl)
  obtain ⟨fd_is_book, F_is_book⟩ := c.def_ 4 (d := D_is_book) rfl
  have hm_is_book : mg "is_book" = some (.ref (He.ga K "is_book")) := He.glo_ok X G (c.fact 4 (f := .glo "is_book") rfl)
  obtain ⟨fd_need_climate, F_need_climate⟩ := c.def_ 5 (d := D_need_climate) rfl
  have hm_need_climate : mg "need_climate" = some (.ref (He.ga K "need_climate")) := He.glo_ok X G (c.fact 5 (f := .glo "need_climate") rfl)
  obtain ⟨fd_is_row, F_is_row⟩ := c.def_ 6 (d := D_is_row) rfl
  have hm_is_row : mg "is_row" = some (.ref (He.ga K "is_row")) := He.glo_ok X G (c.fact 6 (f := .glo "is_row") rfl)
  obtain ⟨fd_lets, F_lets⟩ := c.def_ 7 (d := D_lets) rfl
  have hm_lets : mg "lets" = some (.ref (He.ga K "lets")) := He.glo_ok X G (c.fact 7 (f := .glo "lets") rfl)
  obtain ⟨fd_is_weather, F_is_weather⟩ := c.def_ 8 (d := D_is_weather) rfl
  have hm_is_weather : mg "is_weather" = some (.ref (He.ga K "is_weather")) := He.glo_ok X G (c.fact 8 (f := .glo "is_weather") rfl)
  obtain ⟨fd__law_source, F__law_source⟩ := c.def_ 9 (d := D__law_source) rfl
  have hm__law_source : mg "_law_source" = some (.ref (He.ga K "_law_source")) := He.glo_ok X G (c.fact 9 (f := .glo "_law_source") rfl)
  obtain ⟨fd__law_draw, F__law_draw⟩ := c.def_ 10 (d := D__law_draw) rfl
  have hm__law_draw : mg "_law_draw" = some (.ref (He.ga K "_law_draw")) := He.glo_ok X G (c.fact 10 (f := .glo "_law_draw") rfl)
  obtain ⟨fd__law_choice, F__law_choice⟩ := c.def_ 11 (d := D__law_choice) rfl
  have hm__law_choice : mg "_law_choice" = some (.ref (He.ga K "_law_choice")) := He.glo_ok X G (c.fact 11 (f := .glo "_law_choice") rfl)
  obtain ⟨fd__law_from, F__law_from⟩ := c.def_ 12 (d := D__law_from) rfl
  have hm__law_from : mg "_law_from" = some (.ref (He.ga K "_law_from")) := He.glo_ok X G (c.fact 12 (f := .glo "_law_from") rfl)
  obtain ⟨fd__law_book, F__law_book⟩ := c.def_ 13 (d := D__law_book) rfl
  have hm__law_book : mg "_law_book" = some (.ref (He.ga K "_law_book")) := He.glo_ok X G (c.fact 13 (f := .glo "_law_book") rfl)
  obtain ⟨fd__law_allowed, F__law_allowed⟩ := c.def_ 14 (d := D__law_allowed) rfl
  have hm__law_allowed : mg "_law_allowed" = some (.ref (He.ga K "_law_allowed")) := He.glo_ok X G (c.fact 14 (f := .glo "_law_allowed") rfl)
  obtain ⟨fd__law_weather, F__law_weather⟩ := c.def_ 15 (d := D__law_weather) rfl
  have hm__law_weather : mg "_law_weather" = some (.ref (He.ga K "_law_weather")) := He.glo_ok X G (c.fact 15 (f := .glo "_law_weather") rfl)
  obtain ⟨fd__law_is_book, F__law_is_book⟩ := c.def_ 16 (d := D__law_is_book) rfl
  have hm__law_is_book : mg "_law_is_book" = some (.ref (He.ga K "_law_is_book")) := He.glo_ok X G (c.fact 16 (f := .glo "_law_is_book") rfl)
  obtain ⟨fd__law_is_weather, F__law_is_weather⟩ := c.def_ 17 (d := D__law_is_weather) rfl
  have hm__law_is_weather : mg "_law_is_weather" = some (.ref (He.ga K "_law_is_weather")) := He.glo_ok X G (c.fact 17 (f := .glo "_law_is_weather") rfl)
  obtain ⟨fd__law_bent, F__law_bent⟩ := c.def_ 18 (d := D__law_bent) rfl
  have hm__law_bent : mg "_law_bent" = some (.ref (He.ga K "_law_bent")) := He.glo_ok X G (c.fact 18 (f := .glo "_law_bent") rfl)
  obtain ⟨fd__law_told, F__law_told⟩ := c.def_ 19 (d := D__law_told) rfl
  have hm__law_told : mg "_law_told" = some (.ref (He.ga K "_law_told")) := He.glo_ok X G (c.fact 19 (f := .glo "_law_told") rfl)
  obtain ⟨fd__law_refused, F__law_refused⟩ := c.def_ 20 (d := D__law_refused) rfl
  have hm__law_refused : mg "_law_refused" = some (.ref (He.ga K "_law_refused")) := He.glo_ok X G (c.fact 20 (f := .glo "_law_refused") rfl)
  obtain ⟨fd_law, F_law⟩ := c.def_ 21 (d := D_law) rfl
  have hm_law : mg "law" = some (.ref (He.ga K "law")) := He.glo_ok X G (c.fact 21 (f := .glo "law") rfl)
  have e0 := hfa.symm.trans hm_law
  cases e0
  have b := FunD.bindsA (ps := ["_law_script"]) F_law fun _ _ _ _ _ _ us hl => match us, hl with | [_], _ => rfl
  have FL : Fun K "law" "law" (top 30) (He.ga K "law") fd_law := He5.fun_of F_law
  refine ⟨fd_law, fun s v => b s [v] rfl, fun base KX GX TBs => ?_⟩
  have h_is_from := c_is_from (P := P) (w := w) (base := base) T  (He5.fun_of F_is_from) hm_is_from
  have h_is_entry := c_is_entry (P := P) (w := w) (base := base) T h_is_from (He5.fun_of F_is_entry) hm_is_entry
  have h_is_mood := c_is_mood (P := P) (w := w) (base := base) T h_is_entry (He5.fun_of F_is_mood) hm_is_mood
  have h_has_book := c_has_book (P := P) (w := w) (base := base) T h_is_mood (He5.fun_of F_has_book) hm_has_book
  have h_is_book := c_is_book (P := P) (w := w) (base := base) T h_has_book (He5.fun_of F_is_book) hm_is_book
  have h_need_climate := c_need_climate (P := P) (w := w) (base := base) T  (He5.fun_of F_need_climate) hm_need_climate
  have h_is_row := c_is_row (P := P) (w := w) (base := base) T  (He5.fun_of F_is_row) hm_is_row
  have h_lets := c_lets (P := P) (w := w) (base := base) T  (He5.fun_of F_lets) hm_lets
  have h_is_weather := c_is_weather (P := P) (w := w) (base := base) T h_is_row h_lets h_need_climate (He5.fun_of F_is_weather) hm_is_weather
  have h__law_source := c__law_source (P := P) (w := w) (base := base) T  (He5.fun_of F__law_source) hm__law_source
  have h__law_draw := c__law_draw (P := P) (w := w) (base := base) T  (He5.fun_of F__law_draw) hm__law_draw
  have h__law_choice := c__law_choice (P := P) (w := w) (base := base) T h__law_draw (He5.fun_of F__law_choice) hm__law_choice
  have h__law_from := c__law_from (P := P) (w := w) (base := base) T  (He5.fun_of F__law_from) hm__law_from
  have h__law_book := c__law_book (P := P) (w := w) (base := base) T h__law_choice h__law_draw (He5.fun_of F__law_book) hm__law_book
  have h__law_allowed := c__law_allowed (P := P) (w := w) (base := base) T  (He5.fun_of F__law_allowed) hm__law_allowed
  have h__law_weather := c__law_weather (P := P) (w := w) (base := base) T h__law_allowed h__law_choice h__law_draw (He5.fun_of F__law_weather) hm__law_weather
  have h__law_is_book := c__law_is_book (P := P) (w := w) (base := base) T h__law_from (He5.fun_of F__law_is_book) hm__law_is_book
  have h__law_is_weather := c__law_is_weather (P := P) (w := w) (base := base) T h__law_allowed (He5.fun_of F__law_is_weather) hm__law_is_weather
  have h__law_bent := c__law_bent (P := P) (w := w) (base := base) T h__law_choice h__law_draw (He5.fun_of F__law_bent) hm__law_bent
  have h__law_told := c__law_told (P := P) (w := w) (base := base) T h__law_is_book h__law_is_weather h_is_book h_is_weather (He5.fun_of F__law_told) hm__law_told
  have h__law_refused := c__law_refused (P := P) (w := w) (base := base) T h_is_weather (He5.fun_of F__law_refused) hm__law_refused
  refine law_of (cls := clsK K) (fl := f_law ) FL sc_law (fun cdv A outer s H E hc hr => ?_) (law_true )
  exact d_law T h__law_bent h__law_book h__law_choice h__law_refused h__law_source h__law_told h__law_weather h_is_book h_is_weather A outer s H E hr
end AUL
open PySem PySem.W PySem.Calls PyProof.Rows
theorem PySem.Challenge.cw_anyumbrellas_k01_books_and_weathers_reco_holds : PySem.Challenge.rw_anyumbrellas_k01_books_and_weathers_reco.Holds := by
  w_on; o_law
  refine HandSHeadRun.head_any (r := OpenLaw.row PySem.Challenge.rw_anyumbrellas_k01_books_and_weathers_reco) (q := view (OpenLaw.row PySem.Challenge.rw_anyumbrellas_k01_books_and_weathers_reco).prog [30]) (H := AUL.hk_) (ob := AUL.ob_) (M := 14000) (loose := AUL.loose_) (d := HandSHeadRun.topDef (OpenLaw.row PySem.Challenge.rw_anyumbrellas_k01_books_and_weathers_reco).prog 30) (kwd := []) AUL.ob_eq
    (by kernel_rfl) (fun s => by kernel_rfl) AUL.run_ (by kernel_rfl) (by kernel_rfl) (by kernel_rfl) (by rfl) (by first | assumption | decide +kernel) (by decide +kernel) ⟨rfl, rfl, rfl, rfl, rfl, by decide +kernel⟩ ?hw ?hc
  case hw => w_witness2
  case hc =>
    refine LamX.walk_ofTsE (l := PySem.Challenge.rw_anyumbrellas_k01_books_and_weathers_reco) (n := 63) (k := 24) (x := "_law_script") (CX := fun w => L2.CX (PySem.Challenge.rw_anyumbrellas_k01_books_and_weathers_reco).prog w) rfl (by decide) (by kernel_rfl) ⟨rfl, by decide, by decide⟩ ?F (fun w H s e s' z => by obtain ⟨_, _, _, _, _, _, _, _, _, _, _, _, z⟩ := z; exact z.elim)
    intro w mg fa h Y G hmg0
    obtain ⟨K, KX, c⟩ := Y
    have hmg : mg ("law" : PySem.Str) = some (.ref fa) := by
      have e : (HandSHeadRun.topDef (OpenLaw.row PySem.Challenge.rw_anyumbrellas_k01_books_and_weathers_reco).prog 30).name = ("law" : PySem.Str) := by kernel_rfl
      rw [← e]
      exact hmg0
    obtain ⟨fd, hb, hF⟩ := AUL.facts_ (P := (PySem.Challenge.rw_anyumbrellas_k01_books_and_weathers_reco).prog) (w := w) KX G hmg c.t.d c.more
    refine ⟨K, KX, fd, AUL.tf_.map (He.cT K), AU.spL K ((AUL.tf_.map (He.cT K)).map fun p => (p.2, AU.lamQ)), fun p hp => ?_, fun p hp => ?_, fun p hp => ?_, hb, fun H a ns hl hbit hT hS => ⟨a, ns, rfl, fun p hp => ?_, hS, hl, hbit, fun _ => rfl⟩, hF⟩
    · obtain ⟨d, hd, e⟩ := List.mem_map.mp hp
      rw [← e]
      exact c.empty d hd
    · obtain ⟨d, hd, e⟩ := List.mem_map.mp hp
      rw [← e]
      exact c.out d hd
    · obtain ⟨d, hd, e⟩ := List.mem_map.mp hp
      rw [← e]
      exact PySem.W.codeHd_of_K KX (c.hd d hd)
    · obtain ⟨d, hd, e⟩ := List.mem_map.mp hp
      rw [← e]
      exact hT d hd
