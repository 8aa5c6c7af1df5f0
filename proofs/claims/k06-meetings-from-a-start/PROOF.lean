import PyProof.Rows.All
import Wide.All
import OpenK.AllK
import Wide.FinOn
import HandS.ForMost
import HandS.Wide
import HandS.Walk
import HandS.TupAny
import HandS.TupMul
import HandS.IsInst
import HandS.Deep
import HandS.Zip
import HandS.Rev
import HandS.SortInts
import KE.GoesMore
import HandS.RevRange
import HandS.RaiseMore
import HandS.SetFor
import HandS.Defaults
import HandS.HeadEnd
import HandS.HeadHook2
import HandS.Head2
import PyProof.ReprRoads
import HandS.Style
import HandS.MakeKwOnly
import KE.GoesNew
import KE.KDictZip
import HandS.WideMore
import HandS.Head0
import HandS.Head1
import HandS.HeadHook1
import PySem.Challenge.RW_shovecombs_k06_meetings_from_a_start
set_option Elab.async false
set_option linter.all false
set_option maxRecDepth 100000
set_option maxHeartbeats 0
namespace Sc
open PySem PySem.Spec PyProof.Rows L2

/-- a datum by value -/
inductive D where
  | non | bl (b : Bool) | int (i : Int) | str (s : Str) | ty (n : String)
  | tup (l : List D) | lst (l : List D) | fn (x : Str) | scr (l : List D)
  deriving Inhabited

mutual
def D.py : D → PyData
  | .non => .none
  | .bl b => .bool b
  | .int i => .int i
  | .str s => .str s
  | .tup l => .tuple (pyL l)
  | .lst l => .list (pyL l)
  | .ty _ => .none
  | .fn _ => .none
  | .scr _ => .none
def pyL : List D → List PyData
  | [] => []
  | x :: r => x.py :: pyL r
end
mutual
def D.isPy : D → Bool
  | .non => true
  | .bl _ => true
  | .int _ => true
  | .str _ => true
  | .tup l => isPyL l
  | .lst l => isPyL l
  | .ty _ => false
  | .fn _ => false
  | .scr _ => false
def isPyL : List D → Bool
  | [] => true
  | x :: r => x.isPy && isPyL r
end
theorem pyL_map : ∀ l : List D, pyL l = l.map D.py
  | [] => rfl
  | x :: r => by rw [pyL, pyL_map r]; rfl
theorem isPyL_all : ∀ l : List D, isPyL l = l.all D.isPy
  | [] => rfl
  | x :: r => by rw [isPyL, isPyL_all r]; rfl

abbrev AP1 := Addr → Prop
/-- a tuple, a list that stays -/
def TupZ (K : PySem.W.Frag) (H : Hp) (Z : AP1) (a : Addr) (xs : List V) : Prop := (Z a ∧ H a = some (.tup xs)) ∨ SqT K (fun _ => none) a xs
def ScrZ (K : PySem.W.Frag) (H : Hp) (Z : AP1) (a : Addr) (xs : List V) : Prop := (Z a ∧ Rd H a (.lst xs)) ∨ SqL K (fun _ => none) a xs
theorem sqT_none {K : PySem.W.Frag} {H : Hp} {a : Addr} {xs : List V} (h : SqT K (fun _ => none) a xs) : SqT K H a xs := by
  rcases h with (h | ⟨o, h⟩) | h
  · cases h
  · cases h
  · exact .inr h
theorem sqL_none {K : PySem.W.Frag} {H : Hp} {a : Addr} {xs : List V} (h : SqL K (fun _ => none) a xs) : SqL K H a xs := by
  rcases h with (h | ⟨o, h⟩) | h
  · cases h
  · cases h
  · exact .inr h
theorem TupZ.sq {K : PySem.W.Frag} {H : Hp} {Z : AP1} {a : Addr} {xs : List V} (h : TupZ K H Z a xs) : SqT K H a xs := by
  rcases h with ⟨_, h⟩ | h
  · exact SqT.of h
  · exact sqT_none h
theorem ScrZ.sq {K : PySem.W.Frag} {H : Hp} {Z : AP1} {a : Addr} {xs : List V} (h : ScrZ K H Z a xs) : SqL K H a xs := by
  rcases h with ⟨_, h⟩ | h
  · exact .inl h
  · exact sqL_none h

mutual
/-- v stands for d, all of it among what stays (Z, or the written part) -/
def Rp (K : PySem.W.Frag) (H : Hp) (Z : AP1) : D → V → Prop
  | .non, v => v = .non
  | .bl b, v => v = .bl b
  | .int i, v => v = .int i
  | .str s, v => v = .str s
  | .ty n, v => v = .ty n
  | .tup l, v => ∃ a xs, v = .ref a ∧ TupZ K H Z a xs ∧ RpL K H Z l xs
  | .lst l, v => ∃ a xs, v = .ref a ∧ Z a ∧ H a = some (.lst xs) ∧ RpL K H Z l xs
  | .scr l, v => ∃ a xs, v = .ref a ∧ ScrZ K H Z a xs ∧ RpL K H Z l xs
  | .fn _, _ => False
def RpL (K : PySem.W.Frag) (H : Hp) (Z : AP1) : List D → List V → Prop
  | [], xs => xs = []
  | d :: r, xs => ∃ x ys, xs = x :: ys ∧ Rp K H Z d x ∧ RpL K H Z r ys
end

/-- what holds between an elder state and a newer one: W may be written -/
structure Fr (W : AP1) (H : Hp) (Z : AP1) (H' : Hp) (Z' : AP1) : Prop where
  zz : ∀ a, Z a → Z' a
  keep : ∀ a o, H a = some o → ¬ W a → H' a = some o
  new : ∀ a, Z' a → Z a ∨ W a ∨ H a = none
  there : ∀ a, H a ≠ none → H' a ≠ none
theorem Fr.refl {W : AP1} {H : Hp} {Z : AP1} : Fr W H Z H Z := ⟨fun _ h => h, fun _ _ h _ => h, fun _ h => .inl h, fun _ h => h⟩
theorem Fr.trans {W W1 W2 : AP1} {H H1 H2 : Hp} {Z Z1 Z2 : AP1} (a : Fr W1 H Z H1 Z1) (b : Fr W2 H1 Z1 H2 Z2) (h1 : ∀ p, W1 p → W p ∨ H p = none) (h2 : ∀ p, W2 p → W p ∨ H p = none) : Fr W H Z H2 Z2 where
  zz := fun p h => b.zz p (a.zz p h)
  keep := fun p o e n => b.keep p o (a.keep p o e fun w => (h1 p w).elim n fun z => by rw [e] at z; cases z) fun w => (h2 p w).elim n fun z => by rw [e] at z; cases z
  new := fun p h => by
    rcases b.new p h with h | h | h
    · rcases a.new p h with h | h | h
      · exact .inl h
      · exact .inr (h1 p h)
      · exact .inr (.inr h)
    · exact .inr (h2 p h)
    · refine .inr (.inr ?_)
      cases e : H p with
      | none => rfl
      | some o => exact absurd h (a.there p (by rw [e]; simp))
  there := fun p h => b.there p (a.there p h)
theorem Fr.mono {W W' : AP1} {H H1 : Hp} {Z Z1 : AP1} (a : Fr W H Z H1 Z1) (h : ∀ p, W p → W' p ∨ H p = none) : Fr W' H Z H1 Z1 := a.trans (Fr.refl (W := W')) h fun _ w => .inl w

theorem rd_keep {H H' : Hp} {a : Addr} {u : HO} (h : Rd H a u) (k : ∀ o, H a = some o → H' a = some o) : Rd H' a u := by
  rcases h with h | ⟨o, h⟩
  · exact .inl (k _ h)
  · exact .inr ⟨o, k _ h⟩
theorem rd_some {H : Hp} {a : Addr} {u : HO} (h : Rd H a u) : H a ≠ none := by
  rcases h with h | ⟨o, h⟩ <;> rw [h] <;> simp
section
variable {K : PySem.W.Frag} {H H' : Hp} {Z Z' : AP1}
theorem TupZ.mono {a : Addr} {xs : List V} (h : TupZ K H Z a xs) (z : ∀ a, Z a → Z' a) (k : ∀ a o, Z a → H a = some o → H' a = some o) : TupZ K H' Z' a xs := by
  rcases h with ⟨h1, h2⟩ | h
  · exact .inl ⟨z _ h1, k a _ h1 h2⟩
  · exact .inr h
theorem ScrZ.mono {a : Addr} {xs : List V} (h : ScrZ K H Z a xs) (z : ∀ a, Z a → Z' a) (k : ∀ a o, Z a → H a = some o → H' a = some o) : ScrZ K H' Z' a xs := by
  rcases h with ⟨h1, h2⟩ | h
  · exact .inl ⟨z _ h1, rd_keep h2 fun o e => k a o h1 e⟩
  · exact .inr h
mutual
theorem Rp.mono (z : ∀ a, Z a → Z' a) (k : ∀ a o, Z a → H a = some o → H' a = some o) : ∀ (d : D) (v : V), Rp K H Z d v → Rp K H' Z' d v
  | .non, v, h => by simpa only [Rp] using h
  | .bl b, v, h => by simpa only [Rp] using h
  | .int i, v, h => by simpa only [Rp] using h
  | .str s, v, h => by simpa only [Rp] using h
  | .ty n, v, h => by simpa only [Rp] using h
  | .fn n, v, h => by simp only [Rp] at h
  | .tup l, v, h => by
    simp only [Rp] at h ⊢
    obtain ⟨a, xs, e, t, r⟩ := h
    exact ⟨a, xs, e, t.mono z k, RpL.mono z k l xs r⟩
  | .lst l, v, h => by
    simp only [Rp] at h ⊢
    obtain ⟨a, xs, e, t, q, r⟩ := h
    exact ⟨a, xs, e, z a t, k a _ t q, RpL.mono z k l xs r⟩
  | .scr l, v, h => by
    simp only [Rp] at h ⊢
    obtain ⟨a, xs, e, t, r⟩ := h
    exact ⟨a, xs, e, t.mono z k, RpL.mono z k l xs r⟩
theorem RpL.mono (z : ∀ a, Z a → Z' a) (k : ∀ a o, Z a → H a = some o → H' a = some o) : ∀ (l : List D) (xs : List V), RpL K H Z l xs → RpL K H' Z' l xs
  | [], xs, h => by simpa only [RpL] using h
  | d :: r, xs, h => by
    simp only [RpL] at h ⊢
    obtain ⟨x, ys, e, h1, h2⟩ := h
    exact ⟨x, ys, e, Rp.mono z k d x h1, RpL.mono z k r ys h2⟩
end
theorem RpL.nil : RpL K H Z [] [] := by simp only [RpL]
theorem RpL.cons {d : D} {x : V} {l : List D} {xs : List V} (h : Rp K H Z d x) (r : RpL K H Z l xs) : RpL K H Z (d :: l) (x :: xs) := by
  simp only [RpL]; exact ⟨x, xs, rfl, h, r⟩
theorem RpL.inv {d : D} {l : List D} {xs : List V} (h : RpL K H Z (d :: l) xs) : ∃ x ys, xs = x :: ys ∧ Rp K H Z d x ∧ RpL K H Z l ys := by simpa only [RpL] using h
theorem RpL.inv0 {xs : List V} (h : RpL K H Z [] xs) : xs = [] := by simpa only [RpL] using h
theorem RpL.len : ∀ {l : List D} {xs : List V}, RpL K H Z l xs → l.length = xs.length
  | [], xs, h => by rw [h.inv0]; rfl
  | d :: r, xs, h => by
    obtain ⟨x, ys, rfl, _, h2⟩ := h.inv
    simp [RpL.len h2]
theorem RpL.get : ∀ {l : List D} {xs : List V} {i : Nat} {d : D}, RpL K H Z l xs → l[i]? = some d → ∃ x, xs[i]? = some x ∧ Rp K H Z d x
  | [], _, _, _, _, e => by simp at e
  | d :: r, xs, 0, d', h, e => by
    obtain ⟨x, ys, rfl, h1, _⟩ := h.inv
    simp at e; subst e
    exact ⟨x, rfl, h1⟩
  | d :: r, xs, i + 1, d', h, e => by
    obtain ⟨x, ys, rfl, _, h2⟩ := h.inv
    simp at e
    obtain ⟨y, e1, e2⟩ := RpL.get (i := i) h2 e
    exact ⟨y, by simpa using e1, e2⟩
theorem RpL.app : ∀ {l m : List D} {xs ys : List V}, RpL K H Z l xs → RpL K H Z m ys → RpL K H Z (l ++ m) (xs ++ ys)
  | [], m, xs, ys, h, q => by rw [h.inv0]; exact q
  | d :: r, m, xs, ys, h, q => by
    obtain ⟨x, zs, rfl, h1, h2⟩ := h.inv
    exact RpL.cons h1 (RpL.app h2 q)
theorem RpL.drop : ∀ (n : Nat) {l : List D} {xs : List V}, RpL K H Z l xs → RpL K H Z (l.drop n) (xs.drop n)
  | 0, l, xs, h => h
  | n + 1, [], xs, h => by rw [h.inv0]; exact RpL.nil
  | n + 1, d :: r, xs, h => by
    obtain ⟨x, ys, rfl, _, h2⟩ := h.inv
    exact RpL.drop n h2
theorem RpL.take : ∀ (n : Nat) {l : List D} {xs : List V}, RpL K H Z l xs → RpL K H Z (l.take n) (xs.take n)
  | 0, l, xs, h => RpL.nil
  | n + 1, [], xs, h => by rw [h.inv0]; exact RpL.nil
  | n + 1, d :: r, xs, h => by
    obtain ⟨x, ys, rfl, h1, h2⟩ := h.inv
    exact RpL.cons h1 (RpL.take n h2)
theorem RpL.set : ∀ (n : Nat) {l : List D} {xs : List V} {d : D} {x : V}, RpL K H Z l xs → Rp K H Z d x → RpL K H Z (l.set n d) (xs.set n x)
  | n, [], xs, d, x, h, _ => by rw [h.inv0]; exact RpL.nil
  | 0, c :: r, xs, d, x, h, q => by
    obtain ⟨y, ys, rfl, h1, h2⟩ := h.inv
    exact RpL.cons q h2
  | n + 1, c :: r, xs, d, x, h, q => by
    obtain ⟨y, ys, rfl, h1, h2⟩ := h.inv
    exact RpL.cons h1 (RpL.set n h2 q)
theorem RpL.rev : ∀ {l : List D} {xs : List V}, RpL K H Z l xs → RpL K H Z l.reverse xs.reverse
  | [], xs, h => by rw [h.inv0]; exact RpL.nil
  | d :: r, xs, h => by
    obtain ⟨y, ys, rfl, h1, h2⟩ := h.inv
    rw [List.reverse_cons, List.reverse_cons]
    exact RpL.app (RpL.rev h2) (RpL.cons h1 RpL.nil)
theorem RpL.erase : ∀ (n : Nat) {l : List D} {xs : List V}, RpL K H Z l xs → RpL K H Z (l.eraseIdx n) (xs.eraseIdx n)
  | n, [], xs, h => by rw [h.inv0]; simp; exact RpL.nil
  | 0, c :: r, xs, h => by
    obtain ⟨y, ys, rfl, h1, h2⟩ := h.inv
    exact h2
  | n + 1, c :: r, xs, h => by
    obtain ⟨y, ys, rfl, h1, h2⟩ := h.inv
    exact RpL.cons h1 (RpL.erase n h2)

/-- an own one: a list of its own address, not among what stays; else as Rp -/
def RpO (K : PySem.W.Frag) (H : Hp) (Z : AP1) (d : D) (v : V) : Prop := match d with
  | .lst l => ∃ a xs, v = .ref a ∧ ¬ Z a ∧ H a = some (.lst xs) ∧ RpL K H Z l xs
  | d => Rp K H Z d v
/-- one that may be read -/
def RpB (K : PySem.W.Frag) (H : Hp) (Z : AP1) (d : D) (v : V) : Prop := match d with
  | .lst l => ∃ a xs, v = .ref a ∧ H a = some (.lst xs) ∧ RpL K H Z l xs
  | d => Rp K H Z d v
theorem Rp.b {d : D} {v : V} (h : Rp K H Z d v) : RpB K H Z d v := by
  cases d <;> try exact h
  simp only [Rp] at h
  obtain ⟨a, xs, e, t, q, r⟩ := h
  exact ⟨a, xs, e, q, r⟩
theorem RpO.b {d : D} {v : V} (h : RpO K H Z d v) : RpB K H Z d v := by
  cases d <;> try exact h
  obtain ⟨a, xs, e, t, q, r⟩ := h
  exact ⟨a, xs, e, q, r⟩
mutual
theorem Rp.dp : ∀ (d : D) (v : V), d.isPy = true → Rp K H Z d v → Dp K H v d.py
  | .non, v, _, h => by simp only [Rp] at h; subst h; exact .non
  | .bl b, v, _, h => by simp only [Rp] at h; subst h; exact .bl b
  | .int i, v, _, h => by simp only [Rp] at h; subst h; exact .int i
  | .str s, v, _, h => by simp only [Rp] at h; subst h; exact .str s
  | .ty n, v, p, h => by simp [D.isPy] at p
  | .fn n, v, p, h => by simp [D.isPy] at p
  | .tup l, v, p, h => by
    simp only [Rp] at h
    obtain ⟨a, xs, e, t, r⟩ := h
    subst e
    simp only [D.isPy] at p
    simp only [D.py]
    exact .tup t.sq (RpL.dp l xs p r)
  | .scr n, v, p, h => by simp [D.isPy] at p
  | .lst l, v, p, h => by
    simp only [Rp] at h
    obtain ⟨a, xs, e, t, q, r⟩ := h
    subst e
    simp only [D.isPy] at p
    simp only [D.py]
    exact .lst (SqL.of q) (RpL.dp l xs p r)
theorem RpL.dp : ∀ (l : List D) (xs : List V), isPyL l = true → RpL K H Z l xs → DpAll K H xs (pyL l)
  | [], xs, _, h => by rw [h.inv0]; exact .nil
  | d :: r, xs, p, h => by
    obtain ⟨y, ys, rfl, h1, h2⟩ := h.inv
    simp only [isPyL, Bool.and_eq_true] at p
    exact .cons (Rp.dp d y p.1 h1) (RpL.dp r ys p.2 h2)
end
theorem RpB.dp {d : D} {v : V} (p : d.isPy = true) (h : RpB K H Z d v) : Dp K H v d.py := by
  cases d with
  | lst l =>
    obtain ⟨a, xs, rfl, t, r⟩ := h
    simp only [D.isPy] at p
    simp only [D.py]
    exact .lst (SqL.of t) (RpL.dp l xs p r)
  | _ => exact Rp.dp (Z := Z) _ _ p h
end
end Sc
namespace Sc
open PySem PySem.Spec PyProof.Rows L2

/-! ### the small language -/
inductive Bop where
  | add | sub | mul | fdiv | mod | pow
  deriving DecidableEq
inductive Cop where
  | eq | ne | lt | le | gt | ge | is_ | isn | in_ | nin
  deriving DecidableEq
inductive Bi where
  | len | list | tuple | abs | max | min | sum | all | any | isi | repr | str | int | sorted
  deriving DecidableEq
inductive Mt where
  | count | index
  deriving DecidableEq
inductive Mu where
  | append | extend | reverse | clear | remove | pop
  deriving DecidableEq
/-- where a parameter's value comes from -/
inductive Pk where
  | at (i : Nat)
  | df (d : D)
inductive Tg where
  | nm (i : Nat)
  | tp (l : List Tg)
inductive E where
  | no
  | var (i : Nat)
  | cst (d : D)
  | glb (x : Str) (d : D)
  | bin (o : Bop) (a b : E)
  | neg (a : E)
  | nt (a : E)
  | an (a b : E)
  | or (a b : E)
  | cmp (o : Cop) (a b : E)
  | chn (o p : Cop) (a b c : E)
  | ife (c a b : E)
  | idx (a b : E)
  | slc (a lo hi : E)
  | tup (es : List E)
  | lst (es : List E)
  | lc (elt : E) (tg : Tg) (it : E) (c : E) (own : List Nat)
  | call (f : Nat) (args : List E) (io : List Nat)
  | bi (b : Bi) (args : List E)
  | mth (m : Mt) (a : E) (args : List E)
  | rng (a b : E)
  | tr (a b : E)
  | rvr (a b : E)
  | zip (a b : E)
  | lz (a b : E)
  | enm (a : E)
  | rev (a : E)
  | rvt (a : E)
  | zp3 (a b c : E)
  | rdn (a : E)
  | callr (f : Nat) (args : List E) (io : List Nat)
  | callk (f : Nat) (np : Nat) (ks : List Str) (args : List E) (perm : List Pk)
  | lc2 (elt : E) (tg : Tg) (it : E) (tg1 : Tg) (it1 : E) (c : E) (own own1 : List Nat)
inductive S where
  | fz (l : List Nat)
  | asg (i : Nat) (e : E)
  | asgT (t : Tg) (e : E)
  | par (i j : Nat) (a b : E)
  | aug (i : Nat) (o : Bop) (e : E)
  | setI (i : Nat) (ix e : E)
  | ext (i : Nat) (e : E)
  | rvs (i : Nat)
  | clr (i : Nat)
  | rmv (i : Nat) (e : E)
  | ex (e : E)
  | mut (m : Mu) (i : Nat) (args : List E)
  | ite (c : E) (a b : List S)
  | fr (t : Tg) (it : E) (b : List S)
  | wh (c : E) (b : List S)
  | ret (e : E)
  | retN
  | brk
  | cnt
  | pas
  | nvr

/-! ### what it means -/
abbrev Env := List (Option D)
structure Exn where
  cls : Str
  fld : Option D
inductive ER (α : Type) where
  | ok (a : α) (n : Env)
  | ex (x : Exn) (n : Env)
  | bad
def ER.bind {α β : Type} (r : ER α) (f : α → Env → ER β) : ER β := match r with
  | .ok a n => f a n
  | .ex x n => .ex x n
  | .bad => .bad
@[simp] theorem ER.bind_ok {α β : Type} (a : α) (n : Env) (f : α → Env → ER β) : (ER.ok a n).bind f = f a n := rfl
@[simp] theorem ER.bind_bad {α β : Type} (f : α → Env → ER β) : (ER.bad : ER α).bind f = .bad := rfl
theorem ER.bind_eq {α β : Type} {r : ER α} {f : α → Env → ER β} {b : β} {m : Env} (h : r.bind f = .ok b m) : ∃ a n, r = .ok a n ∧ f a n = .ok b m := by
  cases r with
  | ok a n => exact ⟨a, n, rfl, h⟩
  | ex x n => cases h
  | bad => cases h
/-- an outcome without a change of names -/
def lift {α : Type} (r : Option α) (n : Env) : ER α := match r with
  | some a => .ok a n
  | none => .bad
@[simp] theorem lift_some {α : Type} (a : α) (n : Env) : lift (some a) n = .ok a n := rfl
@[simp] theorem lift_none {α : Type} (n : Env) : lift (none : Option α) n = .bad := rfl
theorem lift_eq {α : Type} {r : Option α} {n m : Env} {a : α} (h : lift r n = .ok a m) : r = some a ∧ n = m := by
  cases r with
  | some b => cases h; exact ⟨rfl, rfl⟩
  | none => cases h
inductive FRes where
  | ok (d : D) (outs : List D)
  | ex (x : Exn) (outs : List D)
  | bad
abbrev Fn := List D → FRes
abbrev Fns := Nat → Fn

def big : Nat := 16777216
/-- sums within the bounds of the machine's products -/
def mulOk (i j : Int) : Bool := decide (i.natAbs < 2 ^ 64) || decide (j.natAbs < 2 ^ 64) || decide (i.natAbs < 2 ^ 4000 ∧ j.natAbs < 2 ^ 4000)
def binD : Bop → D → D → Option D
  | .add, .int i, .int j => some (.int (i + j))
  | .add, .str x, .str y => if x.length + y.length ≤ big then some (.str (x ++ y)) else none
  | .add, .tup l, .tup m => if l.length + m.length ≤ big then some (.tup (l ++ m)) else none
  | .add, .lst l, .lst m => if l.length + m.length ≤ big then some (.lst (l ++ m)) else none
  | .sub, .int i, .int j => some (.int (i - j))
  | .mul, .int i, .int j => if mulOk i j then some (.int (i * j)) else none
  | .mul, .lst l, .int k => if k.natAbs < 2 ^ 60 ∧ l.length * k.toNat ≤ big then some (.lst (List.replicate k.toNat l).flatten) else none
  | .mul, .tup l, .int k => if 1 ≤ k ∧ k ≤ 1000 ∧ 1 ≤ l.length ∧ l.length ≤ 1000 then some (.tup (List.replicate k.toNat l).flatten) else none
  | .fdiv, .int i, .int j => if 0 < j ∧ j.natAbs < 2 ^ 4000 then some (.int (i / j)) else none
  | .mod, .int i, .int j => if 0 < j then some (.int (i % j)) else none
  | .pow, .int i, .int j => if 0 ≤ j ∧ j ≤ 1000 ∧ i.natAbs < 2 ^ 64 then some (.int (i ^ j.toNat)) else none
  | _, _, _ => none

/-- of whole numbers alone, at the name's own place -/
def augD : Bop → D → D → Option D
  | .add, .int i, .int j => some (.int (i + j))
  | .sub, .int i, .int j => some (.int (i - j))
  | .mul, .int i, .int j => if i.natAbs < 2 ^ 64 ∨ j.natAbs < 2 ^ 64 then some (.int (i * j)) else none
  | .fdiv, .int i, .int j => if 0 < j ∧ j.natAbs < 2 ^ 4000 then some (.int (i / j)) else none
  | _, _, _ => none

mutual
/-- of depth below n, its texts whole -/
def fit : Nat → D → Bool
  | 0, _ => false
  | _ + 1, .non => true
  | _ + 1, .bl _ => true
  | _ + 1, .int _ => true
  | _ + 1, .str s => PyData.strOk s
  | n + 1, .tup l => fitL n l
  | n + 1, .lst l => fitL n l
  | _ + 1, .ty _ => false
  | _ + 1, .fn _ => false
  | _ + 1, .scr _ => false
def fitL : Nat → List D → Bool
  | _, [] => true
  | n, d :: r => fit n d && fitL n r
end
def scalD : D → D → Bool
  | .int _, .int _ => true
  | .str _, .str _ => true
  | .bl _, .bl _ => true
  | .non, .non => true
  | _, _ => false
def eqD (a b : D) : Option Bool := match a, b with
  | .int i, .int j => some (decide (i = j))
  | .str x, .str y => some (decide (x = y))
  | a, b => if a.isPy && b.isPy && fit 60 a && fit 60 b then some (PyData.eqv a.py b.py) else none
def flatD : D → Bool
  | .int _ => true
  | .str _ => true
  | .bl _ => true
  | .non => true
  | _ => false
def inD (a b : D) : Option Bool := match b with
  | .lst l => if a.isPy && fit 60 a && isPyL l && fitL 59 l then some (l.any fun z => PyData.eqv z.py a.py) else none
  | .tup l => if flatD a && l.all flatD then some (l.any fun z => PyData.eqv z.py a.py) else none
  | _ => none
def isNonD : D → Bool
  | .non => true
  | _ => false
def lexI : List D → List D → Option Bool
  | [], [] => some false
  | [], .int _ :: r => (lexI [] r).map fun _ => true
  | .int _ :: r, [] => (lexI r []).map fun _ => false
  | .int i :: r, .int j :: s => (lexI r s).map fun b => if i = j then b else decide (i < j)
  | _, _ => none
def ltD : D → D → Option Bool
  | .int i, .int j => some (decide (i < j))
  | .tup l, .tup m => lexI l m
  | _, _ => none
def leD : D → D → Option Bool
  | .int i, .int j => some (decide (i ≤ j))
  | _, _ => none
def isD : D → D → Option Bool
  | a, .non => some (isNonD a)
  | .bl a, .bl b => some (a == b)
  | _, _ => none
def gtD : D → D → Option Bool
  | .int i, .int j => some (decide (j < i))
  | _, _ => none
def geD : D → D → Option Bool
  | .int i, .int j => some (decide (j ≤ i))
  | _, _ => none
def cmpD (o : Cop) (a b : D) : Option Bool := match o with
  | .eq => eqD a b
  | .ne => (eqD a b).map (!·)
  | .lt => ltD a b
  | .le => leD a b
  | .gt => gtD a b
  | .ge => geD a b
  | .is_ => isD a b
  | .isn => (isD a b).map (!·)
  | .in_ => inD a b
  | .nin => (inD a b).map (!·)
def atD (l : List D) (i : Int) : Option D := if 0 ≤ i then l[i.toNat]? else if -(l.length : Int) ≤ i then l[(l.length + i).toNat]? else none
def idxD : D → D → Option D
  | .lst l, .int i => atD l i
  | .tup l, .int i => atD l i
  | _, _ => none
/-- an end of a slice of n -/
def endD (n : Nat) (d : D) (e : D) : Option Nat := match e with
  | .int i => some (if 0 ≤ i then min i.toNat n else (n + i).toNat)
  | .non => match d with
    | .int i => some i.toNat
    | _ => none
  | _ => none
def cutD (l : List D) (lo hi : D) : Option (List D) :=
  (endD l.length (.int 0) lo).bind fun a => (endD l.length (.int l.length) hi).map fun b => (l.drop a).take (b - a)
def slcD (x lo hi : D) : Option D := match x with
  | .lst l => (cutD l lo hi).map .lst
  | .tup l => (cutD l lo hi).map .tup
  | .scr l => (cutD l lo hi).map .lst
  | _ => none
def seqD : D → Option (List D)
  | .lst l => some l
  | .tup l => some l
  | _ => none
def intsD : List D → Option (List Int)
  | [] => some []
  | .int i :: r => (intsD r).map (i :: ·)
  | _ => none
def blsD : List D → Option (List Bool)
  | [] => some []
  | .bl i :: r => (blsD r).map (i :: ·)
  | _ => none
def maxI : List Int → Int
  | [] => 0
  | [a] => a
  | a :: r => max a (maxI r)
def minI : List Int → Int
  | [] => 0
  | [a] => a
  | a :: r => min a (minI r)
mutual
/-- more than the signs of its text -/
def cost : D → Nat
  | .non => 4
  | .bl _ => 5
  | .int _ => 1925
  | .str s => 10 * s.length + 2
  | .tup l => costL l + 3
  | .lst l => costL l + 2
  | .ty _ => 0
  | .fn _ => 0
  | .scr _ => 0
def costL : List D → Nat
  | [] => 0
  | d :: r => cost d + 2 + costL r
end
mutual
def smallI : D → Bool
  | .int i => decide (i.natAbs < 2 ^ 1900)
  | .str s => s.cps.all fun c => decide (c < 1114112)
  | .tup l => smallL l
  | .lst l => smallL l
  | .non => true
  | .bl _ => true
  | .ty _ => false
  | .fn _ => false
  | .scr _ => false
def smallL : List D → Bool
  | [] => true
  | d :: r => smallI d && smallL r
end
def reprD (d : D) : Option D := if d.isPy && smallI d && fit 60 d && decide (cost d ≤ big) then some (.str (PyData.shown d.py)) else none
def tyD : D → Option String
  | .non => some "NoneType"
  | .bl _ => some "bool"
  | .int _ => some "int"
  | .str _ => some "str"
  | .tup _ => some "tuple"
  | .lst _ => some "list"
  | _ => none
/-- of which built-in class a thing of such a class is -/
def isaT (a b : String) : Option Bool :=
  if b = "int" then some (a == "int" || a == "bool")
  else if b = "bool" ∨ b = "str" ∨ b = "tuple" ∨ b = "list" then some (a == b)
  else none
def isaL (a : String) : List D → Option Bool
  | [] => some false
  | .ty b :: r => (isaT a b).bind fun x => (isaL a r).map fun y => x || y
  | _ => none
def isiD (x t : D) : Option Bool := (tyD x).bind fun a => match t with
  | .ty b => isaT a b
  | .tup l => isaL a l
  | _ => none
def zip3D : List D → List D → List D → List D
  | a :: r, b :: s, c :: t => .tup [a, b, c] :: zip3D r s t
  | _, _, _ => []
def zipD : List D → List D → List D
  | a :: r, b :: s => .tup [a, b] :: zipD r s
  | _, _ => []
def rvD : D → Option D
  | .lst l => some (.lst l.reverse)
  | .tup l => some (.tup l.reverse)
  | _ => none
def permD (perm : List Pk) (ds : List D) : List D := perm.map fun p => match p with
  | .at i => ds.getD i .non
  | .df d => d
def lzD : D → D → Option D
  | .lst l, .lst m => some (.lst (zipD l m))
  | _, _ => none
def lenD : List D → Option D
  | [d] => (seqD d).map fun l => .int l.length
  | _ => none
def listD : List D → Option D
  | [d] => (seqD d).map .lst
  | _ => none
def tupleD : List D → Option D
  | [d] => (seqD d).map .tup
  | _ => none
def absD : List D → Option D
  | [.int i] => some (.int (if i < 0 then -i else i))
  | _ => none
def maxD : List D → Option D
  | [.int i, .int j] => some (.int (if j > i then j else i))
  | [.lst l] => (intsD l).bind fun ns => if ns = [] then none else some (.int (maxI ns))
  | _ => none
def minD : List D → Option D
  | [.int i, .int j] => some (.int (if j < i then j else i))
  | [.lst l] => (intsD l).bind fun ns => if ns = [] then none else some (.int (minI ns))
  | _ => none
def sumD : List D → Option D
  | [.lst l] => (intsD l).map fun ns => .int ns.sum
  | _ => none
def allD : List D → Option D
  | [.lst l] => (blsD l).map fun bs => .bl (bs.all id)
  | _ => none
def anyD : List D → Option D
  | [.lst l] => (blsD l).map fun bs => .bl (bs.any id)
  | _ => none
def isinD : List D → Option D
  | [x, t] => (isiD x t).map .bl
  | _ => none
def reprsD : List D → Option D
  | [d] => reprD d
  | _ => none
def strD : List D → Option D
  | [.int i] => if i.natAbs < 2 ^ 1900 then some (.str (toString i)) else none
  | _ => none
def intD : List D → Option D
  | [.int i] => some (.int i)
  | [.bl b] => some (.int (if b then 1 else 0))
  | _ => none
def srtI (ns : List Int) : List Int := ns.mergeSort fun a b => decide (a ≤ b)
def sortD : List D → Option D
  | [.lst l] => (intsD l).map fun ns => .lst ((srtI ns).map .int)
  | _ => none
def biD (b : Bi) (ds : List D) : Option D := match b with
  | .len => lenD ds
  | .list => listD ds
  | .tuple => tupleD ds
  | .abs => absD ds
  | .max => maxD ds
  | .min => minD ds
  | .sum => sumD ds
  | .all => allD ds
  | .any => anyD ds
  | .isi => isinD ds
  | .repr => reprsD ds
  | .str => strD ds
  | .int => intD ds
  | .sorted => sortD ds
def mtD : Mt → D → List D → Option D
  | .count, .lst l, [.int k] => (intsD l).map fun ns => .int (ns.count k)
  | _, _, _ => none

def getN (n : Env) (i : Nat) : Option D := (n[i]?).bind id
def isL (n : Env) (i : Nat) : Bool := match getN n i with
  | some (.lst _) => true
  | _ => false
/-- a list that is handed in to be changed is seen as it is when all is read -/
def rr1 (e : E) (io : List Nat) (n : Env) (d : D) : D := match e with
  | .var i => if io.contains i && isL n i then (getN n i).getD d else d
  | _ => d
def reread (io : List Nat) (n : Env) : List E → List D → List D
  | e :: r, d :: ds => rr1 e io n d :: reread io n r ds
  | _, ds => ds
def wipeN (n : Env) : List Nat → Env
  | [] => n
  | v :: r => (wipeN n r).set v none
/-- n, but the slots of w as m has them -/
def mrg (w : List Nat) (n m : Env) : Env := match w with
  | [] => n
  | v :: r => (mrg r n m).set v ((m[v]?).bind id)
mutual
def asgD : Tg → D → Env → Option Env
  | .nm i, d, n => if i < n.length then some (n.set i (some d)) else none
  | .tp l, d, n => match d with
    | .tup xs => asgL l xs n
    | _ => none
def asgL : List Tg → List D → Env → Option Env
  | [], [], n => some n
  | t :: r, d :: s, n => (asgD t d n).bind fun m => asgL r s m
  | _, _, _ => none
end
def setOuts : List Nat → List D → Env → Env
  | i :: r, d :: s, n => setOuts r s (n.set i (some d))
  | _, _, n => n
def rngD (a b : D) : Option (List D) := match a, b with
  | .int i, .int j => if i.natAbs < 2 ^ 60 ∧ j.natAbs < 2 ^ 60 ∧ (j - i).toNat ≤ big then some ((List.range (j - i).toNat).map fun k : Nat => .int (i + (k : Int))) else none
  | _, _ => none
def rdnD : D → Option (List D)
  | .int i => if i.natAbs < 2 ^ 60 ∧ i.toNat ≤ big then some ((List.range i.toNat).map fun k : Nat => .int (i - (k : Int))) else none
  | _ => none
/-- nought where nothing stands -/
def nz : D → D
  | .non => .int 0
  | d => d
def enmD : Nat → List D → List D
  | _, [] => []
  | k, d :: r => .tup [.int (k : Int), d] :: enmD (k + 1) r

mutual
/-- the slots that an expression may change by calls -/
def E.wr : E → List Nat
  | .bin _ a b => a.wr ++ b.wr
  | .neg a => a.wr
  | .nt a => a.wr
  | .an a b => a.wr ++ b.wr
  | .or a b => a.wr ++ b.wr
  | .cmp _ a b => a.wr ++ b.wr
  | .chn _ _ a b c => a.wr ++ (b.wr ++ c.wr)
  | .ife c a b => c.wr ++ (a.wr ++ b.wr)
  | .idx a b => a.wr ++ b.wr
  | .slc a lo hi => a.wr ++ (lo.wr ++ hi.wr)
  | .tup es => wrL es
  | .lst es => wrL es
  | .lc elt _ it c _ => it.wr ++ (c.wr ++ elt.wr)
  | .call _ args io => wrL args ++ io
  | .bi _ args => wrL args
  | .mth _ a args => a.wr ++ wrL args
  | .rng a b => a.wr ++ b.wr
  | .tr a b => a.wr ++ b.wr
  | .rvr a b => a.wr ++ b.wr
  | .zip a b => a.wr ++ b.wr
  | .lz a b => a.wr ++ b.wr
  | .enm a => a.wr
  | .rev a => a.wr
  | .rvt a => a.wr
  | .zp3 a b c => a.wr ++ (b.wr ++ c.wr)
  | .rdn a => a.wr
  | .callr _ args io => wrL args ++ io
  | .callk _ _ _ args _ => wrL args
  | .lc2 _ _ it _ _ _ _ _ => it.wr
  | .no => []
  | .var _ => []
  | .cst _ => []
  | .glb _ _ => []
def wrL : List E → List Nat
  | [] => []
  | e :: r => e.wr ++ wrL r
end
/-- the comprehension's turns -/
def lcGo (asg : D → Env → Option Env) (cond : Env → ER Bool) (elt : Env → ER D) (wp : Env → Env) : List D → Env → ER (List D)
  | [], n => .ok [] n
  | d :: r, n => match asg d (wp n) with
    | none => .bad
    | some n1 => (cond n1).bind fun b n2 =>
      if b then (elt n2).bind fun x n3 => (lcGo asg cond elt wp r n3).bind fun xs n4 => if xs.length < big then .ok (x :: xs) n4 else .bad
      else lcGo asg cond elt wp r n2
/-- of two fors -/
def lc2Go (asg : D → Env → Option Env) (src : Env → ER (List D)) (asg1 : D → Env → Option Env) (cond : Env → ER Bool) (elt : Env → ER D) (wp wp1 : Env → Env) : List D → Env → ER (List D)
  | [], n => .ok [] n
  | d :: r, n => match asg d (wp n) with
    | none => .bad
    | some n1 => (src n1).bind fun es n2 => (lcGo asg1 cond elt wp1 es n2).bind fun xs n3 => (lc2Go asg src asg1 cond elt wp wp1 r n3).bind fun ys n4 =>
      if xs.length + ys.length ≤ big then .ok (xs ++ ys) n4 else .bad
def toBl (r : ER D) : ER Bool := r.bind fun x n => match x with
  | .bl b => .ok b n
  | _ => .bad
/-- a part of a slice, if it is there -/
def optR (e : E) (r : ER D) (n : Env) : ER D := match e with
  | .no => .ok .non n
  | _ => r.bind fun x n => match x with
    | .int i => .ok (.int i) n
    | _ => .bad
/-- a comprehension's test, if it is there -/
def cndR (e : E) (r : ER D) (n : Env) : ER Bool := match e with
  | .no => .ok true n
  | _ => toBl r
section
variable (Φ : Fns)
mutual
def E.den : E → Env → ER D
  | .no, _ => .bad
  | .var i, n => lift (getN n i) n
  | .cst d, n => .ok d n
  | .glb _ d, n => .ok d n
  | .bin o a b, n => (a.den n).bind fun x n => (b.den n).bind fun y n => lift (binD o x y) n
  | .neg a, n => (a.den n).bind fun x n => match x with
    | .int i => .ok (.int (-i)) n
    | _ => .bad
  | .nt a, n => (toBl (a.den n)).bind fun x n => .ok (.bl (!x)) n
  | .an a b, n => (toBl (a.den n)).bind fun x n => if x then (toBl (b.den n)).bind fun y n => .ok (.bl y) n else .ok (.bl false) n
  | .or a b, n => (toBl (a.den n)).bind fun x n => if x then .ok (.bl true) n else (toBl (b.den n)).bind fun y n => .ok (.bl y) n
  | .cmp o a b, n => (a.den n).bind fun x n => (b.den n).bind fun y n => lift ((cmpD o x y).map .bl) n
  | .chn o p a b c, n => (a.den n).bind fun x n => (b.den n).bind fun y n => (lift (cmpD o x y) n).bind fun r n =>
      if r then (c.den n).bind fun z n => lift ((cmpD p y z).map .bl) n else .ok (.bl false) n
  | .ife c a b, n => (toBl (c.den n)).bind fun r n => if r then a.den n else b.den n
  | .idx a b, n => (a.den n).bind fun x n => (b.den n).bind fun y n => lift (idxD x y) n
  | .slc a lo hi, n => (a.den n).bind fun x n => (optR lo (lo.den n) n).bind fun y n => (optR hi (hi.den n) n).bind fun z n => lift (slcD x y z) n
  | .tup es, n => (denL es n).bind fun xs n => if xs.length ≤ big then .ok (.tup xs) n else .bad
  | .lst es, n => (denL es n).bind fun xs n => if xs.length ≤ big then .ok (.lst xs) n else .bad
  | .lc elt tg it c own, n => (it.den n).bind fun x n1 => (lift (seqD x) n1).bind fun ds n1 =>
      (lcGo (asgD tg) (fun m => cndR c (c.den m) m) (fun m => elt.den m) (fun m => wipeN m own) ds n1).bind fun xs n2 => .ok (.lst xs) (mrg (c.wr ++ elt.wr) n1 n2)
  | .call f args io, n => (denL args n).bind fun ds n => match Φ f ds with
    | .ok d outs => if outs.length = io.length then .ok d (setOuts io outs n) else .bad
    | .ex x outs => .ex x (setOuts io outs n)
    | .bad => .bad
  | .bi b args, n => (denL args n).bind fun ds n => lift (biD b ds) n
  | .mth m a args, n => (a.den n).bind fun x n => (denL args n).bind fun ds n => lift (mtD m x ds) n
  | .rng a b, n => (optR a (a.den n) n).bind fun x n => (b.den n).bind fun y n => lift ((rngD (nz x) y).map .lst) n
  | .tr a b, n => (optR a (a.den n) n).bind fun x n => (b.den n).bind fun y n => lift ((rngD (nz x) y).map .tup) n
  | .rvr a b, n => (optR a (a.den n) n).bind fun x n => (b.den n).bind fun y n => lift ((rngD (nz x) y).map fun l => .lst l.reverse) n
  | .zip a b, n => (a.den n).bind fun x n => (b.den n).bind fun y n => (lift (seqD x) n).bind fun l n => (lift (seqD y) n).bind fun m n => .ok (.lst (zipD l m)) n
  | .lz a b, n => (a.den n).bind fun x n => (b.den n).bind fun y n => lift (lzD x y) n
  | .enm a, n => (a.den n).bind fun x n => (lift (seqD x) n).bind fun l n => .ok (.lst (enmD 0 l)) n
  | .rev a, n => (a.den n).bind fun x n => (lift (seqD x) n).bind fun l n => .ok (.lst l.reverse) n
  | .rvt a, n => (a.den n).bind fun x n => lift (rvD x) n
  | .zp3 a b c, n => (a.den n).bind fun x n => (b.den n).bind fun y n => (c.den n).bind fun z n => (lift (seqD x) n).bind fun l n => (lift (seqD y) n).bind fun m n => (lift (seqD z) n).bind fun q n => .ok (.lst (zip3D l m q)) n
  | .rdn a, n => (a.den n).bind fun x n => lift ((rdnD x).map .lst) n
  | .callr f args io, n => (denL args n).bind fun ds n => match Φ f (reread io n args ds) with
    | .ok d outs => if outs.length = io.length then .ok d (setOuts io outs n) else .bad
    | .ex x outs => .ex x (setOuts io outs n)
    | .bad => .bad
  | .callk f _ _ args perm, n => (denL args n).bind fun ds n => match Φ f (permD perm ds) with
    | .ok d [] => .ok d n
    | .ex x _ => .ex x n
    | _ => .bad
  | .lc2 elt tg it tg1 it1 c own own1, n => (it.den n).bind fun x n1 => (lift (seqD x) n1).bind fun ds n1 =>
      (lc2Go (asgD tg) (fun m => (it1.den m).bind fun y m => lift (seqD y) m) (asgD tg1) (fun m => cndR c (c.den m) m) (fun m => elt.den m) (fun m => wipeN m own) (fun m => wipeN m own1) ds n1).bind fun xs _ => .ok (.lst xs) n1
def denL : List E → Env → ER (List D)
  | [], n => .ok [] n
  | e :: r, n => (e.den n).bind fun x n => (denL r n).bind fun xs n => .ok (x :: xs) n
end
end

/-! ### statements -/
inductive Fl where
  | nx (n : Env)
  | rt (d : D) (n : Env)
  | bk (n : Env)
  | ct (n : Env)
  | ex (x : Exn) (n : Env)
  | bad
def ER.fl {α : Type} (r : ER α) (f : α → Env → Fl) : Fl := match r with
  | .ok a n => f a n
  | .ex x n => .ex x n
  | .bad => .bad
@[simp] theorem ER.fl_ok {α : Type} (a : α) (n : Env) (f : α → Env → Fl) : (ER.ok a n).fl f = f a n := rfl
@[simp] theorem ER.fl_bad {α : Type} (f : α → Env → Fl) : (ER.bad : ER α).fl f = .bad := rfl
def Fl.seq (r : Fl) (f : Env → Fl) : Fl := match r with
  | .nx n => f n
  | r => r
def asO (r : Option Env) : Fl := match r with
  | some n => .nx n
  | none => .bad
/-- a for's turns -/
def forGo (asg : D → Env → Option Env) (body : Env → Fl) : List D → Env → Fl
  | [], n => .nx n
  | d :: r, n => match asg d n with
    | none => .bad
    | some n1 => match body n1 with
      | .nx m => forGo asg body r m
      | .ct m => forGo asg body r m
      | .bk m => .nx m
      | f => f
/-- a while's end -/
inductive WhR (c : Env → ER Bool) (body : Env → Fl) : Env → Fl → Prop where
  | stop {n m : Env} : c n = .ok false m → WhR c body n (.nx m)
  | cex {n m : Env} {x : Exn} : c n = .ex x m → WhR c body n (.ex x m)
  | cbad {n : Env} : c n = .bad → WhR c body n .bad
  | next {n m k : Env} {f : Fl} : c n = .ok true m → (body m = .nx k ∨ body m = .ct k) → WhR c body k f → WhR c body n f
  | brk {n m k : Env} : c n = .ok true m → body m = .bk k → WhR c body n (.nx k)
  | out {n m : Env} {f : Fl} : c n = .ok true m → body m = f → (∀ k, f ≠ .nx k) → (∀ k, f ≠ .ct k) → (∀ k, f ≠ .bk k) → WhR c body n f
open Classical in
noncomputable def whGo (c : Env → ER Bool) (body : Env → Fl) (n : Env) : Fl := if h : ∃ f, WhR c body n f then Classical.choose h else .bad
theorem WhR.det {c : Env → ER Bool} {body : Env → Fl} {n : Env} {f : Fl} (h : WhR c body n f) : ∀ {g : Fl}, WhR c body n g → f = g := by
  induction h with
  | stop e => intro g q; cases q <;> simp_all
  | cex e => intro g q; cases q <;> simp_all
  | cbad e => intro g q; cases q <;> simp_all
  | next e b w ih =>
    intro g q
    cases q with
    | stop e2 => simp_all
    | cex e2 => simp_all
    | cbad e2 => simp_all
    | next e2 b2 w2 =>
      rw [e] at e2; cases e2
      apply ih
      rcases b with b | b <;> rcases b2 with b2 | b2 <;> rw [b] at b2 <;> cases b2 <;> exact w2
    | brk e2 b2 => rw [e] at e2; cases e2; rcases b with b | b <;> rw [b] at b2 <;> cases b2
    | out e2 b2 h1 h2 h3 => rw [e] at e2; cases e2; rcases b with b | b <;> rw [b] at b2 <;> subst b2 <;> simp_all
  | brk e b =>
    intro g q
    cases q with
    | stop e2 => simp_all
    | cex e2 => simp_all
    | cbad e2 => simp_all
    | next e2 b2 w2 => rw [e] at e2; cases e2; rcases b2 with b2 | b2 <;> rw [b] at b2 <;> cases b2
    | brk e2 b2 => rw [e] at e2; cases e2; rw [b] at b2; cases b2; rfl
    | out e2 b2 h1 h2 h3 => rw [e] at e2; cases e2; rw [b] at b2; subst b2; simp_all
  | out e b h1 h2 h3 =>
    intro g q
    cases q with
    | stop e2 => simp_all
    | cex e2 => simp_all
    | cbad e2 => simp_all
    | next e2 b2 w2 => rw [e] at e2; cases e2; rcases b2 with b2 | b2 <;> rw [b] at b2 <;> subst b2 <;> simp_all
    | brk e2 b2 => rw [e] at e2; cases e2; rw [b] at b2; subst b2; simp_all
    | out e2 b2 => rw [e] at e2; cases e2; exact b.symm.trans b2
theorem whGo_eq {c : Env → ER Bool} {body : Env → Fl} {n : Env} {f : Fl} (h : WhR c body n f) : whGo c body n = f := by
  unfold whGo
  rw [dif_pos ⟨f, h⟩]
  exact (h.det (Classical.choose_spec (⟨f, h⟩ : ∃ f, WhR c body n f))).symm
theorem whGo_rel {c : Env → ER Bool} {body : Env → Fl} {n : Env} (h : whGo c body n ≠ .bad) : WhR c body n (whGo c body n) := by
  by_cases q : ∃ f, WhR c body n f
  · obtain ⟨f, w⟩ := q
    rw [whGo_eq w]; exact w
  · exact absurd (by unfold whGo; rw [dif_neg q]) h
def muD : Mu → D → List D → Option (D × D)
  | .append, .lst l, [d] => if l.length < big then some (.lst (l ++ [d]), .non) else none
  | .extend, .lst l, [.lst m] => if l.length + m.length ≤ big then some (.lst (l ++ m), .non) else none
  | .reverse, .lst l, [] => some (.lst l.reverse, .non)
  | .clear, .lst l, [] => some (.lst [], .non)
  | .remove, .lst l, [.int k] => (intsD l).bind fun ns => if k ∈ ns then some (.lst ((ns.erase k).map .int), .non) else none
  | .pop, .lst l, [] => (l[l.length - 1]?).map fun d => (.lst l.dropLast, d)
  | _, _, _ => none
def setD (x i d : D) : Option D := match x, i with
  | .lst l, .int k => if 0 ≤ k ∧ k.toNat < l.length then some (.lst (l.set k.toNat d)) else none
  | _, _ => none
section
variable (Φ : Fns)
mutual
noncomputable def S.den : S → Env → Fl
  | .fz _, n => .nx n
  | .asg i e, n => (e.den Φ n).fl fun d n => .nx (n.set i (some d))
  | .asgT t e, n => (e.den Φ n).fl fun d n => asO (asgD t d n)
  | .par i j a b, n => (a.den Φ n).fl fun d n => (b.den Φ n).fl fun c n => .nx ((n.set i (some d)).set j (some c))
  | .aug i o e, n => (lift (getN n i) n).fl fun x n => (e.den Φ n).fl fun y n => (lift (augD o x y) n).fl fun z n => .nx (n.set i (some z))
  | .setI i ix e, n => (e.den Φ n).fl fun d n => (lift (getN n i) n).fl fun x n => (ix.den Φ n).fl fun k n => (lift (setD x k d) n).fl fun z n => .nx (n.set i (some z))
  | .ext i e, n => (lift (getN n i) n).fl fun x n => (e.den Φ n).fl fun d n => (lift (muD .extend x [d]) n).fl fun z n => .nx (n.set i (some z.1))
  | .rmv i e, n => (lift (getN n i) n).fl fun x n => (e.den Φ n).fl fun d n => (lift (muD .remove x [d]) n).fl fun z n => .nx (n.set i (some z.1))
  | .rvs i, n => (lift (getN n i) n).fl fun x n => (lift (muD .reverse x []) n).fl fun z n => .nx (n.set i (some z.1))
  | .clr i, n => (lift (getN n i) n).fl fun x n => (lift (muD .clear x []) n).fl fun z n => .nx (n.set i (some z.1))
  | .ex e, n => (e.den Φ n).fl fun _ n => .nx n
  | .mut m i args, n => (lift (getN n i) n).fl fun x n => (denL Φ args n).fl fun ds n => (lift (muD m x ds) n).fl fun z n => .nx (n.set i (some z.1))
  | .ite c a b, n => (toBl (c.den Φ n)).fl fun r n => if r then denB a n else denB b n
  | .fr t it b, n => (it.den Φ n).fl fun x n => (lift (seqD x) n).fl fun ds n => forGo (asgD t) (fun m => denB b m) ds n
  | .wh c b, n => whGo (fun m => toBl (c.den Φ m)) (fun m => denB b m) n
  | .ret e, n => (e.den Φ n).fl fun d n => .rt d n
  | .retN, n => .rt .non n
  | .brk, n => .bk n
  | .cnt, n => .ct n
  | .pas, n => .nx n
  | .nvr, _ => .bad
noncomputable def denB : List S → Env → Fl
  | [], n => .nx n
  | s :: r, n => (s.den n).seq fun m => denB r m
end
end
structure FnIR where
  /-- how many slots, how many parameters -/
  len : Nat
  np : Nat
  /-- the parameters that are changed; those that are only read -/
  io : List Nat
  brw : List Nat
  /-- what is told is the asker's own -/
  ro : Bool
  body : List S
noncomputable def FnIR.run (Φ : Fns) (f : FnIR) (ds : List D) : FRes :=
  if ds.length = f.np ∧ (f.io.all fun i => isL (ds.map some) i) = true then match denB Φ f.body (ds.map some ++ List.replicate (f.len - f.np) none) with
    | .rt d n => .ok d (f.io.map fun i => (getN n i).getD .non)
    | .nx n => .ok .non (f.io.map fun i => (getN n i).getD .non)
    | .ex x n => .ex x (f.io.map fun i => (getN n i).getD .non)
    | _ => .bad
  else .bad
end Sc
namespace Sc
open PySem PySem.Spec PyProof.Rows L2

/-! ### what is looked at ahead: flags of the names, fitting of the text -/
inductive Fg where
  | frz | own | brw
  deriving DecidableEq
inductive Pm where
  | eat | brw | io
  deriving DecidableEq
/-- a way of a call with keywords: how many positional values, the keywords, where each parameter's value comes from -/
structure Kw where
  np : Nat
  ks : List Str
  perm : List Pk
/-- a callee -/
structure FSig where
  name : Str
  pm : List Pm
  ro : Bool
  kb : List Kw := []
  po : Bool := true
structure Cx0 where
  N : List Str
  sc : Scope
  sw : Scope
  G : List (Str × D)
  F : List FSig
  io : List Nat
def flag (Γ : List Fg) (i : Nat) : Fg := Γ.getD i .frz
def sigOf (c : Cx0) (f : Nat) : FSig := c.F.getD f ⟨"", [], false, [], false⟩
/-- the slots whose lists an expression's value may be -/
def E.bs (Γ : List Fg) : E → List Nat
  | .var i => if flag Γ i = .frz then [] else [i]
  | .ife _ a b => a.bs Γ ++ b.bs Γ
  | .zip a b => a.bs Γ ++ b.bs Γ
  | .zp3 a b c => a.bs Γ ++ (b.bs Γ ++ c.bs Γ)
  | .enm a => a.bs Γ
  | .rev a => a.bs Γ
  | _ => []
def E.md (c : Cx0) (Γ : List Fg) : E → Fg
  | .var i => if flag Γ i = .frz then .frz else .brw
  | .glb _ _ => .frz
  | .idx _ _ => .frz
  | .ife _ a b => if a.md c Γ = b.md c Γ then a.md c Γ else .brw
  | .call f _ _ => if (sigOf c f).ro then .own else .frz
  | .callk f _ _ _ _ => if (sigOf c f).ro then .own else .frz
  | .callr f _ _ => if (sigOf c f).ro then .own else .frz
  | _ => .own
def disj (l m : List Nat) : Bool := l.all fun i => !m.contains i

def visB (sc : Scope) (x : Str) : Bool := sc.names.lookup x == some .local || sc.names.lookup x == some .cell || sc.names.lookup x == some .free
def locB (sc : Scope) (x : Str) : Bool := sc.names.lookup x == some .local || sc.names.lookup x == some .cell
def glB (sc : Scope) (x : Str) : Bool := sc.names.lookup x == some .globalImplicit
def bopB : Bop → Operator → Bool
  | .add, .Add => true
  | .sub, .Sub => true
  | .mul, .Mult => true
  | .fdiv, .FloorDiv => true
  | .mod, .Mod => true
  | .pow, .Pow => true
  | _, _ => false
def copB : Cop → CmpOp → Bool
  | .eq, .Eq => true
  | .ne, .NotEq => true
  | .lt, .Lt => true
  | .le, .LtE => true
  | .gt, .Gt => true
  | .ge, .GtE => true
  | .is_, .Is => true
  | .isn, .IsNot => true
  | .in_, .In => true
  | .nin, .NotIn => true
  | _, _ => false
def notSet : Expr → Bool
  | .Set .. => false
  | _ => true
def notSlc : Expr → Bool
  | .Slice .. => false
  | _ => true
def notStar : Expr → Bool
  | .Starred .. => false
  | _ => true
def notLc : Expr → Bool
  | .ListComp .. => false
  | .SetComp .. => false
  | .DictComp .. => false
  | _ => true
def notCall : Expr → Bool
  | .Call .. => false
  | _ => true
def isTupE : Expr → Bool
  | .Tuple .. => true
  | _ => false
def E.itTup : E → Bool
  | .zip _ _ => true
  | .zp3 _ _ _ => true
  | .enm _ => true
  | _ => false
/-- as a test its truth is asked of its value -/
def plainT : Expr → Bool
  | .UnaryOp .Not _ _ => false
  | .BoolOp .. => false
  | .IfExp .. => false
  | .Compare .. => false
  | _ => true
mutual
def deq : D → D → Bool
  | .non, .non => true
  | .bl a, .bl b => a == b
  | .int a, .int b => decide (a = b)
  | .str a, .str b => decide (a = b)
  | .ty a, .ty b => decide (a = b)
  | .tup a, .tup b => deqL a b
  | .lst a, .lst b => deqL a b
  | .fn a, .fn b => decide (a = b)
  | _, _ => false
def deqL : List D → List D → Bool
  | [], [] => true
  | a :: r, b :: s => deq a b && deqL r s
  | _, _ => false
end
def pkEq : List Pk → List Pk → Bool
  | [], [] => true
  | .at i :: r, .at j :: s => i == j && pkEq r s
  | .df d :: r, .df e :: s => deq d e && pkEq r s
  | _, _ => false
def kwEq (a b : Kw) : Bool := a.np == b.np && decide (a.ks = b.ks) && pkEq a.perm b.perm
def biN : Bi → Str
  | .len => "len" | .list => "list" | .tuple => "tuple" | .abs => "abs" | .max => "max" | .min => "min" | .sum => "sum" | .all => "all" | .any => "any"
  | .isi => "isinstance" | .repr => "repr" | .str => "str" | .int => "int" | .sorted => "sorted"
/-- the scope that runs in a comprehension's block -/
def inSc (blk sc : Scope) : Scope := relS blk sc
def blkB (N : List Str) (sc blk : Scope) (own : List Nat) : Bool :=
  blk.kind == .function && (blk.names.all fun y => blk.names.lookup y.1 == some y.2) && own.all (fun i => decide (i < N.length)) &&
  (blk.names.all fun y => y.2 != .free || (sc.names.lookup y.1 == some .cell || sc.names.lookup y.1 == some .free)) &&
  (blk.names.all fun y => (y.2 != .local && y.2 != .cell) || ((own.filterMap fun i => N[i]?).contains y.1 || !N.contains y.1))
mutual
def Tg.chk (c : Cx0) : Tg → Expr → Bool
  | .nm i, .Name x _ => c.N[i]? == some x && locB c.sw x && !c.io.contains i
  | .tp l, .Tuple es _ _ => chkTL c l es
  | _, _ => false
def chkTL (c : Cx0) : List Tg → List Expr → Bool
  | [], [] => true
  | t :: r, e :: s => t.chk c e && notStar e && chkTL c r s
  | _, _ => false
end
mutual
def Tg.slots : Tg → List Nat
  | .nm i => [i]
  | .tp l => slotsL l
def slotsL : List Tg → List Nat
  | [] => []
  | t :: r => t.slots ++ slotsL r
end
/-- the flags within a comprehension: its own names stay -/
def inFl (Γ : List Fg) : List Nat → List Fg
  | [] => Γ
  | v :: r => (inFl Γ r).set v .frz
def ioOf : List Pm → List E → List Nat
  | .io :: r, .var i :: s => i :: ioOf r s
  | _ :: r, _ :: s => ioOf r s
  | _, _ => []
def E.tok : E → Bool
  | .ife _ _ _ => false
  | _ => true
def E.isRng : E → Bool
  | .rng _ _ => true
  | _ => false
def E.isNo : E → Bool
  | .no => true
  | _ => false
def chkB (Γ : List Fg) : List E → Bool
  | [] => true
  | e :: r => disj (e.bs Γ) (wrL r) && chkB Γ r
def chkA (c : Cx0) (Γ : List Fg) : List Pm → List E → List Nat → Bool
  | [], [], _ => true
  | .eat :: r, e :: s, io => decide (e.md c Γ ≠ .brw) && chkA c Γ r s io
  | .brw :: r, e :: s, io => disj (e.bs Γ) (wrL s ++ io) && chkA c Γ r s io
  | .io :: r, .var i :: s, io => decide (flag Γ i = .own) && !(wrL s).contains i && !(ioOf r s).contains i && chkA c Γ r s io
  | _, _, _ => false
/-- the same, where a later argument may change such a list -/
def chkR (c : Cx0) (Γ : List Fg) : List Pm → List E → List Nat → Bool
  | [], [], _ => true
  | .eat :: r, e :: s, io => decide (e.md c Γ ≠ .brw) && chkR c Γ r s io
  | .io :: r, .var i :: s, io => decide (flag Γ i = .own) && !(ioOf r s).contains i && chkR c Γ r s io
  | _, _, _ => false
/-- what is left of an and, an or -/
def restB (op : PySem.BoolOp) (p : Pos) : List Expr → Expr
  | [x] => x
  | l => .BoolOp op l p
def asRev : Expr → Option Expr
  | .Subscript l (.Slice none none (some (.UnaryOp .USub (.Constant (.int 1) _ _) _)) _) _ => some l
  | _ => none
structure Z3K where
  x : Str
  l : Expr
  r : Expr
  s : Expr
def asZ3 : Expr → Option Z3K
  | .Call (.Name x _) [l, r, s] [] _ => some ⟨x, l, r, s⟩
  | _ => none
structure RdK where
  x : Str
  l : Expr
def asRd : Expr → Option RdK
  | .Call (.Name x _) [l, .Constant (.int 0) _ _, .UnaryOp .USub (.Constant (.int 1) _ _) _] [] _ => some ⟨x, l⟩
  | _ => none
structure CallK where
  x : Str
  ls : List Expr
  kws : List Keyword
def asCall : Expr → Option CallK
  | .Call (.Name x _) ls kws _ => some ⟨x, ls, kws⟩
  | _ => none
structure Lc2K where
  l : Expr
  t : Expr
  i : Expr
  t1 : Expr
  i1 : Expr
  fs : List Expr
  blk : Scope
def asLc2 : Expr → Option Lc2K
  | .ListComp l [⟨t, i, [], 0⟩, ⟨t1, i1, fs, 0⟩] blk _ => some ⟨l, t, i, t1, i1, fs, blk⟩
  | _ => none
mutual
def E.chk (c : Cx0) (Γ : List Fg) : E → Expr → Bool
  | .var i, .Name x _ => c.N[i]? == some x && visB c.sc x && !(x == ("__debug__" : Str)) && !(x == ("__classdict__" : Str))
  | .cst .non, .Constant .none _ _ => true
  | .cst (.bl b), .Constant (.bool b') _ _ => b == b'
  | .cst (.int i), .Constant (.int j) _ _ => decide (i = j)
  | .cst (.str x), .Constant (.str y) _ _ => decide (x = y)
  | .cst (.ty n), .Name x _ => glB c.sc x && !(c.N.contains x) && (n == "int" || n == "bool" || n == "str" || n == "tuple" || n == "list") && decide (x = Str.ofString n)
  | .glb x d, .Name y _ => glB c.sc x && decide (x = y) && (c.G.any fun g => decide (g.1 = x) && deq g.2 d) && !(x == ("__debug__" : Str))
  | .bin o a b, .BinOp l p r _ => bopB o p && a.chk c Γ l && b.chk c Γ r && disj (a.bs Γ) b.wr
  | .neg a, .UnaryOp .USub l _ => a.chk c Γ l
  | .nt a, .UnaryOp .Not l _ => a.chk c Γ l && a.tok
  | .an a b, .BoolOp .And (l :: m :: r) p => a.chk c Γ l && a.tok && b.chk c Γ (restB .And p (m :: r)) && b.tok
  | .or a b, .BoolOp .Or (l :: m :: r) p => a.chk c Γ l && a.tok && b.chk c Γ (restB .Or p (m :: r)) && b.tok
  | .cmp o a b, .Compare l [p] [r] _ => copB o p && a.chk c Γ l && b.chk c Γ r && disj (a.bs Γ) b.wr && notSet r
  | .chn o p a b d, .Compare l [q, q'] [r, s] _ => copB o q && copB p q' && a.chk c Γ l && b.chk c Γ r && d.chk c Γ s && disj (a.bs Γ) b.wr && disj (b.bs Γ) d.wr && notSet r && notSet s
  | .ife d a b, .IfExp t l r _ => d.chk c Γ t && d.tok && a.chk c Γ l && b.chk c Γ r
  | .idx a b, .Subscript l r _ => a.chk c Γ l && b.chk c Γ r && disj (a.bs Γ) b.wr && notSlc r
  | .slc a lo hi, .Subscript l (.Slice lo' hi' none _) _ => a.chk c Γ l && (match lo' with | none => lo.isNo | some l => lo.chk c Γ l && !lo.isNo) && (match hi' with | none => hi.isNo | some l => hi.chk c Γ l && !hi.isNo) && disj (a.bs Γ) (lo.wr ++ hi.wr)
  | .tup es, .Tuple ls _ _ => chkL c Γ es ls && es.all fun e => decide (e.md c Γ ≠ .brw)
  | .lst es, .List ls _ => chkL c Γ es ls && es.all fun e => decide (e.md c Γ ≠ .brw)
  | .lc elt tg it d own, .ListComp l [⟨t, i, fs, asy⟩] blk _ =>
      decide (asy = 0) && (it.chkI c Γ i || it.chk c Γ i) && (!it.itTup || isTupE t) && notSet i && blkB c.N c.sc blk own && disj own c.io && tg.chk { c with sc := inSc blk c.sc, sw := blk, io := (List.range c.N.length).filter fun j => !own.contains j } t && (tg.slots.all fun j => own.contains j) &&
      (match fs with
        | [] => d.isNo
        | [f] => d.chk { c with sc := inSc blk c.sc, sw := blk, io := [] } (inFl Γ own) f && d.tok && !d.isNo
        | _ => false) &&
      elt.chk { c with sc := inSc blk c.sc, sw := blk, io := [] } (inFl Γ own) l && decide (elt.md { c with sc := inSc blk c.sc, sw := blk, io := [] } (inFl Γ own) ≠ .brw) && disj (it.bs Γ) (d.wr ++ elt.wr) && disj own (d.wr ++ elt.wr)
  | .call f args io, .Call (.Name x _) ls [] _ => glB c.sc x && !(x == ("__debug__" : Str)) && decide (f < c.F.length) && decide ((sigOf c f).name = x) && chkL c Γ args ls && chkA c Γ (sigOf c f).pm args io && decide (io = ioOf (sigOf c f).pm args) && !args.isEmpty && (sigOf c f).po
  | .bi b args, .Call (.Name x _) ls [] _ => glB c.sc x && decide (x = biN b) && chkL c Γ args ls && chkB Γ args && !args.isEmpty
  | .mth .count a [e], .Call (.Attribute o x ap) [l] [] cp => decide (x = ("count" : Str)) && a.chk c Γ o && notCall o && e.chk c Γ l && notStar l && disj (a.bs Γ) e.wr && (ap.endLine == cp.line)
  | .tr a b, .Call (.Name x _) [.Call (.Name y _) ls [] _] [] _ => glB c.sc x && glB c.sc y && decide (x = ("tuple" : Str)) && decide (y = ("range" : Str)) && (match ls with
      | [r] => a.isNo && b.chk c Γ r && notStar r
      | [l, r] => !a.isNo && a.chk c Γ l && b.chk c Γ r && notStar l && notStar r
      | _ => false)
  | .rvt a, x => match asRev x with
    | some l => a.chk c Γ l
    | none => false
  | .callr f args io, a => match asCall a with
    | some ⟨x, ls, []⟩ => glB c.sc x && !(x == ("__debug__" : Str)) && decide (f < c.F.length) && decide ((sigOf c f).name = x) && chkL c Γ args ls && chkR c Γ (sigOf c f).pm args io && decide (io = ioOf (sigOf c f).pm args) && !args.isEmpty && (sigOf c f).po
    | _ => false
  | .callk f np ks args perm, a => match asCall a with
    | none => false
    | some ⟨x, ls, kws⟩ => glB c.sc x && !(x == ("__debug__" : Str)) && decide (f < c.F.length) && decide ((sigOf c f).name = x) && (sigOf c f).kb.any (kwEq ⟨np, ks, perm⟩) && (sigOf c f).pm.all (fun p => decide (p = .eat)) && decide ((sigOf c f).pm.length = perm.length) && decide (ls.length = np) && chkK c Γ args ls kws ks && args.all (fun e => decide (e.md c Γ ≠ .brw))
  | .lc2 elt tg it tg1 it1 d own own1, a => match asLc2 a with
    | none => false
    | some ⟨l, t, i, t1, i1, fs, blk⟩ =>
      (it.chkI c Γ i || it.chk c Γ i) && (!it.itTup || isTupE t) && notSet i && blkB c.N c.sc blk own && disj own c.io && (own1.all fun j => own.contains j) &&
      tg.chk { c with sc := inSc blk c.sc, sw := blk, io := (List.range c.N.length).filter fun j => !own.contains j } t && (tg.slots.all fun j => own.contains j) && (tg.slots.all fun j => !own1.contains j) &&
      (it1.isRng && it1.chkI { c with sc := inSc blk c.sc, sw := blk, io := [] } (inFl Γ own) i1) && notSet i1 &&
      tg1.chk { c with sc := inSc blk c.sc, sw := blk, io := (List.range c.N.length).filter fun j => !own.contains j } t1 && (tg1.slots.all fun j => own1.contains j) &&
      (match fs with
        | [] => d.isNo
        | [f] => d.chk { c with sc := inSc blk c.sc, sw := blk, io := [] } (inFl Γ own) f && d.tok && !d.isNo
        | _ => false) &&
      elt.chk { c with sc := inSc blk c.sc, sw := blk, io := [] } (inFl Γ own) l && decide (elt.md { c with sc := inSc blk c.sc, sw := blk, io := [] } (inFl Γ own) ≠ .brw) && (it1.wr ++ (d.wr ++ elt.wr)).isEmpty
  | .lz a b, .Call (.Name x _) [.Call (.Name y _) [l, r] [] _] [] _ => glB c.sc x && glB c.sc y && decide (x = ("list" : Str)) && decide (y = ("zip" : Str)) && a.chk c Γ l && b.chk c Γ r && disj (a.bs Γ) b.wr && notStar l && notStar r
  | _, _ => false
/-- what is gone through -/
def E.chkI (c : Cx0) (Γ : List Fg) : E → Expr → Bool
  | .rng a b, .Call (.Name x _) ls [] _ => glB c.sc x && decide (x = ("range" : Str)) && (match ls with
      | [r] => a.isNo && b.chk c Γ r && notStar r
      | [l, r] => !a.isNo && a.chk c Γ l && b.chk c Γ r && notStar l && notStar r
      | _ => false)
  | .zip a b, .Call (.Name x _) [l, r] [] _ => glB c.sc x && decide (x = ("zip" : Str)) && a.chk c Γ l && b.chk c Γ r && disj (a.bs Γ) b.wr && notStar l && notStar r
  | .enm a, .Call (.Name x _) [l] [] _ => glB c.sc x && decide (x = ("enumerate" : Str)) && a.chk c Γ l && notStar l
  | .rev a, .Call (.Name x _) [l] [] _ => glB c.sc x && decide (x = ("reversed" : Str)) && a.chk c Γ l && notStar l
  | .rvr a b, .Call (.Name x _) [.Call (.Name y _) ls [] _] [] _ => glB c.sc x && glB c.sc y && decide (x = ("reversed" : Str)) && decide (y = ("range" : Str)) && (match ls with
      | [r] => a.isNo && b.chk c Γ r && notStar r
      | [l, r] => !a.isNo && a.chk c Γ l && b.chk c Γ r && notStar l && notStar r
      | _ => false)
  | .zp3 a b d, y => match asZ3 y with
    | none => false
    | some ⟨x, l, r, s⟩ => glB c.sc x && decide (x = ("zip" : Str)) && a.chk c Γ l && b.chk c Γ r && d.chk c Γ s && disj (a.bs Γ) (b.wr ++ d.wr) && disj (b.bs Γ) d.wr && notStar l && notStar r && notStar s
  | .rdn a, y => match asRd y with
    | none => false
    | some ⟨x, l⟩ => glB c.sc x && decide (x = ("range" : Str)) && a.chk c Γ l && notStar l
  | _, _ => false
/-- places, then keywords -/
def chkK (c : Cx0) (Γ : List Fg) : List E → List Expr → List Keyword → List Str → Bool
  | [], [], [], [] => true
  | e :: r, l :: s, kws, ks => e.chk c Γ l && notStar l && chkK c Γ r s kws ks
  | e :: r, [], ⟨nm, l, _⟩ :: kws, k :: ks => decide (nm = some k) && e.chk c Γ l && chkK c Γ r [] kws ks
  | _, _, _, _ => false
def chkL (c : Cx0) (Γ : List Fg) : List E → List Expr → Bool
  | [], [] => true
  | e :: r, l :: s => e.chk c Γ l && notStar l && chkL c Γ r s
  | _, _ => false
end
end Sc
namespace Sc
open PySem PySem.Spec PyProof.Rows L2

mutual
theorem deq_eq : ∀ (a b : D), deq a b = true → a = b
  | .non, b, h => by cases b <;> simp_all [deq]
  | .bl x, b, h => by cases b <;> simp_all [deq]
  | .int x, b, h => by cases b <;> simp_all [deq]
  | .str x, b, h => by cases b <;> simp_all [deq]
  | .ty x, b, h => by cases b <;> simp_all [deq]
  | .fn x, b, h => by cases b <;> simp_all [deq]
  | .scr x, b, h => by cases b <;> simp_all [deq]
  | .tup x, b, h => by
    cases b <;> simp only [deq] at h <;> try exact Bool.noConfusion h
    rw [deqL_eq x _ h]
  | .lst x, b, h => by
    cases b <;> simp only [deq] at h <;> try exact Bool.noConfusion h
    rw [deqL_eq x _ h]
theorem deqL_eq : ∀ (a b : List D), deqL a b = true → a = b
  | [], b, h => by cases b <;> simp_all [deqL]
  | x :: r, b, h => by
    cases b with
    | nil => simp [deqL] at h
    | cons y s =>
      simp only [deqL, Bool.and_eq_true] at h
      rw [deq_eq x y h.1, deqL_eq r s h.2]
end

/-! ### states -/
theorem isL_iff {n : Env} {i : Nat} : isL n i = true ↔ ∃ l, getN n i = some (.lst l) := by
  unfold isL
  constructor
  · intro h
    split at h
    · rename_i l e; exact ⟨l, e⟩
    · cases h
  · rintro ⟨l, e⟩; rw [e]
/-- the addresses of the lists of some slots -/
def Adr (M : List Nat) (n : Env) (σ : L2.St) : AP1 := fun p => ∃ j ∈ M, isL n j = true ∧ σ[j]? = some (some (.ref p))
theorem Adr.mono {M M' : List Nat} {n : Env} {σ : L2.St} {p : Addr} (h : Adr M n σ p) (hs : ∀ i ∈ M, i ∈ M') : Adr M' n σ p := by
  obtain ⟨j, hj, a, b⟩ := h
  exact ⟨j, hs j hj, a, b⟩
theorem Adr.nil {n : Env} {σ : L2.St} {p : Addr} (h : Adr [] n σ p) : False := by
  obtain ⟨j, hj, _⟩ := h
  cases hj
/-- the same slots hold lists -/
def KN (n n' : Env) : Prop := ∀ j, isL n' j = isL n j
theorem KN.refl {n : Env} : KN n n := fun _ => rfl
theorem KN.trans {a b c : Env} (h : KN a b) (k : KN b c) : KN a c := fun j => (k j).trans (h j)
theorem Adr.kn {M : List Nat} {n n' : Env} {σ : L2.St} {p : Addr} (k : KN n n') (h : Adr M n' σ p) : Adr M n σ p := by
  obtain ⟨j, hj, a, b⟩ := h
  exact ⟨j, hj, (k j).symm.trans a, b⟩

def RpF (K : PySem.W.Frag) (H : Hp) (Z : AP1) : Fg → D → V → Prop
  | .frz => Rp K H Z
  | .own => RpO K H Z
  | .brw => RpB K H Z
theorem RpF.b {K : PySem.W.Frag} {H : Hp} {Z : AP1} {f : Fg} {d : D} {v : V} (h : RpF K H Z f d v) : RpB K H Z d v := by
  cases f with
  | frz => exact Rp.b h
  | own => exact RpO.b h
  | brw => exact h
structure SI (K : PySem.W.Frag) (Γ : List Fg) (n : Env) (σ : L2.St) (H : Hp) (Z : AP1) : Prop where
  len : n.length = σ.length
  slot : ∀ i d, getN n i = some d → ∃ v, σ[i]? = some (some v) ∧ RpF K H Z (flag Γ i) d v
  sep : ∀ i j p, i ≠ j → flag Γ i = .own → flag Γ j = .own → isL n i = true → isL n j = true → σ[i]? = some (some (.ref p)) → σ[j]? ≠ some (some (.ref p))
  sepB : ∀ i j p, flag Γ i = .own → flag Γ j = .brw → isL n i = true → isL n j = true → σ[i]? = some (some (.ref p)) → σ[j]? ≠ some (some (.ref p))
  zok : ∀ p, Z p → H p ≠ none
section
variable {K : PySem.W.Frag} {Γ : List Fg} {n n' n2 : Env} {σ : L2.St} {H H' H1 H2 : Hp} {Z Z' Z1 Z2 : AP1}
/-- an own list's address -/
theorem SI.own (I : SI K Γ n σ H Z) {j : Nat} {p : Addr} (hf : flag Γ j = .own) (hl : isL n j = true) (hp : σ[j]? = some (some (.ref p))) :
    ¬ Z p ∧ ∃ l xs, getN n j = some (.lst l) ∧ H p = some (.lst xs) ∧ RpL K H Z l xs := by
  obtain ⟨l, e⟩ := isL_iff.mp hl
  obtain ⟨v, e1, r⟩ := I.slot j _ e
  rw [hp] at e1
  have e2 : V.ref p = v := Option.some.inj (Option.some.inj e1)
  subst e2
  rw [hf] at r
  obtain ⟨a, xs, e3, nz, e4, r⟩ := r
  have e5 : p = a := by injection e3
  subst e5
  exact ⟨nz, l, xs, e, e4, r⟩
theorem SI.adr (I : SI K Γ n σ H Z) {M : List Nat} {p : Addr} (hM : ∀ j ∈ M, flag Γ j = .own) (h : Adr M n σ p) : ¬ Z p ∧ ∃ xs, H p = some (.lst xs) := by
  obtain ⟨j, hj, a, b⟩ := h
  obtain ⟨h1, _, xs, _, h2, _⟩ := I.own (hM j hj) a b
  exact ⟨h1, xs, h2⟩
/-- what stays, behind writes to own lists -/
theorem Fr.zkeep {W : AP1} (f : Fr W H Z H' Z') (hW : ∀ p, W p → ¬ Z p) : ∀ a o, Z a → H a = some o → H' a = some o := fun a o z e => f.keep a o e fun w => hW a w z

/-- a value behind its expression -/
structure Val (K : PySem.W.Frag) (Γ : List Fg) (m : Fg) (b : List Nat) (n' : Env) (σ : L2.St) (H H' : Hp) (Z' : AP1) (d : D) (v : V) : Prop where
  kp : ∀ M H2 Z2, (∀ j ∈ M, flag Γ j = .own) → (∀ i ∈ b, i ∉ M) → Fr (Adr M n' σ) H' Z' H2 Z2 → RpB K H2 Z2 d v
  fz : m = .frz → Rp K H' Z' d v
  ow : m = .own → RpO K H' Z' d v ∧ ∀ l a, d = .lst l → v = .ref a → H a = none
theorem Val.rb {m : Fg} {b : List Nat} {d : D} {v : V} (h : Val K Γ m b n' σ H H' Z' d v) : RpB K H' Z' d v := h.kp [] H' Z' (fun _ h => by cases h) (fun _ _ h => by cases h) Fr.refl
/-- one that stays among what stays -/
theorem Val.frz (I : SI K Γ n' σ H' Z') {b : List Nat} {d : D} {v : V} (h : Rp K H' Z' d v) : Val K Γ .frz b n' σ H H' Z' d v :=
  ⟨fun M H2 Z2 hM _ f => (Rp.mono f.zz (f.zkeep fun p w => (I.adr hM w).1) d v h).b, fun _ => h, fun e => by cases e⟩
theorem notList_o {d : D} {v : V} (hd : ∀ l, d ≠ .lst l) (h : Rp K H Z d v) : RpO K H Z d v := by
  cases d <;> first | exact absurd rfl (hd _) | exact h
/-- one that is no list -/
theorem Val.plain (I : SI K Γ n' σ H' Z') {b : List Nat} {d : D} {v : V} (hd : ∀ l, d ≠ .lst l) (h : Rp K H' Z' d v) : Val K Γ .own b n' σ H H' Z' d v :=
  ⟨fun M H2 Z2 hM _ f => (Rp.mono f.zz (f.zkeep fun p w => (I.adr hM w).1) d v h).b, (fun e => by cases e), fun _ => ⟨notList_o hd h, fun l a e => absurd e (hd l)⟩⟩
/-- a new list -/
theorem Val.fresh (I : SI K Γ n' σ H' Z') (I0 : SI K Γ n σ H Z) (kn : KN n n') {b : List Nat} {l : List D} {xs : List V} {a : Addr} (hz : ¬ Z' a) (ha : H' a = some (.lst xs)) (hn : H a = none) (r : RpL K H' Z' l xs) :
    Val K Γ .own b n' σ H H' Z' (.lst l) (.ref a) where
  kp := fun M H2 Z2 hM _ f => by
    refine ⟨a, xs, rfl, f.keep a _ ha fun w => ?_, RpL.mono f.zz (f.zkeep fun p w => (I.adr hM w).1) l xs r⟩
    obtain ⟨_, ys, e⟩ := I0.adr hM (w.kn kn)
    rw [hn] at e; cases e
  fz := fun e => by cases e
  ow := fun _ => ⟨⟨a, xs, rfl, hz, ha, r⟩, fun l' a' _ e => by injection e with e; rw [← e]; exact hn⟩
/-- the value of a name -/
theorem Val.slot (I : SI K Γ n σ H Z) {i : Nat} {d : D} {v : V} (hd : getN n i = some d) (hv : σ[i]? = some (some v)) :
    Val K Γ (if flag Γ i = .frz then .frz else .brw) (if flag Γ i = .frz then [] else [i]) n σ H H Z d v := by
  obtain ⟨v', e, r⟩ := I.slot i d hd
  rw [hv] at e
  have e2 : v = v' := Option.some.inj (Option.some.inj e)
  subst e2
  cases hf : flag Γ i with
  | frz =>
    rw [hf] at r
    simp only [if_true]
    exact Val.frz I r
  | own =>
    rw [hf] at r
    simp only [reduceCtorEq, if_false]
    refine ⟨fun M H2 Z2 hM hb f => ?_, (fun e => by cases e), (fun e => by cases e)⟩
    have mono := f.zkeep fun p w => (I.adr hM w).1
    cases d with
    | lst l =>
      obtain ⟨a, xs, rfl, nz, ha, r⟩ := r
      refine ⟨a, xs, rfl, f.keep a _ ha fun w => ?_, RpL.mono f.zz mono l xs r⟩
      obtain ⟨j, hj, hl, hp⟩ := w
      by_cases e : i = j
      · subst e; exact hb i (by simp) hj
      · exact I.sep i j a e hf (hM j hj) (isL_iff.mpr ⟨l, hd⟩) hl hv hp
    | _ => exact Rp.mono f.zz mono _ _ r
  | brw =>
    rw [hf] at r
    simp only [reduceCtorEq, if_false]
    refine ⟨fun M H2 Z2 hM hb f => ?_, (fun e => by cases e), (fun e => by cases e)⟩
    have mono := f.zkeep fun p w => (I.adr hM w).1
    cases d with
    | lst l =>
      obtain ⟨a, xs, rfl, sq, r⟩ := r
      refine ⟨a, xs, rfl, f.keep a _ sq fun w => ?_, RpL.mono f.zz mono l xs r⟩
      obtain ⟨j, hj, hl, hp⟩ := w
      exact I.sepB j i a (hM j hj) hf hl (isL_iff.mpr ⟨l, hd⟩) hp hv
    | _ => exact Rp.mono f.zz mono _ _ r
/-- frames and what stays, for a state -/
theorem SI.zmore (I : SI K Γ n σ H Z) {a : Addr} (ha : H a ≠ none) (hs : ∀ j, flag Γ j = .own → isL n j = true → σ[j]? ≠ some (some (.ref a))) : SI K Γ n σ H (fun p => Z p ∨ p = a) := by
  have m : ∀ d v, Rp K H Z d v → Rp K H (fun p => Z p ∨ p = a) d v := Rp.mono (fun p h => .inl h) (fun _ _ _ e => e)
  have mL : ∀ d v, RpL K H Z d v → RpL K H (fun p => Z p ∨ p = a) d v := RpL.mono (fun p h => .inl h) (fun _ _ _ e => e)
  refine ⟨I.len, fun i d hd => ?_, I.sep, I.sepB, fun p h => ?_⟩
  · obtain ⟨v, e, r⟩ := I.slot i d hd
    refine ⟨v, e, ?_⟩
    cases hf : flag Γ i with
    | frz => rw [hf] at r; exact m _ _ r
    | own =>
      rw [hf] at r
      show RpO K H _ d v
      cases d with
      | lst l =>
        obtain ⟨b, xs, rfl, nz, hb, r⟩ := r
        refine ⟨b, xs, rfl, fun z => ?_, hb, mL _ _ r⟩
        rcases z with z | z
        · exact nz z
        · exact hs i hf (isL_iff.mpr ⟨l, hd⟩) (z ▸ e)
      | _ => exact m _ _ r
    | brw =>
      rw [hf] at r
      show RpB K H _ d v
      cases d with
      | lst l =>
        obtain ⟨b, xs, rfl, q, r⟩ := r
        exact ⟨b, xs, rfl, q, mL _ _ r⟩
      | _ => exact m _ _ r
  · rcases h with h | h
    · exact I.zok p h
    · subst h; exact ha
/-- a value is taken in: it stays from now on -/
theorem Val.eat (I : SI K Γ n' σ H' Z') (I0 : SI K Γ n σ H Z) (kn : KN n n') {W : AP1} (f : Fr W H Z H' Z') {m : Fg} {b : List Nat} {d : D} {v : V} (h : Val K Γ m b n' σ H H' Z' d v) (hm : m ≠ .brw) :
    ∃ Z2, SI K Γ n' σ H' Z2 ∧ Fr W H Z H' Z2 ∧ Rp K H' Z2 d v ∧ (∀ p, Z' p → Z2 p) ∧ ∀ p, Z2 p → Z' p ∨ H p = none := by
  cases m with
  | brw => exact absurd rfl hm
  | frz => exact ⟨Z', I, f, h.fz rfl, fun _ h => h, fun _ h => .inl h⟩
  | own =>
    obtain ⟨o, hn⟩ := h.ow rfl
    cases d with
    | lst l =>
      obtain ⟨a, xs, rfl, nz, ha, r⟩ := o
      have hna := hn l a rfl rfl
      refine ⟨fun p => Z' p ∨ p = a, I.zmore (by rw [ha]; simp) fun j hf hl hp => ?_, ⟨fun p z => .inl (f.zz p z), f.keep, fun p z => ?_, f.there⟩, ?_, fun p z => .inl z, fun p z => ?_⟩
      · obtain ⟨_, _, ys, _, e, _⟩ := I0.own hf ((kn j).symm.trans hl) hp
        rw [hna] at e; cases e
      · rcases z with z | z
        · exact f.new p z
        · subst z; exact .inr (.inr hna)
      · simp only [Rp]
        exact ⟨a, xs, rfl, .inr rfl, ha, RpL.mono (fun p z => .inl z) (fun _ _ _ e => e) l xs r⟩
      · rcases z with z | z
        · exact .inl z
        · subst z; exact .inr hna
    | _ => exact ⟨Z', I, f, o, fun _ h => h, fun _ h => .inl h⟩
end
end Sc
namespace Sc
open PySem PySem.Spec PyProof.Rows L2

theorem big_eq : big = sizeLine := by rw [sizeLine_eq]; rfl
/-- what an operation makes -/
inductive Made (K : PySem.W.Frag) (H : Hp) (Z : AP1) (d : D) : V → Hp → AP1 → Prop where
  | same {v : V} : (∀ l, d ≠ .lst l) → Rp K H Z d v → Made K H Z d v H Z
  | tup {l : List D} {xs : List V} {p : Addr} : d = .tup l → H p = none → RpL K H Z l xs → Made K H Z d (.ref p) (upd H p (.tup xs)) (fun q => Z q ∨ q = p)
  | lst {l : List D} {xs : List V} {p : Addr} : d = .lst l → H p = none → RpL K H Z l xs → Made K H Z d (.ref p) (upd H p (.lst xs)) Z
section
variable {K : PySem.W.Frag} {Γ : List Fg} {n n' n2 : Env} {σ : L2.St} {H H' H1 H2 : Hp} {Z Z' Z1 Z2 : AP1}
theorem fr_laid {W : AP1} {p : Addr} {o : HO} (hp : H p = none) : Fr W H Z (upd H p o) Z :=
  ⟨fun _ h => h, fun a ob e _ => by rw [upd_ne (ne_of_none e hp)]; exact e, fun _ h => .inl h, fun a h => by
    by_cases e : a = p
    · subst e; exact absurd hp h
    · rw [upd_ne e]; exact h⟩
theorem fr_laidZ {W : AP1} {p : Addr} {o : HO} (hp : H p = none) : Fr W H Z (upd H p o) (fun q => Z q ∨ q = p) :=
  ⟨fun _ h => .inl h, (fr_laid (W := W) (Z := Z) hp).keep, fun a h => h.elim .inl fun e => by subst e; exact .inr (.inr hp), (fr_laid (W := W) (Z := Z) hp).there⟩
theorem Rp.fr {W : AP1} (f : Fr W H Z H' Z') (hW : ∀ p, W p → ¬ Z p) {d : D} {v : V} (h : Rp K H Z d v) : Rp K H' Z' d v := Rp.mono f.zz (f.zkeep hW) d v h
theorem RpL.fr {W : AP1} (f : Fr W H Z H' Z') (hW : ∀ p, W p → ¬ Z p) {d : List D} {v : List V} (h : RpL K H Z d v) : RpL K H' Z' d v := RpL.mono f.zz (f.zkeep hW) d v h
/-- a state where nothing of the own lists was written -/
theorem SI.fr {W : AP1} (I : SI K Γ n σ H Z) (f : Fr W H Z H' Z') (hW : ∀ p, ¬ W p) (hz : ∀ p, Z' p → H' p ≠ none) : SI K Γ n σ H' Z' := by
  have m : ∀ {d v}, Rp K H Z d v → Rp K H' Z' d v := fun h => h.fr f fun p w => absurd w (hW p)
  have mL : ∀ {d v}, RpL K H Z d v → RpL K H' Z' d v := fun h => h.fr f fun p w => absurd w (hW p)
  refine ⟨I.len, fun i d hd => ?_, I.sep, I.sepB, hz⟩
  obtain ⟨v, e, r⟩ := I.slot i d hd
  refine ⟨v, e, ?_⟩
  cases hf : flag Γ i with
  | frz => rw [hf] at r; exact m r
  | own =>
    rw [hf] at r
    show RpO K H' Z' d v
    cases d with
    | lst l =>
      obtain ⟨b, xs, rfl, nz, hb, r⟩ := r
      refine ⟨b, xs, rfl, fun z => ?_, f.keep b _ hb (hW b), mL r⟩
      rcases f.new b z with z | z | z
      · exact nz z
      · exact hW b z
      · rw [hb] at z; cases z
    | _ => exact m r
  | brw =>
    rw [hf] at r
    show RpB K H' Z' d v
    cases d with
    | lst l =>
      obtain ⟨b, xs, rfl, q, r⟩ := r
      exact ⟨b, xs, rfl, f.keep b _ q (hW b), mL r⟩
    | _ => exact m r
theorem Made.si {d : D} {v : V} (I : SI K Γ n σ H Z) (m : Made K H Z d v H' Z') : SI K Γ n σ H' Z' ∧ Fr (fun _ => False) H Z H' Z' ∧ Val K Γ .own [] n σ H H' Z' d v := by
  cases m with
  | same h r => exact ⟨I, Fr.refl, Val.plain I h r⟩
  | tup e hp r =>
    subst e
    rename_i l xs p
    have f := fr_laidZ (W := fun _ => False) (Z := Z) (o := .tup xs) hp
    have I2 := I.fr f (fun _ h => h) (fun p h => by
      rcases h with h | h
      · exact f.there p (I.zok p h)
      · subst h; rw [upd_same]; simp)
    refine ⟨I2, f, Val.plain I2 (fun l e => by cases e) ?_⟩
    simp only [Rp]
    exact ⟨_, _, rfl, .inl ⟨.inr rfl, upd_same⟩, r.fr f fun _ h => h.elim⟩
  | lst e hp r =>
    subst e
    rename_i l xs p
    have f := fr_laid (W := fun _ => False) (Z := Z) (o := .lst xs) hp
    have I2 := I.fr f (fun _ h => h) (fun p h => f.there p (I.zok p h))
    exact ⟨I2, f, Val.fresh I2 I KN.refl (fun z => I.zok _ z hp) upd_same hp (r.fr f fun _ h => h.elim)⟩
end

/-! ### operators -/
def ZOk (H : Hp) (Z : AP1) : Prop := ∀ p, Z p → H p ≠ none
def OpG (X : Cx) (f : Value → Value → Sem Value) (g : D → D → Option D) : Prop := ∃ r : R2, OpR X f r ∧ ∀ (H : Hp) (Z : AP1) (dx dy d : D) (x y : V), ZOk H Z → g dx dy = some d → RpB X.K H Z dx x → RpB X.K H Z dy y →
  ∀ Q : VK, (∀ v H' Z', Made X.K H Z d v H' Z' → Q v H') → r x y H Q
theorem made_int {K : PySem.W.Frag} {H : Hp} {Z : AP1} {i : Int} : Made K H Z (.int i) (.int i) H Z := .same (fun l e => by cases e) (by simp only [Rp])
theorem made_bl {K : PySem.W.Frag} {H : Hp} {Z : AP1} {i : Bool} : Made K H Z (.bl i) (.bl i) H Z := .same (fun l e => by cases e) (by simp only [Rp])
theorem made_str {K : PySem.W.Frag} {H : Hp} {Z : AP1} {i : Str} : Made K H Z (.str i) (.str i) H Z := .same (fun l e => by cases e) (by simp only [Rp])
section
variable {X : Cx}
theorem rpb_int {K : PySem.W.Frag} {H : Hp} {Z : AP1} {i : Int} {v : V} (h : RpB K H Z (.int i) v) : v = .int i := by simpa [RpB, Rp] using h
theorem rpb_bl {K : PySem.W.Frag} {H : Hp} {Z : AP1} {i : Bool} {v : V} (h : RpB K H Z (.bl i) v) : v = .bl i := by simpa [RpB, Rp] using h
theorem rpb_str {K : PySem.W.Frag} {H : Hp} {Z : AP1} {i : Str} {v : V} (h : RpB K H Z (.str i) v) : v = .str i := by simpa [RpB, Rp] using h
theorem rpb_non {K : PySem.W.Frag} {H : Hp} {Z : AP1} {v : V} (h : RpB K H Z .non v) : v = .non := by simpa [RpB, Rp] using h
theorem rpb_tup {K : PySem.W.Frag} {H : Hp} {Z : AP1} {l : List D} {v : V} (h : RpB K H Z (.tup l) v) : ∃ a xs, v = .ref a ∧ TupZ K H Z a xs ∧ RpL K H Z l xs := by simpa only [RpB, Rp] using h
theorem rpb_lst {K : PySem.W.Frag} {H : Hp} {Z : AP1} {l : List D} {v : V} (h : RpB K H Z (.lst l) v) : ∃ a xs, v = .ref a ∧ H a = some (.lst xs) ∧ RpL K H Z l xs := h
theorem rpb_ty {K : PySem.W.Frag} {H : Hp} {Z : AP1} {n : String} {v : V} (h : RpB K H Z (.ty n) v) : v = .ty n := by simpa [RpB, Rp] using h
theorem rp_tup {K : PySem.W.Frag} {H : Hp} {Z : AP1} {l : List D} {a : Addr} {xs : List V} (h : TupZ K H Z a xs) (r : RpL K H Z l xs) : Rp K H Z (.tup l) (.ref a) := by
  simp only [Rp]; exact ⟨a, xs, rfl, h, r⟩
theorem rpl_nil {K : PySem.W.Frag} {H : Hp} {Z : AP1} {l : List D} {xs : List V} (r : RpL K H Z l xs) : xs = [] ↔ l = [] := by
  have := r.len
  constructor
  · intro e; subst e; exact List.eq_nil_of_length_eq_zero this
  · intro e; subst e; exact List.eq_nil_of_length_eq_zero this.symm

theorem og_add : OpG X (binaryOp .Add) (binD .add) := by
  refine ⟨_, op_add.or (op_add_str.or (op_catA.or op_cat)), fun H Z dx dy d x y zk e hx hy Q q => ?_⟩
  cases dx <;> cases dy <;> simp only [binD, reduceCtorEq] at e
  case int.int i j =>
    cases e
    rw [rpb_int hx, rpb_int hy]
    exact .inl ⟨i, j, rfl, rfl, q _ _ _ made_int⟩
  case str.str i j =>
    split at e
    · rename_i hz
      cases e
      rw [rpb_str hx, rpb_str hy]
      exact .inr (.inl ⟨i, j, rfl, rfl, by rw [← big_eq]; exact hz, q _ _ _ made_str⟩)
    · cases e
  case tup.tup l m =>
    split at e
    · rename_i hz
      cases e
      obtain ⟨a, xs, rfl, ta, ra⟩ := rpb_tup hx
      obtain ⟨b, ys, rfl, tb, rb⟩ := rpb_tup hy
      refine .inr (.inr (.inl ⟨a, b, xs, ys, rfl, rfl, ta.sq, tb.sq, ?_, fun e => ?_, fun _ e => ?_, fun _ _ p hp => ?_⟩))
      · rw [← ra.len, ← rb.len, ← big_eq]; exact hz
      · refine q _ _ _ (.same (fun l e => by cases e) (rp_tup tb ?_))
        rw [(rpl_nil ra).mp e]; exact rb
      · refine q _ _ _ (.same (fun l e => by cases e) (rp_tup ta ?_))
        rw [(rpl_nil rb).mp e, List.append_nil]; exact ra
      · exact q _ _ _ (.tup rfl hp (ra.app rb))
    · cases e
  case lst.lst l m =>
    split at e
    · rename_i hz
      cases e
      obtain ⟨a, xs, rfl, ta, ra⟩ := rpb_lst hx
      obtain ⟨b, ys, rfl, tb, rb⟩ := rpb_lst hy
      refine .inr (.inr (.inr ⟨a, b, xs, ys, rfl, rfl, ta, tb, ?_, fun p hp => q _ _ _ (.lst rfl hp (ra.app rb))⟩))
      rw [← ra.len, ← rb.len, ← big_eq]; exact hz
    · cases e
theorem og_sub : OpG X (binaryOp .Sub) (binD .sub) := by
  refine ⟨_, op_sub, fun H Z dx dy d x y zk e hx hy Q q => ?_⟩
  cases dx <;> cases dy <;> simp only [binD, reduceCtorEq] at e
  cases e
  rw [rpb_int hx, rpb_int hy]
  exact ⟨_, _, rfl, rfl, q _ _ _ made_int⟩
theorem rpl_rep {K : PySem.W.Frag} {H : Hp} {Z : AP1} {l : List D} {xs : List V} (r : RpL K H Z l xs) : ∀ k : Nat, RpL K H Z (List.replicate k l).flatten (List.replicate k xs).flatten
  | 0 => by simp; exact RpL.nil
  | k + 1 => by rw [List.replicate_succ, List.replicate_succ, List.flatten_cons, List.flatten_cons]; exact r.app (rpl_rep r k)
theorem cmul_of {i j : Int} (h : mulOk i j = true) : CMul i j ∨ CMulW i j := by
  unfold mulOk at h
  simp only [Bool.or_eq_true, decide_eq_true_eq] at h
  rcases h with (h | h) | h
  · exact .inl (.inl ⟨by omega, by omega⟩)
  · exact .inl (.inr ⟨by omega, by omega⟩)
  · exact .inr (wide_mul h.1 h.2 (by decide) (by decide) (by decide))
theorem tuple_mul1 (l : Addr) (items : Array Value) (n : Nat) (dd : Option Addr) (sl : Array (Option Value)) (u : Tok) :
    Meets (Builtin.«tuple.__mul__» ⟨[.ref l, .int 1 u], []⟩) (fun _ R s => s.heap.get? l = some { cls := .type "tuple", dict := dd, data := .seq items n, slots := sl } ∧
      R (.ok (.ret (Value.ref l))) s) :=
  .of_wp fun prog w A R s h => by
    obtain ⟨hp, g, d, tk, os⟩ := s
    obtain ⟨hl, h⟩ := h
    have f1 := AutoSeq1.idx_int
    have c1 : (items.isEmpty || ((1 : Int) == 1)) = true := by simp
    wp_walk using wpAny_loadPart' hl
    exact ⟨_, rfl, h⟩
def rRepT1 (K : PySem.W.Frag) : R2 := fun x y H Q => ∃ l xs, x = .ref l ∧ y = .int 1 ∧ SqT K H l xs ∧ Q (.ref l) H
theorem op_repT1 : OpR X (binaryOp .Mult) (rRepT1 X.K) := by
  intro pins s σ H x y v u Q I rx ry h
  obtain ⟨l, xs, rfl, rfl, hT, q⟩ := h
  cases rx
  obtain ⟨t, rfl⟩ := ry
  obtain ⟨its, r, ⟨⟨cls, dd, data, sl⟩, ho, hc, n, hd⟩, hs⟩ := I.tuple hT
  simp only at hc hd
  subst hc hd
  refine wpAny_binaryOp_repeat_ref (T := "tuple") (U := "int") (by decide) ⟨_, ho, rfl⟩ (fun s' => typeIs_int s' 1 t) noFill_tuple_mul F.fills_int_mul F.slot_int_rmul repeat_tuple F.slot_int_index.lookup
    (call_meets F.slot_int_rmul (typeIs_int s 1 t) F.entry_int_rmul (F.args_int_rmul_2 _ _) (int_rmul_tuple 1 t l its.toArray n dd sl)
      ⟨ho, rfl, ⟨_, ho, rfl⟩, call_meets F.slot_tuple_mul ⟨_, ho, rfl⟩ F.entry_tuple_mul (F.args_tuple_mul_2 _ _) (tuple_mul1 l its.toArray n dd sl t) ⟨ho, ?_⟩⟩)
  exact ⟨.ref l, H, I, rfl, q⟩
theorem og_mul : OpG X (binaryOp .Mult) (binD .mul) := by
  refine ⟨_, op_mul.or (op_mulW.or (op_rep.or (op_repT.or op_repT1))), fun H Z dx dy d x y zk e hx hy Q q => ?_⟩
  cases dx <;> cases dy <;> simp only [binD, reduceCtorEq] at e
  case int.int i j =>
    split at e
    · rename_i hz
      cases e
      rw [rpb_int hx, rpb_int hy]
      rcases cmul_of hz with c | c
      · exact .inl ⟨i, j, rfl, rfl, c, q _ _ _ made_int⟩
      · exact .inr (.inl ⟨i, j, rfl, rfl, c, q _ _ _ made_int⟩)
    · cases e
  case lst.int l k =>
    split at e
    · rename_i hz
      cases e
      obtain ⟨a, xs, rfl, ta, ra⟩ := rpb_lst hx
      rw [rpb_int hy]
      refine .inr (.inr (.inl ⟨a, k, xs, rfl, rfl, ta, by omega, by omega, ?_, fun p hp => q _ _ _ (.lst rfl hp (rpl_rep ra _))⟩))
      rw [← ra.len, ← big_eq]; exact hz.2
    · cases e
  case tup.int l k =>
    split at e
    · rename_i hz
      cases e
      obtain ⟨a, xs, rfl, ta, ra⟩ := rpb_tup hx
      rw [rpb_int hy]
      have hl := ra.len
      by_cases h1 : k = 1
      · subst h1
        refine .inr (.inr (.inr (.inr ⟨a, xs, rfl, rfl, ta.sq, q _ _ _ (.same (fun l e => by cases e) ?_)⟩)))
        have e : (List.replicate (1 : Int).toNat l).flatten = l := by simp
        rw [e]
        exact rp_tup ta ra
      · refine .inr (.inr (.inr (.inl ⟨a, k, xs, rfl, rfl, ta.sq, ?_, by omega, hz.2.1, by omega, fun p hp => q _ _ _ (.tup rfl hp (rpl_rep ra _))⟩)))
        intro e; subst e; rw [List.length_nil] at hl; omega
    · cases e
theorem og_fdiv : OpG X (binaryOp .FloorDiv) (binD .fdiv) := by
  refine ⟨_, op_fdivW, fun H Z dx dy d x y zk e hx hy Q q => ?_⟩
  cases dx <;> cases dy <;> simp only [binD, reduceCtorEq] at e
  split at e
  · rename_i hz
    cases e
    rw [rpb_int hx, rpb_int hy]
    exact ⟨_, _, rfl, rfl, wide_div hz.1 hz.2 (by decide) (by decide), q _ _ _ made_int⟩
  · cases e
theorem og_mod : OpG X (binaryOp .Mod) (binD .mod) := by
  refine ⟨_, op_mod, fun H Z dx dy d x y zk e hx hy Q q => ?_⟩
  cases dx <;> cases dy <;> simp only [binD, reduceCtorEq] at e
  split at e
  · rename_i hz
    cases e
    rw [rpb_int hx, rpb_int hy]
    exact ⟨_, _, rfl, rfl, hz, q _ _ _ made_int⟩
  · cases e
theorem og_pow : OpG X (binaryOp .Pow) (binD .pow) := by
  refine ⟨_, op_pow, fun H Z dx dy d x y zk e hx hy Q q => ?_⟩
  cases dx <;> cases dy <;> simp only [binD, reduceCtorEq] at e
  split at e
  · rename_i hz
    cases e
    rw [rpb_int hx, rpb_int hy]
    exact ⟨_, _, rfl, rfl, ⟨hz.1, by omega, hz.2.2⟩, q _ _ _ made_int⟩
  · cases e
theorem og_bin {o : Bop} {p : Operator} (h : bopB o p = true) : OpG X (binaryOp p) (binD o) := by
  cases o <;> cases p <;> first | exact Bool.noConfusion h | exact og_add | exact og_sub | exact og_mul | exact og_fdiv | exact og_mod | exact og_pow

/-! ### comparisons -/
mutual
theorem fit_lay : ∀ (k : Nat) (d : D), fit k d = true → d.isPy = true → PyData.canLay0 d.py = true ∧ PyData.depth d.py ≤ k
  | 0, d, h, _ => by simp [fit] at h
  | k + 1, .non, _, _ => by simp [D.py, PyData.canLay0, PyData.depth]
  | k + 1, .bl _, _, _ => by simp [D.py, PyData.canLay0, PyData.depth]
  | k + 1, .int _, _, _ => by simp [D.py, PyData.canLay0, PyData.depth]
  | k + 1, .str s, h, _ => by simp only [fit] at h; simp [D.py, PyData.canLay0, PyData.depth, h]
  | k + 1, .ty _, h, _ => by simp [fit] at h
  | k + 1, .fn _, h, _ => by simp [fit] at h
  | k + 1, .scr _, h, _ => by simp [fit] at h
  | k + 1, .tup l, h, p => by
    simp only [fit] at h
    simp only [D.isPy] at p
    have := fitL_lay k l h p
    simp only [D.py, PyData.canLay0, PyData.depth]
    exact ⟨this.1, by omega⟩
  | k + 1, .lst l, h, p => by
    simp only [fit] at h
    simp only [D.isPy] at p
    have := fitL_lay k l h p
    simp only [D.py, PyData.canLay0, PyData.depth]
    exact ⟨this.1, by omega⟩
theorem fitL_lay : ∀ (k : Nat) (l : List D), fitL k l = true → isPyL l = true → PyData.canLayAll0 (pyL l) = true ∧ PyData.depthAll (pyL l) ≤ k
  | k, [], _, _ => by simp [pyL, PyData.canLayAll0, PyData.depthAll]
  | k, d :: r, h, p => by
    simp only [fitL, Bool.and_eq_true] at h
    simp only [isPyL, Bool.and_eq_true] at p
    have h1 := fit_lay k d h.1 p.1
    have h2 := fitL_lay k r h.2 p.2
    simp only [pyL, PyData.canLayAll0, PyData.depthAll, Bool.and_eq_true]
    exact ⟨⟨h1.1, h2.1⟩, by omega⟩
end
theorem fit_shaped {k : Nat} {d : D} (hk : k ≤ 64) (h : fit k d = true) (p : d.isPy = true) : SeqAt.shaped d.py = true := by
  have := fit_lay k d h p
  simp only [SeqAt.shaped, Bool.and_eq_true, decide_eq_true_eq]
  exact ⟨this.1, by omega⟩
theorem og_eq (hu : X.A.units + 64 < cLine) : OpG X (compareOp .Eq) (fun a b => (eqD a b).map .bl) := by
  refine ⟨_, op_eq.or (op_eqD hu), fun H Z dx dy d x y zk e hx hy Q q => ?_⟩
  obtain ⟨b1, e1, rfl⟩ := Option.map_eq_some_iff.mp e
  clear e
  have e := e1
  unfold eqD at e
  split at e
  · rename_i i j
    cases e
    rw [rpb_int hx, rpb_int hy]
    refine .inl ⟨rfl, ?_⟩
    have : decide (V.int i = V.int j) = decide (i = j) := by simp
    rw [this]
    exact q _ _ _ made_bl
  · rename_i i j
    cases e
    rw [rpb_str hx, rpb_str hy]
    refine .inl ⟨rfl, ?_⟩
    have : decide (V.str i = V.str j) = decide (i = j) := by simp
    rw [this]
    exact q _ _ _ made_bl
  · split at e
    · rename_i h
      cases e
      simp only [Bool.and_eq_true] at h
      obtain ⟨⟨⟨h1, h2⟩, h3⟩, h4⟩ := h
      exact .inr ⟨_, _, hx.dp h1, hy.dp h2, fit_shaped (by decide) h3 h1, fit_shaped (by decide) h4 h2, q _ _ _ made_bl⟩
    · cases e
theorem og_ne (hu : X.A.units + 64 < cLine) : OpG X (compareOp .NotEq) (fun a b => ((eqD a b).map (!·)).map .bl) := by
  refine ⟨_, op_ne.or (op_neD hu), fun H Z dx dy d x y zk e hx hy Q q => ?_⟩
  obtain ⟨b1, e1, rfl⟩ := Option.map_eq_some_iff.mp e
  obtain ⟨b2, e2, rfl⟩ := Option.map_eq_some_iff.mp e1
  clear e e1
  have e := e2
  unfold eqD at e
  split at e
  · rename_i i j
    cases e
    rw [rpb_int hx, rpb_int hy]
    refine .inl ⟨rfl, ?_⟩
    have : decide (V.int i = V.int j) = decide (i = j) := by simp
    rw [this]
    exact q _ _ _ made_bl
  · rename_i i j
    cases e
    rw [rpb_str hx, rpb_str hy]
    refine .inl ⟨rfl, ?_⟩
    have : decide (V.str i = V.str j) = decide (i = j) := by simp
    rw [this]
    exact q _ _ _ made_bl
  · split at e
    · rename_i h
      cases e
      simp only [Bool.and_eq_true] at h
      obtain ⟨⟨⟨h1, h2⟩, h3⟩, h4⟩ := h
      exact .inr ⟨_, _, hx.dp h1, hy.dp h2, fit_shaped (by decide) h3 h1, fit_shaped (by decide) h4 h2, q _ _ _ made_bl⟩
    · cases e
theorem lexI_ok {K : PySem.W.Frag} {H : Hp} {Z : AP1} : ∀ {l m : List D} {xs ys : List V} {b : Bool}, lexI l m = some b → RpL K H Z l xs → RpL K H Z m ys →
    ∃ ns ms : List Int, xs = ns.map V.int ∧ ys = ms.map V.int ∧ HT.lexLt ns ms = b
  | [], [], xs, ys, b, h, hx, hy => by
    rw [hx.inv0, hy.inv0]
    simp only [lexI, Option.some.injEq] at h
    exact ⟨[], [], rfl, rfl, h⟩
  | [], d :: r, xs, ys, b, h, hx, hy => by
    obtain ⟨y, ys, rfl, hy1, hy2⟩ := hy.inv
    cases d <;> simp only [lexI, reduceCtorEq] at h
    obtain ⟨c, h1, rfl⟩ := Option.map_eq_some_iff.mp h
    obtain ⟨ns, ms, e1, e2, _⟩ := lexI_ok h1 hx hy2
    rw [show y = V.int _ from by simpa only [Rp] using hy1, e2, hx.inv0]
    exact ⟨[], _ :: ms, rfl, rfl, rfl⟩
  | d :: r, [], xs, ys, b, h, hx, hy => by
    obtain ⟨y, ys, rfl, hy1, hy2⟩ := hx.inv
    cases d <;> simp only [lexI, reduceCtorEq] at h
    obtain ⟨c, h1, rfl⟩ := Option.map_eq_some_iff.mp h
    obtain ⟨ns, ms, e1, e2, _⟩ := lexI_ok h1 hy2 hy
    rw [show y = V.int _ from by simpa only [Rp] using hy1, e1, hy.inv0]
    exact ⟨_ :: ns, [], rfl, rfl, rfl⟩
  | d :: r, d' :: s, xs, ys, b, h, hx, hy => by
    obtain ⟨x, xs, rfl, hx1, hx2⟩ := hx.inv
    obtain ⟨y, ys, rfl, hy1, hy2⟩ := hy.inv
    cases d <;> cases d' <;> simp only [lexI, reduceCtorEq] at h
    rename_i i j
    obtain ⟨c, h1, rfl⟩ := Option.map_eq_some_iff.mp h
    obtain ⟨ns, ms, e1, e2, e3⟩ := lexI_ok h1 hx2 hy2
    rw [show x = V.int _ from by simpa only [Rp] using hx1, show y = V.int _ from by simpa only [Rp] using hy1, e1, e2]
    refine ⟨i :: ns, j :: ms, rfl, rfl, ?_⟩
    rw [HT.lexLt_cons, e3]
theorem og_lt (hu : X.A.units < cLine) : OpG X (compareOp .Lt) (fun a b => (cmpD .lt a b).map .bl) := by
  refine ⟨_, op_lt.or (op_ltT hu), fun H Z dx dy d x y zk e hx hy Q q => ?_⟩
  obtain ⟨b, e1, rfl⟩ := Option.map_eq_some_iff.mp e
  clear e
  have e : ltD dx dy = some b := e1
  clear e1
  unfold ltD at e
  split at e
  · cases e
    rw [rpb_int hx, rpb_int hy]
    exact .inl ⟨_, _, rfl, rfl, q _ _ _ made_bl⟩
  · obtain ⟨a, xs, rfl, ta, ra⟩ := rpb_tup hx
    obtain ⟨c, ys, rfl, tb, rb⟩ := rpb_tup hy
    obtain ⟨ns, ms, rfl, rfl, e3⟩ := lexI_ok e ra rb
    refine .inr ⟨a, c, ns, ms, rfl, rfl, ta.sq, tb.sq, ?_⟩
    rw [e3]
    exact q _ _ _ made_bl
  · cases e
theorem og_int {op : CmpOp} {o : Cop} {f : Int → Int → Bool} (h : OpR X (compareOp op) (rI0 fun i j => .bl (f i j))) (h2 : ∀ a b c, cmpD o a b = some c → ∃ i j, a = .int i ∧ b = .int j ∧ c = f i j) : OpG X (compareOp op) (fun a b => (cmpD o a b).map .bl) := by
  refine ⟨_, h, fun H Z dx dy d x y zk e hx hy Q q => ?_⟩
  obtain ⟨b, e1, rfl⟩ := Option.map_eq_some_iff.mp e
  obtain ⟨i, j, rfl, rfl, rfl⟩ := h2 _ _ _ e1
  rw [rpb_int hx, rpb_int hy]
  exact ⟨i, j, rfl, rfl, q _ _ _ made_bl⟩
theorem og_le : OpG X (compareOp .LtE) (fun a b => (cmpD .le a b).map .bl) := og_int op_le fun a b c h => by
  have h : leD a b = some c := h
  unfold leD at h
  split at h <;> cases h
  exact ⟨_, _, rfl, rfl, rfl⟩
theorem og_gt : OpG X (compareOp .Gt) (fun a b => (cmpD .gt a b).map .bl) := og_int op_gt fun a b c h => by
  have h : gtD a b = some c := h
  unfold gtD at h
  split at h <;> cases h
  exact ⟨_, _, rfl, rfl, rfl⟩
theorem og_ge : OpG X (compareOp .GtE) (fun a b => (cmpD .ge a b).map .bl) := og_int op_ge fun a b c h => by
  have h : geD a b = some c := h
  unfold geD at h
  split at h <;> cases h
  exact ⟨_, _, rfl, rfl, rfl⟩
theorem non_iff {K : PySem.W.Frag} {H : Hp} {Z : AP1} {d : D} {v : V} (h : RpB K H Z d v) : decide (v = .non) = isNonD d := by
  cases d with
  | non => rw [rpb_non h]; rfl
  | bl b => rw [rpb_bl h]; rfl
  | int b => rw [rpb_int h]; rfl
  | str b => rw [rpb_str h]; rfl
  | ty b => rw [rpb_ty h]; rfl
  | fn b => simp only [RpB, Rp] at h
  | tup l => obtain ⟨a, xs, rfl, _⟩ := rpb_tup h; rfl
  | lst l => obtain ⟨a, xs, rfl, _⟩ := h; rfl
  | scr l => simp only [RpB, Rp] at h; obtain ⟨a, xs, rfl, _⟩ := h; rfl
theorem og_is : OpG X (compareOp .Is) (fun a b => (cmpD .is_ a b).map .bl) := by
  refine ⟨_, op_isN.or op_isBl, fun H Z dx dy d x y zk e hx hy Q q => ?_⟩
  obtain ⟨b, e1, rfl⟩ := Option.map_eq_some_iff.mp e
  have e2 : isD dx dy = some b := e1
  unfold isD at e2
  split at e2
  · refine .inl ⟨rpb_non hy, ?_⟩
    cases e2
    rw [non_iff hx]
    exact q _ _ _ made_bl
  · cases e2
    rw [rpb_bl hx, rpb_bl hy]
    exact .inr ⟨_, _, rfl, rfl, q _ _ _ made_bl⟩
  · cases e2
theorem og_isn : OpG X (compareOp .IsNot) (fun a b => (cmpD .isn a b).map .bl) := by
  refine ⟨_, op_notN.or op_notBl, fun H Z dx dy d x y zk e hx hy Q q => ?_⟩
  obtain ⟨b, e1, rfl⟩ := Option.map_eq_some_iff.mp e
  obtain ⟨b2, e2, rfl⟩ := Option.map_eq_some_iff.mp (show (isD dx dy).map (!·) = some b from e1)
  unfold isD at e2
  split at e2
  · refine .inl ⟨rpb_non hy, ?_⟩
    cases e2
    rw [non_iff hx]
    exact q _ _ _ made_bl
  · cases e2
    rw [rpb_bl hx, rpb_bl hy]
    exact .inr ⟨_, _, rfl, rfl, q _ _ _ made_bl⟩
  · cases e2
theorem flat_v {K : PySem.W.Frag} {H : Hp} {Z : AP1} {d : D} {v : V} (f : flatD d = true) (h : Rp K H Z d v) : flatV v = true := by
  cases d <;> simp only [flatD, Bool.false_eq_true] at f <;> simp only [Rp] at h <;> subst h <;> rfl
theorem flat_eq {K : PySem.W.Frag} {H : Hp} {Z : AP1} {d e : D} {v u : V} (f : flatD d = true) (g : flatD e = true) (h : Rp K H Z d v) (k : Rp K H Z e u) : eqV v u = PyData.eqv d.py e.py := by
  cases d <;> simp only [flatD, Bool.false_eq_true] at f <;> simp only [Rp] at h <;> subst h <;>
    cases e <;> simp only [flatD, Bool.false_eq_true] at g <;> simp only [Rp] at k <;> subst k <;> simp [eqV, PyData.eqv, D.py]
theorem flat_any {K : PySem.W.Frag} {H : Hp} {Z : AP1} {e : D} {u : V} (g : flatD e = true) (k : Rp K H Z e u) : ∀ {l : List D} {xs : List V}, l.all flatD = true → RpL K H Z l xs → xs.all flatV = true ∧ inV u xs = l.any fun z => PyData.eqv z.py e.py
  | [], xs, _, r => by rw [r.inv0]; exact ⟨rfl, rfl⟩
  | d :: l, xs, f, r => by
    obtain ⟨x, ys, rfl, h1, h2⟩ := r.inv
    simp only [List.all_cons, Bool.and_eq_true] at f
    have ih := flat_any g k f.2 h2
    refine ⟨by simp only [List.all_cons, flat_v f.1 h1, ih.1, Bool.and_self], ?_⟩
    have i2 : (ys.any fun y => eqV y u) = l.any fun z => PyData.eqv z.py e.py := ih.2
    show ((x :: ys).any fun y => eqV y u) = _
    rw [List.any_cons, List.any_cons, flat_eq f.1 g h1 k, i2]
theorem rpb_flat {K : PySem.W.Frag} {H : Hp} {Z : AP1} {d : D} {v : V} (f : flatD d = true) (h : RpB K H Z d v) : Rp K H Z d v := by
  cases d <;> simp only [flatD, Bool.false_eq_true] at f <;> exact h
theorem any_pyL (f : PyData → Bool) : ∀ l : List D, (pyL l).any f = l.any fun z => f z.py
  | [] => rfl
  | d :: r => by rw [pyL, List.any_cons, List.any_cons, any_pyL f r]
theorem in_lst {H : Hp} {Z : AP1} {dx : D} {l : List D} {x y : V} {b : Bool} (e : inD dx (.lst l) = some b) (hx : RpB X.K H Z dx x) (hy : RpB X.K H Z (.lst l) y) : ∃ d ds, Dp X.K H x d ∧ Dp X.K H y (.list ds) ∧ SeqAt.shaped d = true ∧ SeqAt.shaped (.list ds) = true ∧ (ds.any fun z => PyData.eqv z d) = b := by
  simp only [inD] at e
  split at e
  · rename_i h
    simp only [Bool.and_eq_true] at h
    obtain ⟨⟨⟨h1, h2⟩, h3⟩, h4⟩ := h
    have dl := RpB.dp (d := .lst l) (by simpa only [D.isPy] using h3) hy
    rw [D.py] at dl
    refine ⟨_, _, hx.dp h1, dl, fit_shaped (by decide) h2 h1, ?_, ?_⟩
    · have := fit_shaped (k := 60) (d := .lst l) (by decide) (by simpa only [fit] using h4) (by simpa only [D.isPy] using h3)
      simpa only [D.py] using this
    · rw [any_pyL]
      exact Option.some.inj e
  · cases e
theorem in_tup {H : Hp} {Z : AP1} {dx : D} {l : List D} {x y : V} {b : Bool} (e : inD dx (.tup l) = some b) (hx : RpB X.K H Z dx x) (hy : RpB X.K H Z (.tup l) y) : ∃ p xs, y = .ref p ∧ (SqL X.K H p xs ∨ SqT X.K H p xs) ∧ flatV x = true ∧ xs.all flatV = true ∧ inV x xs = b := by
  simp only [inD] at e
  split at e
  · rename_i h
    simp only [Bool.and_eq_true] at h
    obtain ⟨a, xs, rfl, ta, ra⟩ := rpb_tup hy
    have hx2 := rpb_flat h.1 hx
    have z := flat_any h.1 hx2 h.2 ra
    refine ⟨a, xs, rfl, .inr ta.sq, flat_v h.1 hx2, z.1, ?_⟩
    rw [z.2]
    exact Option.some.inj e
  · cases e
theorem in_cases {dx dy : D} {b : Bool} (e : inD dx dy = some b) : (∃ l, dy = .lst l) ∨ ∃ l, dy = .tup l := by
  cases dy with
  | lst l => exact .inl ⟨l, rfl⟩
  | tup l => exact .inr ⟨l, rfl⟩
  | _ => simp [inD] at e
theorem og_in (hu : X.A.units + 65 < cLine) : OpG X (compareOp .In) (fun a b => (cmpD .in_ a b).map .bl) := by
  refine ⟨_, (op_inD hu).or op_in_seq, fun H Z dx dy d x y zk e hx hy Q q => ?_⟩
  obtain ⟨b, e1, rfl⟩ := Option.map_eq_some_iff.mp e
  have e1 : inD dx dy = some b := e1
  rcases in_cases e1 with ⟨l, rfl⟩ | ⟨l, rfl⟩
  · obtain ⟨d, ds, h1, h2, h3, h4, rfl⟩ := in_lst e1 hx hy
    exact .inl ⟨d, ds, h1, h2, h3, h4, q _ _ _ made_bl⟩
  · obtain ⟨p, xs, h1, h2, h3, h4, rfl⟩ := in_tup e1 hx hy
    exact .inr ⟨p, xs, h1, h2, h3, h4, q _ _ _ made_bl⟩
theorem og_nin (hu : X.A.units + 65 < cLine) : OpG X (compareOp .NotIn) (fun a b => (cmpD .nin a b).map .bl) := by
  refine ⟨_, (op_notInD hu).or op_notIn_seq, fun H Z dx dy d x y zk e hx hy Q q => ?_⟩
  obtain ⟨b, e1, rfl⟩ := Option.map_eq_some_iff.mp e
  obtain ⟨b2, e2, rfl⟩ := Option.map_eq_some_iff.mp (show (inD dx dy).map (!·) = some b from e1)
  rcases in_cases e2 with ⟨l, rfl⟩ | ⟨l, rfl⟩
  · obtain ⟨d, ds, h1, h2, h3, h4, rfl⟩ := in_lst e2 hx hy
    exact .inl ⟨d, ds, h1, h2, h3, h4, q _ _ _ made_bl⟩
  · obtain ⟨p, xs, h1, h2, h3, h4, rfl⟩ := in_tup e2 hx hy
    exact .inr ⟨p, xs, h1, h2, h3, h4, q _ _ _ made_bl⟩
theorem og_cmp {o : Cop} {p : CmpOp} (h : copB o p = true) (hu : X.A.units + 70 < cLine) : OpG X (compareOp p) (fun a b => (cmpD o a b).map .bl) := by
  cases o <;> cases p <;> first | exact Bool.noConfusion h | exact og_eq (by omega) | exact og_ne (by omega) | exact og_lt (by omega) | exact og_le | exact og_gt | exact og_ge | exact og_is | exact og_isn | exact og_in (by omega) | exact og_nin (by omega)
end
end Sc
namespace Sc
open PySem PySem.Spec PyProof.Rows L2
section
variable {X : Cx}
/-! ### items, slices -/
theorem at_ok {K : PySem.W.Frag} {H : Hp} {Z : AP1} {l : List D} {xs : List V} {i : Int} {d : D} (e : atD l i = some d) (r : RpL K H Z l xs) : ∃ x, atI xs i = some x ∧ Rp K H Z d x := by
  have hl := r.len
  unfold atD at e
  unfold atI ixN
  split at e
  · rename_i h0
    obtain ⟨x, e2, q⟩ := r.get e
    refine ⟨x, ?_, q⟩
    have hi := (List.getElem?_eq_some_iff.mp e2).1
    rw [if_pos h0, if_pos (by omega)]
    exact e2
  · rename_i h0
    split at e
    · rename_i h1
      obtain ⟨x, e2, q⟩ := r.get e
      refine ⟨x, ?_, q⟩
      rw [if_neg h0, if_pos (by omega), show (i + (xs.length : Int)) = ((l.length : Int) + i) by omega]
      exact e2
    · cases e
theorem ix_ok {H : Hp} {Z : AP1} {dx dy d : D} {x y : V} (e : idxD dx dy = some d) (hx : RpB X.K H Z dx x) (hy : RpB X.K H Z dy y) {Q : VK} (q : ∀ v, Rp X.K H Z d v → Q v H) : rIx X.K x y H Q := by
  unfold idxD at e
  split at e
  · rename_i l i
    obtain ⟨a, xs, rfl, ta, ra⟩ := rpb_lst hx
    rw [rpb_int hy]
    obtain ⟨v, e2, r⟩ := at_ok e ra
    exact .inl ⟨a, xs, i, v, rfl, rfl, SqL.of ta, e2, q v r⟩
  · rename_i l i
    obtain ⟨a, xs, rfl, ta, ra⟩ := rpb_tup hx
    rw [rpb_int hy]
    obtain ⟨v, e2, r⟩ := at_ok e ra
    exact .inr (.inl ⟨a, xs, i, v, rfl, rfl, ta.sq, e2, q v r⟩)
  · cases e
theorem end_ok {n : Nat} {d e : D} {k : Nat} {dn : Nat} (hd : d = .int dn) (h : endD n d e = some k) : ∃ o : Option Int, (e = .non ∧ o = none ∨ ∃ i, e = .int i ∧ o = some i) ∧ HT.sIx n dn o = k := by
  subst hd
  unfold endD at h
  split at h
  · rename_i i
    refine ⟨some i, .inr ⟨i, rfl, rfl⟩, ?_⟩
    have h := Option.some.inj h
    show (if i < 0 then (i + (n : Int)).toNat else min i.toNat n) = k
    by_cases h0 : 0 ≤ i
    · rw [if_pos h0] at h
      rw [if_neg (by omega)]; exact h
    · rw [if_neg h0] at h
      rw [if_pos (by omega), Int.add_comm]; exact h
  · refine ⟨none, .inl ⟨rfl, rfl⟩, ?_⟩
    have h := Option.some.inj h
    rw [HT.sIx_none]
    omega
  · cases h
/-- the part of a slice as the machine has it -/
def PartV (d : D) (o : Option Int) : Prop := (d = .non ∧ o = none) ∨ ∃ i, d = .int i ∧ o = some i
theorem PartV.inj {d : D} {o p : Option Int} (h : PartV d o) (k : PartV d p) : o = p := by
  rcases h with ⟨e, rfl⟩ | ⟨i, e, rfl⟩ <;> rcases k with ⟨e2, rfl⟩ | ⟨j, e2, rfl⟩
  · rfl
  · rw [e] at e2; cases e2
  · rw [e] at e2; cases e2
  · rw [e] at e2; cases e2; rfl
theorem cut_ok {K : PySem.W.Frag} {H : Hp} {Z : AP1} {l m : List D} {lo hi : D} {xs : List V} {p q : Option Int} (e : cutD l lo hi = some m) (r : RpL K H Z l xs) (hp : PartV lo p) (hq : PartV hi q) :
    RpL K H Z m (cutV xs p q) ∧ (HT.sIx xs.length 0 p = 0 ∧ HT.sIx xs.length xs.length q = xs.length → m = l) := by
  have hl := r.len
  unfold cutD at e
  obtain ⟨a, ea, e⟩ := Option.bind_eq_some_iff.mp e
  obtain ⟨b, eb, rfl⟩ := Option.map_eq_some_iff.mp e
  obtain ⟨o, ho, eo⟩ := end_ok (dn := 0) rfl ea
  obtain ⟨o2, ho2, eo2⟩ := end_ok rfl eb
  have e1 : o = p := PartV.inj ho hp
  have e2 : o2 = q := PartV.inj ho2 hq
  subst e1 e2
  unfold cutV
  rw [← hl, eo, eo2]
  refine ⟨(r.drop a).take (b - a), fun h => ?_⟩
  rw [h.1, h.2]
  simp
theorem sl_ok {H : Hp} {Z : AP1} {dx lo hi d : D} {x : V} {p q : Option Int} (zk : ZOk H Z) (e : slcD dx lo hi = some d) (hx : RpB X.K H Z dx x) (hp : PartV lo p) (hq : PartV hi q) {Q : VK} (k : ∀ v H' Z', Made X.K H Z d v H' Z' → Q v H') :
    rSlL X.K x p q H Q ∨ rSlA X.K x p q H Q := by
  unfold slcD at e
  split at e
  · obtain ⟨m, e1, rfl⟩ := Option.map_eq_some_iff.mp e
    obtain ⟨a, xs, rfl, ta, ra⟩ := rpb_lst hx
    exact .inl ⟨a, xs, rfl, SqL.of ta, fun z hz => k _ _ _ (.lst rfl hz (cut_ok e1 ra hp hq).1)⟩
  · obtain ⟨m, e1, rfl⟩ := Option.map_eq_some_iff.mp e
    obtain ⟨a, xs, rfl, ta, ra⟩ := rpb_tup hx
    obtain ⟨c1, c2⟩ := cut_ok e1 ra hp hq
    refine .inr ⟨a, xs, rfl, ta.sq, fun h => ?_, fun _ z hz => k _ _ _ (.tup rfl hz c1)⟩
    rw [c2 h] at k
    exact k _ _ _ (.same (fun l e => by cases e) (rp_tup ta ra))
  · obtain ⟨m, e1, rfl⟩ := Option.map_eq_some_iff.mp e
    simp only [RpB, Rp] at hx
    obtain ⟨a, xs, rfl, ta, ra⟩ := hx
    exact .inl ⟨a, xs, rfl, ta.sq, fun z hz => k _ _ _ (.lst rfl hz (cut_ok e1 ra hp hq).1)⟩
  · cases e

/-! ### built-in calls -/
def RpBL (K : PySem.W.Frag) (H : Hp) (Z : AP1) : List D → List V → Prop
  | [], xs => xs = []
  | d :: r, xs => ∃ x ys, xs = x :: ys ∧ RpB K H Z d x ∧ RpBL K H Z r ys
def CallG (X : Cx) (f : Value) (g : List D → Option D) : Prop := ∃ r : List V → Hp → VK → Prop, CallR X f r ∧ ∀ (H : Hp) (Z : AP1) (ds : List D) (d : D) (xs : List V), ZOk H Z → g ds = some d → RpBL X.K H Z ds xs →
  ∀ Q : VK, (∀ v H' Z', Made X.K H Z d v H' Z' → Q v H') → r xs H Q
theorem rpbl1 {K : PySem.W.Frag} {H : Hp} {Z : AP1} {d : D} {xs : List V} (h : RpBL K H Z [d] xs) : ∃ x, xs = [x] ∧ RpB K H Z d x := by
  obtain ⟨x, ys, rfl, h1, h2⟩ := h
  cases (show ys = [] from h2)
  exact ⟨x, rfl, h1⟩
theorem rpbl2 {K : PySem.W.Frag} {H : Hp} {Z : AP1} {d e : D} {xs : List V} (h : RpBL K H Z [d, e] xs) : ∃ x y, xs = [x, y] ∧ RpB K H Z d x ∧ RpB K H Z e y := by
  obtain ⟨x, ys, rfl, h1, h2⟩ := h
  obtain ⟨y, rfl, h3⟩ := rpbl1 h2
  exact ⟨x, y, rfl, h1, h3⟩
theorem CallR.or {f : Value} {r r' : List V → Hp → VK → Prop} (h : CallR X f r) (h' : CallR X f r') : CallR X f (fun xs H Q => r xs H Q ∨ r' xs H Q) := by
  intro pins s σ H xs us Q I rx q
  rcases q with q | q
  · exact h pins s σ H xs us Q I rx q
  · exact h' pins s σ H xs us Q I rx q
theorem seq_cases {d : D} {l : List D} (h : seqD d = some l) : d = .lst l ∨ d = .tup l := by
  cases d <;> simp only [seqD, reduceCtorEq, Option.some.injEq] at h
  · exact .inr (by rw [h])
  · exact .inl (by rw [h])
theorem rpb_seq {K : PySem.W.Frag} {H : Hp} {Z : AP1} {d : D} {l : List D} {v : V} (e : seqD d = some l) (h : RpB K H Z d v) : ∃ a xs, v = .ref a ∧ (SqL K H a xs ∨ SqT K H a xs) ∧ RpL K H Z l xs := by
  rcases seq_cases e with rfl | rfl
  · obtain ⟨a, xs, rfl, t, r⟩ := rpb_lst h
    exact ⟨a, xs, rfl, .inl (SqL.of t), r⟩
  · obtain ⟨a, xs, rfl, t, r⟩ := rpb_tup h
    exact ⟨a, xs, rfl, .inr t.sq, r⟩
theorem cg_len : CallG X (.builtin "len") (biD .len) := by
  refine ⟨_, call_len_seq, fun H Z ds d xs zk e r Q q => ?_⟩
  have e : lenD ds = some d := e
  unfold lenD at e
  split at e
  · obtain ⟨l, e1, rfl⟩ := Option.map_eq_some_iff.mp e
    obtain ⟨x, rfl, hx⟩ := rpbl1 r
    obtain ⟨a, ys, rfl, t, rr⟩ := rpb_seq e1 hx
    refine ⟨a, ys, rfl, t, ?_⟩
    rw [← rr.len]
    exact q _ _ _ made_int
  · cases e
theorem cg_list : CallG X (.type "list") (biD .list) := by
  refine ⟨_, call_list_of, fun H Z ds d xs zk e r Q q => ?_⟩
  have e : listD ds = some d := e
  unfold listD at e
  split at e
  · obtain ⟨l, e1, rfl⟩ := Option.map_eq_some_iff.mp e
    obtain ⟨x, rfl, hx⟩ := rpbl1 r
    obtain ⟨a, ys, rfl, t, rr⟩ := rpb_seq e1 hx
    exact ⟨a, ys, rfl, t, fun p hp => q _ _ _ (.lst rfl hp rr)⟩
  · cases e
theorem cg_tuple : CallG X (.type "tuple") (biD .tuple) := by
  refine ⟨_, call_tuple_of, fun H Z ds d xs zk e r Q q => ?_⟩
  have e : tupleD ds = some d := e
  unfold tupleD at e
  split at e
  · obtain ⟨l, e1, rfl⟩ := Option.map_eq_some_iff.mp e
    obtain ⟨x, rfl, hx⟩ := rpbl1 r
    rcases seq_cases e1 with rfl | rfl
    · obtain ⟨a, ys, rfl, t, rr⟩ := rpb_lst hx
      exact ⟨a, ys, rfl, .inl ⟨SqL.of t, fun p hp => q _ _ _ (.tup rfl hp rr)⟩⟩
    · obtain ⟨a, ys, rfl, t, rr⟩ := rpb_tup hx
      exact ⟨a, ys, rfl, .inr ⟨t.sq, q _ _ _ (.same (fun l e => by cases e) (rp_tup t rr))⟩⟩
  · cases e
theorem cg_abs : CallG X (.builtin "abs") (biD .abs) := by
  refine ⟨_, call_abs, fun H Z ds d xs zk e r Q q => ?_⟩
  have e : absD ds = some d := e
  unfold absD at e
  split at e
  · cases e
    obtain ⟨x, rfl, hx⟩ := rpbl1 r
    rw [rpb_int hx]
    exact ⟨_, rfl, q _ _ _ made_int⟩
  · cases e
theorem ints_ok {K : PySem.W.Frag} {H : Hp} {Z : AP1} : ∀ {l : List D} {xs : List V} {ns : List Int}, intsD l = some ns → RpL K H Z l xs → xs = ns.map V.int ∧ l = ns.map D.int
  | [], xs, ns, e, r => by
    rw [r.inv0]
    cases (show some [] = some ns from e)
    exact ⟨rfl, rfl⟩
  | d :: l, xs, ns, e, r => by
    obtain ⟨x, ys, rfl, h1, h2⟩ := r.inv
    cases d <;> simp only [intsD, reduceCtorEq] at e
    obtain ⟨ms, e1, rfl⟩ := Option.map_eq_some_iff.mp e
    obtain ⟨i1, i2⟩ := ints_ok e1 h2
    rw [show x = V.int _ from by simpa only [Rp] using h1, i1]
    exact ⟨rfl, by rw [List.map_cons, ← i2]⟩
theorem bls_ok {K : PySem.W.Frag} {H : Hp} {Z : AP1} : ∀ {l : List D} {xs : List V} {ns : List Bool}, blsD l = some ns → RpL K H Z l xs → xs = ns.map V.bl
  | [], xs, ns, e, r => by
    rw [r.inv0]
    cases (show some [] = some ns from e)
    rfl
  | d :: l, xs, ns, e, r => by
    obtain ⟨x, ys, rfl, h1, h2⟩ := r.inv
    cases d <;> simp only [blsD, reduceCtorEq] at e
    obtain ⟨ms, e1, rfl⟩ := Option.map_eq_some_iff.mp e
    rw [show x = V.bl _ from by simpa only [Rp] using h1, bls_ok e1 h2]
    rfl
theorem maxI_mem : ∀ {ns : List Int}, ns ≠ [] → maxI ns ∈ ns ∧ ∀ y ∈ ns, y ≤ maxI ns
  | [], h => absurd rfl h
  | [a], _ => ⟨by simp [maxI], fun y hy => by simp at hy; subst hy; simp [maxI]⟩
  | a :: b :: r, _ => by
    obtain ⟨h1, h2⟩ := maxI_mem (ns := b :: r) (by simp)
    rw [show maxI (a :: b :: r) = max a (maxI (b :: r)) from rfl]
    refine ⟨?_, fun y hy => ?_⟩
    · by_cases h : a ≤ maxI (b :: r)
      · rw [Int.max_eq_right h]; exact List.mem_cons_of_mem _ h1
      · rw [Int.max_eq_left (by omega)]; exact List.mem_cons_self
    · rcases List.mem_cons.mp hy with e | e
      · subst e; omega
      · have := h2 y e; omega
theorem minI_mem : ∀ {ns : List Int}, ns ≠ [] → minI ns ∈ ns ∧ ∀ y ∈ ns, minI ns ≤ y
  | [], h => absurd rfl h
  | [a], _ => ⟨by simp [minI], fun y hy => by simp at hy; subst hy; simp [minI]⟩
  | a :: b :: r, _ => by
    obtain ⟨h1, h2⟩ := minI_mem (ns := b :: r) (by simp)
    rw [show minI (a :: b :: r) = min a (minI (b :: r)) from rfl]
    refine ⟨?_, fun y hy => ?_⟩
    · by_cases h : minI (b :: r) ≤ a
      · rw [Int.min_eq_right h]; exact List.mem_cons_of_mem _ h1
      · rw [Int.min_eq_left (by omega)]; exact List.mem_cons_self
    · rcases List.mem_cons.mp hy with e | e
      · subst e; omega
      · have := h2 y e; omega
theorem cg_max (hc : X.calm = true) : CallG X (.builtin "max") (biD .max) := by
  refine ⟨_, CallR.or (call_max2 hc) (cr_max hc), fun H Z ds d xs zk e r Q q => ?_⟩
  have e : maxD ds = some d := e
  unfold maxD at e
  split at e
  · cases e
    obtain ⟨x, y, rfl, hx, hy⟩ := rpbl2 r
    rw [rpb_int hx, rpb_int hy]
    exact .inl ⟨_, _, rfl, q _ _ _ made_int⟩
  · obtain ⟨ns, e1, e2⟩ := Option.bind_eq_some_iff.mp e
    split at e2
    · cases e2
    · rename_i hne
      cases e2
      obtain ⟨x, rfl, hx⟩ := rpbl1 r
      obtain ⟨a, ys, rfl, t, rr⟩ := rpb_lst hx
      obtain ⟨rfl, _⟩ := ints_ok e1 rr
      refine .inr ⟨a, ns, rfl, SqL.of t, List.length_pos_iff.mpr hne, fun m hm hle => ?_⟩
      obtain ⟨h1, h2⟩ := maxI_mem hne
      have : m = maxI ns := Int.le_antisymm (h2 m hm) (hle _ h1)
      rw [this]
      exact q _ _ _ made_int
  · cases e
theorem cg_min (hc : X.calm = true) : CallG X (.builtin "min") (biD .min) := by
  refine ⟨_, CallR.or (call_min2 hc) (cr_min hc), fun H Z ds d xs zk e r Q q => ?_⟩
  have e : minD ds = some d := e
  unfold minD at e
  split at e
  · cases e
    obtain ⟨x, y, rfl, hx, hy⟩ := rpbl2 r
    rw [rpb_int hx, rpb_int hy]
    exact .inl ⟨_, _, rfl, q _ _ _ made_int⟩
  · obtain ⟨ns, e1, e2⟩ := Option.bind_eq_some_iff.mp e
    split at e2
    · cases e2
    · rename_i hne
      cases e2
      obtain ⟨x, rfl, hx⟩ := rpbl1 r
      obtain ⟨a, ys, rfl, t, rr⟩ := rpb_lst hx
      obtain ⟨rfl, _⟩ := ints_ok e1 rr
      refine .inr ⟨a, ns, rfl, SqL.of t, List.length_pos_iff.mpr hne, fun m hm hle => ?_⟩
      obtain ⟨h1, h2⟩ := minI_mem hne
      have : m = minI ns := Int.le_antisymm (hle _ h1) (h2 m hm)
      rw [this]
      exact q _ _ _ made_int
  · cases e
theorem cg_sum (hc : X.calm = true) : CallG X (.builtin "sum") (biD .sum) := by
  refine ⟨_, cr_sum hc, fun H Z ds d xs zk e r Q q => ?_⟩
  have e : sumD ds = some d := e
  unfold sumD at e
  split at e
  · obtain ⟨ns, e1, rfl⟩ := Option.map_eq_some_iff.mp e
    obtain ⟨x, rfl, hx⟩ := rpbl1 r
    obtain ⟨a, ys, rfl, t, rr⟩ := rpb_lst hx
    obtain ⟨rfl, _⟩ := ints_ok e1 rr
    exact ⟨a, ns, rfl, SqL.of t, q _ _ _ made_int⟩
  · cases e
theorem cg_all (hc : X.calm = true) : CallG X (.builtin "all") (biD .all) := by
  refine ⟨_, cr_all hc, fun H Z ds d xs zk e r Q q => ?_⟩
  have e : allD ds = some d := e
  unfold allD at e
  split at e
  · obtain ⟨ns, e1, rfl⟩ := Option.map_eq_some_iff.mp e
    obtain ⟨x, rfl, hx⟩ := rpbl1 r
    obtain ⟨a, ys, rfl, t, rr⟩ := rpb_lst hx
    rw [bls_ok e1 rr] at t
    exact ⟨a, ns, rfl, SqL.of t, q _ _ _ made_bl⟩
  · cases e
theorem cg_any (hc : X.calm = true) : CallG X (.builtin "any") (biD .any) := by
  refine ⟨_, cr_any hc, fun H Z ds d xs zk e r Q q => ?_⟩
  have e : anyD ds = some d := e
  unfold anyD at e
  split at e
  · obtain ⟨ns, e1, rfl⟩ := Option.map_eq_some_iff.mp e
    obtain ⟨x, rfl, hx⟩ := rpbl1 r
    obtain ⟨a, ys, rfl, t, rr⟩ := rpb_lst hx
    rw [bls_ok e1 rr] at t
    exact ⟨a, ns, rfl, SqL.of t, q _ _ _ made_bl⟩
  · cases e
theorem cg_str : CallG X (.type "str") (biD .str) := by
  refine ⟨_, call_str_int, fun H Z ds d xs zk e r Q q => ?_⟩
  have e : strD ds = some d := e
  unfold strD at e
  split at e
  · split at e
    · rename_i hz
      cases e
      obtain ⟨x, rfl, hx⟩ := rpbl1 r
      rw [rpb_int hx]
      exact ⟨_, rfl, Nat.lt_of_lt_of_le (PySem.Flt.log2_lt_of (by decide) hz) (by decide), q _ _ _ made_str⟩
    · cases e
  · cases e
theorem cg_int : CallG X (.type "int") (biD .int) := by
  refine ⟨_, call_int1, fun H Z ds d xs zk e r Q q => ?_⟩
  have e : intD ds = some d := e
  unfold intD at e
  split at e
  · cases e
    obtain ⟨x, rfl, hx⟩ := rpbl1 r
    rw [rpb_int hx]
    exact .inl ⟨_, rfl, q _ _ _ made_int⟩
  · cases e
    obtain ⟨x, rfl, hx⟩ := rpbl1 r
    rw [rpb_bl hx]
    exact .inr ⟨_, rfl, q _ _ _ made_int⟩
  · cases e
/-! ### isinstance -/
theorem ty_ok {K : PySem.W.Frag} {H : Hp} {Z : AP1} {d : D} {v : V} {T : String} (e : tyD d = some T) (h : RpB K H Z d v) : TyX K H v (.type T) := by
  cases d <;> simp only [tyD, reduceCtorEq, Option.some.injEq] at e <;> subst e
  · rw [rpb_non h]; exact .base .non
  · rw [rpb_bl h]; exact .base (.bl _)
  · rw [rpb_int h]; exact .base (.int _)
  · rw [rpb_str h]; exact .base (.str _)
  · obtain ⟨a, xs, rfl, t, _⟩ := rpb_tup h
    rcases t with ⟨_, t⟩ | t
    · exact .base (.tup t)
    · rcases t with t | ⟨o, its, n, k, c, _⟩
      · rcases t with t | ⟨_, t⟩ <;> cases t
      · exact .kTuple k c
  · obtain ⟨a, xs, rfl, t, _⟩ := rpb_lst h
    exact .base (.lst t)
theorem ty_mem {d : D} {T : String} (e : tyD d = some T) : T ∈ ["NoneType", "bool", "int", "str", "tuple", "list"] := by
  cases d <;> simp only [tyD, reduceCtorEq, Option.some.injEq] at e <;> subst e <;> decide
theorem isa_kit {K : PySem.W.Frag} {a b : String} {r : Bool} (ha : a ∈ ["NoneType", "bool", "int", "str", "tuple", "list"]) (h : isaT a b = some r) : PySem.W.kitOne K (.type a) (.type b) = some r := by
  have hb : b = "int" ∨ b = "bool" ∨ b = "str" ∨ b = "tuple" ∨ b = "list" := by
    unfold isaT at h
    split at h
    · rename_i e; exact .inl e
    · split at h
      · rename_i e; exact .inr e
      · cases h
  apply kit_ty
  simp only [List.mem_cons, List.not_mem_nil, or_false] at ha
  rcases ha with rfl | rfl | rfl | rfl | rfl | rfl <;> rcases hb with rfl | rfl | rfl | rfl | rfl <;> (cases h; decide +kernel)
theorem kitl_ok {K : PySem.W.Frag} {H : Hp} {Z : AP1} {a : String} (ha : a ∈ ["NoneType", "bool", "int", "str", "tuple", "list"]) : ∀ {l : List D} {xs : List V} {b : Bool}, isaL a l = some b → RpL K H Z l xs → ∃ us, Paired ClsV xs us ∧ Vals xs us ∧ PySem.W.kitAny K (.type a) us = some b
  | [], xs, b, e, r => by
    rw [r.inv0]
    cases (show some false = some b from e)
    exact ⟨[], .nil, .nil, rfl⟩
  | d :: l, xs, b, e, r => by
    obtain ⟨x, ys, rfl, h1, h2⟩ := r.inv
    cases d <;> simp only [isaL, reduceCtorEq] at e
    rename_i t
    obtain ⟨c, e1, e2⟩ := Option.bind_eq_some_iff.mp e
    obtain ⟨c2, e3, rfl⟩ := Option.map_eq_some_iff.mp e2
    obtain ⟨us, p1, p2, p3⟩ := kitl_ok ha e3 h2
    rw [show x = V.ty _ from by simpa only [Rp] using h1]
    refine ⟨.type t :: us, .cons (.ty t) p1, .cons rfl p2, kitAny_cons (isa_kit ha e1) (fun q => ?_) fun q => ?_⟩
    · rw [p3, q]; rfl
    · rw [q]; rfl
theorem vals_det : ∀ {xs : List V} {us ws : List Value}, Paired ClsV xs us → Vals xs ws → ws = us
  | _, _, _, .nil, .nil => rfl
  | _, _, _, .cons a r, .cons b s => by
    rw [ClsV.eq a b, vals_det r s]
theorem cg_isi : CallG X (.builtin "isinstance") (biD .isi) := by
  refine ⟨_, CallR.or call_isi (CallR.or call_isiT call_isiK), fun H Z ds d xs zk e r Q q => ?_⟩
  have e : isinD ds = some d := e
  unfold isinD at e
  split at e
  · obtain ⟨b, e1, rfl⟩ := Option.map_eq_some_iff.mp e
    obtain ⟨x, y, rfl, hx, hy⟩ := rpbl2 r
    unfold isiD at e1
    obtain ⟨T, e2, e3⟩ := Option.bind_eq_some_iff.mp e1
    have tx := ty_ok e2 hx
    have mT := ty_mem e2
    split at e3
    · rw [rpb_ty hy]
      exact .inl ⟨x, _, _, _, b, rfl, .ty _, tx, isa_kit mT e3, q _ _ _ made_bl⟩
    · rename_i l
      obtain ⟨a, ys, rfl, t, rr⟩ := rpb_tup hy
      obtain ⟨us, p1, p2, p3⟩ := kitl_ok (K := X.K) mT e3 rr
      rcases t with ⟨_, t⟩ | t
      · exact .inr (.inl ⟨x, a, ys, _, us, b, rfl, t, p1, tx, p3, q _ _ _ made_bl⟩)
      · rcases t with t | ⟨o, its, n, k, c, dd, hz, rv⟩
        · rcases t with t | ⟨_, t⟩ <;> cases t
        · have eu := vals_det p1 rv
          obtain ⟨oc, od, dt, sl⟩ := o
          simp only at c dd
          subst c dd
          exact .inr (.inr ⟨x, a, od, us, n, sl, _, b, rfl, by rw [k, ← eu], tx, p3, q _ _ _ made_bl⟩)
    · cases e3
  · cases e
/-! ### repr -/
mutual
theorem shown_len : ∀ d : D, smallI d = true → (PyData.shown d.py).length ≤ cost d ∧ PyData.showable d.py = true ∧ PyData.hasDict d.py = false
  | .non, _ => by
    simp only [D.py, PyData.shown_none, PyData.showable, PyData.hasDict, cost]
    exact ⟨by decide, trivial, trivial⟩
  | .bl b, _ => by
    simp only [D.py, PyData.shown_bool, PyData.showable, PyData.hasDict, cost]
    exact ⟨by cases b <;> decide, trivial, trivial⟩
  | .int i, h => by
    simp only [smallI, decide_eq_true_eq] at h
    have hl : i.natAbs.log2 < 1920 := Nat.lt_of_lt_of_le (PySem.Flt.log2_lt_of (by decide) h) (by decide)
    simp only [D.py, PyData.shown_int, PyData.showable, PyData.hasDict, cost]
    refine ⟨?_, by simpa using hl, trivial⟩
    have := int_text_length_le (by decide) hl
    have e : (Str.ofString (toString i)).length = (toString i).length := PySem.ofString_length _
    rw [e]
    omega
  | .str s, h => by
    simp only [smallI] at h
    simp only [D.py, PyData.shown_str, PyData.showable, PyData.hasDict, cost]
    refine ⟨PySem.StrLaws.reprText_len s fun c hc => ?_, trivial, trivial⟩
    rw [← Array.all_toList] at h
    have := List.all_eq_true.mp h c hc
    simp only [decide_eq_true_eq] at this
    omega
  | .ty _, h => by simp [smallI] at h
  | .fn _, h => by simp [smallI] at h
  | .scr _, h => by simp [smallI] at h
  | .tup l, h => by
    simp only [smallI] at h
    obtain ⟨h1, h2, h3⟩ := shownL_len l h
    simp only [D.py, PyData.shown_tuple, PyData.showable, PyData.hasDict, cost]
    refine ⟨?_, h2, h3⟩
    have hj := StrLaws.join_length_le ", " (PyData.shownAll (pyL l))
    have e2 : (", " : Str).length = 2 := by decide
    have e3 : ((if (pyL l).length == 1 then ",)" else ")" : String) : Str).length ≤ 2 := by split <;> decide
    have e4 : ("(" : Str).length = 1 := by decide
    rw [Str.length_append, Str.length_append, e4]
    rw [e2] at hj
    omega
  | .lst l, h => by
    simp only [smallI] at h
    obtain ⟨h1, h2, h3⟩ := shownL_len l h
    simp only [D.py, PyData.shown_list, PyData.showable, PyData.hasDict, cost]
    refine ⟨?_, h2, h3⟩
    have hj := StrLaws.join_length_le ", " (PyData.shownAll (pyL l))
    have e2 : (", " : Str).length = 2 := by decide
    have e3 : ("]" : Str).length = 1 := by decide
    have e4 : ("[" : Str).length = 1 := by decide
    rw [Str.length_append, Str.length_append, e4, e3]
    rw [e2] at hj
    omega
theorem shownL_len : ∀ l : List D, smallL l = true → ((PyData.shownAll (pyL l)).map (·.length)).sum + (PyData.shownAll (pyL l)).length * 2 ≤ costL l ∧ PyData.showableAll (pyL l) = true ∧ PyData.hasDictAll (pyL l) = false
  | [], _ => by simp [pyL, PyData.shownAll, PyData.showableAll, PyData.hasDictAll, costL]
  | d :: r, h => by
    simp only [smallL, Bool.and_eq_true] at h
    obtain ⟨a1, a2, a3⟩ := shown_len d h.1
    obtain ⟨b1, b2, b3⟩ := shownL_len r h.2
    simp only [pyL, PyData.shownAll, PyData.showableAll, PyData.hasDictAll, costL, List.map_cons, List.sum_cons, List.length_cons, a2, a3, b2, b3, Bool.and_self, Bool.or_self, and_self, and_true]
    omega
end
theorem call_reprs (hg : X.A.guards = some []) (hu : X.A.units + 70 < cLine) : CallR X (.builtin "repr") (fun xs H Q => ∃ x d, xs = [x] ∧ Dp X.K H x d ∧ d.showable = true ∧ d.hasDict = false ∧ d.depth ≤ 60 ∧ d.shown.length ≤ sizeLine ∧ Q (.str d.shown) H) := by
  intro pins s σ H xs us Q I r h
  obtain ⟨x, d, rfl, hd, hs, hh, hz, hl, q⟩ := h
  obtain ⟨u, rfl, rx⟩ := vals1 r
  obtain ⟨as, rd⟩ := Dp.reads I d x u hd rx
  have fin : ∀ tk u, EP X pins σ Q (.str d.shown u) { s with toks := tk } := fun tk u => ⟨.str _, H, I.tok _, ⟨_, rfl⟩, q⟩
  have hno : d.hasDict = true → sysModules ∉ as := fun e => by rw [hh] at e; cases e
  cases rd with
  | none => exact PySem.P.repr_of_none (by have := fin (s.toks + 1) s.toks; simpa only [PyData.shown] using this)
  | bool b => exact PySem.P.repr_of_bool (by have := fin (s.toks + 1) s.toks; cases b <;> simpa only [PyData.shown] using this)
  | int i t => exact PySem.P.repr_of_int (by simpa [PyData.showable] using hs) (by have := fin (s.toks + 1) s.toks; simpa only [PyData.shown] using this)
  | str y t => exact PySem.P.repr_of_str (by have := fin (s.toks + 1) s.toks; simpa only [PyData.shown] using this) (by simpa only [PyData.shown] using hl)
  | list a1 a2 a3 a4 =>
    exact repr_of_reads' (.list a1 a2 a3 a4) hs hno hg (by omega) (fun _ _ e => e) (fun h' u tk k => ⟨.str _, H, I.kept k, ⟨_, rfl⟩, q⟩) hl
  | tuple a1 a2 a3 a4 =>
    exact repr_of_reads' (.tuple a1 a2 a3 a4) hs hno hg (by omega) (fun _ _ e => e) (fun h' u tk k => ⟨.str _, H, I.kept k, ⟨_, rfl⟩, q⟩) hl
  | dict a1 a2 a3 a4 a5 => simp [PyData.hasDict] at hh
theorem cg_repr (hg : X.A.guards = some []) (hu : X.A.units + 70 < cLine) : CallG X (.builtin "repr") (biD .repr) := by
  refine ⟨_, call_reprs hg hu, fun H Z ds d xs zk e r Q q => ?_⟩
  have e : reprsD ds = some d := e
  unfold reprsD at e
  split at e
  · unfold reprD at e
    split at e
    · rename_i hc
      cases e
      simp only [Bool.and_eq_true, decide_eq_true_eq] at hc
      obtain ⟨⟨⟨h1, h2⟩, h3⟩, h4⟩ := hc
      obtain ⟨x, rfl, hx⟩ := rpbl1 r
      obtain ⟨s1, s2, s3⟩ := shown_len _ h2
      exact ⟨x, _, rfl, hx.dp h1, s2, s3, (fit_lay 60 _ h3 h1).2, by rw [← big_eq]; exact Nat.le_trans s1 h4, q _ _ _ made_str⟩
    · cases e
  · cases e
def builtinOf : Bi → Value
  | .list => .type "list"
  | .tuple => .type "tuple"
  | .str => .type "str"
  | .int => .type "int"
  | .len => .builtin "len"
  | .abs => .builtin "abs"
  | .max => .builtin "max"
  | .min => .builtin "min"
  | .sum => .builtin "sum"
  | .all => .builtin "all"
  | .any => .builtin "any"
  | .isi => .builtin "isinstance"
  | .repr => .builtin "repr"
  | .sorted => .builtin "sorted"
theorem rl_ints {K : PySem.W.Frag} {H : Hp} {Z : AP1} : ∀ ns : List Int, RpL K H Z (ns.map D.int) (ns.map V.int)
  | [] => RpL.nil
  | i :: r => RpL.cons (by simp only [Rp]) (rl_ints r)
theorem cg_sorted : CallG X (.builtin "sorted") (biD .sorted) := by
  refine ⟨_, cr_sortedI, fun H Z ds d xs zk e r Q q => ?_⟩
  have e : sortD ds = some d := e
  unfold sortD at e
  split at e
  · obtain ⟨ns, e1, rfl⟩ := Option.map_eq_some_iff.mp e
    obtain ⟨x, rfl, hx⟩ := rpbl1 r
    obtain ⟨a, ys, rfl, t, rr⟩ := rpb_lst hx
    obtain ⟨rfl, _⟩ := ints_ok e1 rr
    refine ⟨a, ns, rfl, SqL.of t, fun ns' p hp hs hn => ?_⟩
    have h1 : (srtI ns).Perm ns := List.mergeSort_perm ns _
    have h2 : (srtI ns).Pairwise (· ≤ ·) := by
      refine (List.pairwise_mergeSort (le := fun a b : Int => decide (a ≤ b)) (fun a b c h1 h2 => ?_) (fun a b => ?_) ns).imp fun h => of_decide_eq_true h
      · have h1 := of_decide_eq_true h1
        have h2 := of_decide_eq_true h2
        exact decide_eq_true (by omega)
      · by_cases h : a ≤ b
        · simp [h]
        · have : b ≤ a := by omega
          simp [this]
    have e2 : ns' = srtI ns := List.Perm.eq_of_pairwise (fun a b _ _ h1 h2 => Int.le_antisymm h1 h2) hs h2 (hp.trans h1.symm)
    subst e2
    refine q _ _ _ (.lst rfl hn (rl_ints _))
  · cases e
theorem cg_no {v : Value} : CallG X v (fun _ => none) := ⟨fun _ _ _ => False, fun _ _ _ _ _ _ _ _ _ h => h.elim, fun _ _ _ _ _ _ e => by cases e⟩
theorem cg_bi (b : Bi) (hc : X.calm = true) (hg : X.A.guards = some []) (hu : X.A.units + 70 < cLine) : CallG X (builtinOf b) (biD b) := by
  cases b
  · exact cg_len
  · exact cg_list
  · exact cg_tuple
  · exact cg_abs
  · exact cg_max hc
  · exact cg_min hc
  · exact cg_sum hc
  · exact cg_all hc
  · exact cg_any hc
  · exact cg_isi
  · exact cg_repr hg hu
  · exact cg_str
  · exact cg_int
  · exact cg_sorted
end
end Sc
namespace Sc
open PySem PySem.Spec PyProof.Rows L2 HT
theorem fm_congr {α β : Type} {f g : α → Option β} : ∀ {l : List α}, (∀ x ∈ l, f x = g x) → l.filterMap f = l.filterMap g
  | [], _ => rfl
  | a :: r, h => by
    rw [List.filterMap_cons, List.filterMap_cons, h a List.mem_cons_self, fm_congr fun x hx => h x (List.mem_cons_of_mem _ hx)]
theorem rev_pick (xs : Array Value) : ((List.range xs.size).filterMap fun (m : Nat) => xs[(((xs.size : Int) - 1) + (m : Int) * (-1)).toNat]?).toArray = xs.toList.reverse.toArray := by
  have h := PySem.W.krv_all xs.reverse
  rw [Array.size_reverse, Array.toList_reverse] at h
  rw [← h]
  congr 1
  refine fm_congr fun m hm => ?_
  have hm := List.mem_range.mp hm
  have e : (((xs.size : Int) - 1) + (m : Int) * (-1)).toNat = xs.size - 1 - m := by omega
  rw [e, Array.getElem?_reverse (by exact hm)]
theorem places_rev (n : Nat) : Builtin.Slice.slicePlaces ((n : Int) - 1) (-1) (-1) = n := by
  unfold Builtin.Slice.slicePlaces
  rw [if_neg (by decide)]
  by_cases h : (n : Int) - 1 > -1
  · rw [if_pos h]
    have : ((n : Int) - 1 - -1 - 1) / (- -1) + 1 = n := by
      rw [show (- -1 : Int) = 1 by decide, Int.ediv_one]; omega
    rw [this]; simp
  · rw [if_neg h]
    omega
section
variable {prog : Program} {w : World} {A : Around} {Ex : Value → Shared → Prop} {s : Shared}
theorem applied_rev {sl : Addr} {vs : Value} {n : Nat} {Q : Int × Int × Nat → Shared → Prop} (hs : s.heap.IsSliceOf sl .none .none vs) (ps : IsPart vs (some (-1)))
    (h : Q ((n : Int) - 1, -1, n) s) : wpAny (model prog w) A (Builtin.Slice.sliceApplied (.ref sl) (pure (n : Int))) Q Ex s := by
  obtain ⟨os, hos, hcs, hds⟩ := id hs
  unfold Builtin.Slice.sliceApplied Builtin.Slice.sliceFields
  refine wpAny_bind (wpAny_bind (wpAny_field hos hds (x := .none) rfl (wpAny_bind (wpAny_field hos hds (x := .none) rfl (wpAny_bind (wpAny_field hos hds (x := vs) rfl (wpAny_pure ?_)))))))
  refine wpAny_bind (slicePart_ ps ?_)
  show wpAny _ _ (if ((-1 : Int) == 0) = true then _ else _) _ _ s
  rw [if_neg (by decide)]
  refine wpAny_bind (slicePart_none (wpAny_bind (slicePart_none (wpAny_bind (wpAny_pure ?_)))))
  show wpAny _ _ (pure ((n : Int) - 1, (-1 : Int), Builtin.Slice.slicePlaces ((n : Int) - 1) (-1) (-1))) _ _ s
  rw [places_rev]
  exact wpAny_pure h
theorem getItem_tuple_rev {t sl : Addr} {items : Array Value} {vs : Value} {Q : Value → Shared → Prop} (ht : IsTup s.heap t items) (hs : s.heap.IsSliceOf sl .none .none vs) (ps : IsPart vs (some (-1)))
    (h : Q (.ref s.heap.objs.size) { s with heap := s.heap.push { cls := .type "tuple", data := .seq items.toList.reverse.toArray } })
    (hsz : items.size ≤ sizeLine) : wpAny (model prog w) A (getItem (.ref t) (.ref sl)) Q Ex s := by
  have htake : sizeOk (.seq items.toList.reverse.toArray) := by
    show items.toList.reverse.toArray.size ≤ sizeLine
    rw [List.size_toArray, List.length_reverse, Array.length_toList]
    exact hsz
  obtain ⟨os, hos, hcs, hds⟩ := id hs
  have hTs : s.TypeIs (.ref sl) "slice" := ⟨os, hos, hcs⟩
  unfold getItem
  try with_reducible refine wpAny_holding ?_
  first | refine wpAny_bind (wpAny_pure ?_) | skip
  refine wpAny_bind (wpAny_sequenceKey ht.typeIs (by decide) ?_)
  refine wpAny_bind (wpAny_callSpecial?_slot (name := Str.ofString "__getitem__") ht.typeIs PyProof.Rows.slot_tuple_getitem
    (wpAny_call_entry PyProof.Rows.slot_tuple_getitem ht.typeIs entry_tuple_getitem ?_ (args_tuple_getitem _ _)))
  show wpAny _ _ (Builtin.Tuple.tupleItemsOf (.ref t) >>= _) _ _ s
  refine wpAny_bind (tupleItemsOf_ ht ?_)
  refine wpAny_bind (wpAny_typeOf hTs ?_)
  rw [if_pos (by decide)]
  refine wpAny_bind (applied_rev hs ps ?_)
  have hno : ¬ ((((items.size : Int) - 1) == 0 && (-1 : Int) == 1 && items.size == items.size) = true) := by
    intro q
    rw [Bool.and_eq_true, Bool.and_eq_true] at q
    exact absurd q.1.2 (by decide)
  show wpAny _ _ (if (((items.size : Int) - 1) == 0 && (-1 : Int) == 1 && items.size == items.size) = true then _ else _) _ _ s
  rw [if_neg hno, rev_pick]
  first
    | exact wpAny_bind (m := Builtin.Tuple.tupleExact _) (wpAny_newObj_type (wpAny_pure ⟨_, rfl, wpAny_pure h⟩) htake)
    | exact wpAny_bind (m := Builtin.Tuple.tupleExact _) (wpAny_newObj_type (wpAny_bind (wpAny_pure (wpAny_pure ⟨_, rfl, wpAny_pure h⟩))) htake)
    | exact wpAny_bind (wpAny_bind (m := Builtin.Tuple.tupleExact _) (wpAny_newObj_type (wpAny_pure (wpAny_pure ⟨_, rfl, wpAny_pure h⟩)) htake))
    | exact wpAny_bind (wpAny_bind (m := Builtin.Tuple.tupleExact _) (wpAny_newObj_type (wpAny_pure ⟨_, rfl, wpAny_pure h⟩) htake))
end
section
variable {X : Cx}
def tRevB (K : PySem.W.Frag) (te : TE) : TE := fun σ H Q => te σ H fun x H1 => (∃ a xs, x = .ref a ∧ SqL K H1 a xs ∧ ∀ p, H1 p = none → Q (.ref p) (upd H1 p (.lst xs.reverse))) ∨ (∃ a xs, x = .ref a ∧ SqT K H1 a xs ∧ ∀ p, H1 p = none → Q (.ref p) (upd H1 p (.tup xs.reverse)))
theorem pe_revB {e : Expr} {te : TE} {k : Nat} {p1 p2 p3 pos : Pos} (he : PE X e te) : PE X (.Subscript e (.Slice none none (some (.UnaryOp .USub (.Constant (.int 1) k p1) p2)) p3) pos) (tRevB X.K te) := by
  refine ⟨fun pins s σ H Q I h => ?_⟩
  refine Subscript_ (thn (he.run pins s σ H _ I h) fun v s1 ⟨x, H1, I1, r1, q1⟩ => ?_)
  have hst : PO X (some (.UnaryOp .USub (.Constant (.int 1) k p1) p2)) (tPart (tUn (rU fun i => .int (-i)) (tC (.int 1)))) := po_some (pe_un un_neg pe_int)
  rcases q1 with ⟨a, xs, ex, hx, q⟩ | ⟨a, xs, ex, hx, q⟩
  · subst ex
    cases r1
    refine wpAny_Slice (thn (po_none.run pins s1 σ H1 (fun o H2 => o = none ∧ H2 = H1) I1 ⟨rfl, rfl⟩) fun vl s2 ⟨l, H2, I2, pl, el, e2⟩ => ?_)
    subst el e2
    refine thn (po_none.run pins s2 σ H2 (fun o H3 => o = none ∧ H3 = H2) I2 ⟨rfl, rfl⟩) fun vu s3 ⟨u, H3, I3, pu, eu, e3⟩ => ?_
    subst eu e3
    refine thn (hst.run pins s3 σ H3 (fun o H4 => o = some (-1) ∧ H4 = H3) I3 ⟨1, rfl, -1, rfl, rfl, rfl⟩) fun vs s4 ⟨o, H4, I4, ps, eo, e4⟩ => ?_
    subst eo e4
    have I5 : Inv X pins σ H4 { s4 with heap := s4.heap.push { cls := .type "slice", data := .fields #[vl, vu, vs] } } := I4.kept (t' := s4.toks) fun b ob q => Heap.get?_push_of_some _ q
    obtain ⟨its, r, ht, hz⟩ := I5.list hx
    have hlen := r.length
    show wpAny (model X.prog X.w) X.A (subscriptTail e (.Slice none none (some (.UnaryOp .USub (.Constant (.int 1) k p1) p2)) p3) (.ref a) (.ref s4.heap.objs.size)) (EP X pins σ Q) X.xe { s4 with heap := s4.heap.push { cls := .type "slice", data := .fields #[vl, vu, vs] } }
    refine tail_any (ops := [.ref a, .ref s4.heap.objs.size]) ht.isList.typeIs (PySem.slot_list_getitem.lookup) ?_ (by with_unfolding_all rfl)
    refine wpAny_getItem_list_slice ht.isList (Heap.IsSliceOf.new _ vl vu vs) pl pu ps (by decide) ?_ (by rw [List.size_toArray]; omega)
    rw [PySem.W.krv_pick]
    refine ⟨.ref _, _, I5.laid (t' := s4.toks) (o := .lst xs.reverse) (fun b ob q => Heap.get?_push_of_some _ q) (Nat.le_refl _) ?_, rfl, q _ (I5.hok.fresh (Nat.le_refl _))⟩
    exact ⟨by rw [List.length_reverse]; exact hz, _, 0, r.reverse, Heap.get?_push_size _ rfl⟩
  · subst ex
    cases r1
    refine wpAny_Slice (thn (po_none.run pins s1 σ H1 (fun o H2 => o = none ∧ H2 = H1) I1 ⟨rfl, rfl⟩) fun vl s2 ⟨l, H2, I2, pl, el, e2⟩ => ?_)
    subst el e2
    refine thn (po_none.run pins s2 σ H2 (fun o H3 => o = none ∧ H3 = H2) I2 ⟨rfl, rfl⟩) fun vu s3 ⟨u, H3, I3, pu, eu, e3⟩ => ?_
    subst eu e3
    refine thn (hst.run pins s3 σ H3 (fun o H4 => o = some (-1) ∧ H4 = H3) I3 ⟨1, rfl, -1, rfl, rfl, rfl⟩) fun vs s4 ⟨o, H4, I4, ps, eo, e4⟩ => ?_
    subst eo e4
    cases pl
    cases pu
    have I5 : Inv X pins σ H4 { s4 with heap := s4.heap.push { cls := .type "slice", data := .fields #[.none, .none, vs] } } := I4.kept (t' := s4.toks) fun b ob q => Heap.get?_push_of_some _ q
    obtain ⟨its, r, ht, hz⟩ := I5.tuple hx
    have hlen := r.length
    show wpAny (model X.prog X.w) X.A (subscriptTail e (.Slice none none (some (.UnaryOp .USub (.Constant (.int 1) k p1) p2)) p3) (.ref a) (.ref s4.heap.objs.size)) (EP X pins σ Q) X.xe _
    refine tail_any (ops := [.ref a, .ref s4.heap.objs.size]) ht.typeIs PyProof.Rows.slot_tuple_getitem.lookup ?_ (by with_unfolding_all rfl)
    refine getItem_tuple_rev ht (Heap.IsSliceOf.new _ _ _ vs) ps ?_ (by rw [List.size_toArray]; omega)
    refine ⟨.ref _, _, I5.laid (t' := s4.toks) (o := .tup xs.reverse) (fun b ob q => Heap.get?_push_of_some _ q) (Nat.le_refl _) ?_, rfl, q _ (I5.hok.fresh (Nat.le_refl _))⟩
    exact ⟨by rw [List.length_reverse]; exact hz, _, r.reverse, IsTup.new _ _⟩
end
end Sc
namespace Sc
open PySem PySem.Spec PyProof.Rows L2

/-! ### what a def promises -/
def flOf : Pm → Fg
  | .eat => .frz
  | .brw => .brw
  | .io => .own
structure ArgsOk (K : PySem.W.Frag) (H : Hp) (Z : AP1) (pm : List Pm) (ds : List D) (vs : List V) : Prop where
  l1 : ds.length = pm.length
  l2 : vs.length = pm.length
  si : SI K (pm.map flOf) (ds.map some) (vs.map some) H Z
def IoA (pm : List Pm) (vs : List V) : AP1 := fun p => ∃ i : Nat, pm[i]? = some Pm.io ∧ vs[i]? = some (V.ref p)
def OutsOk (K : PySem.W.Frag) (H : Hp) (Z : AP1) : List Pm → List V → List D → Prop
  | .io :: r, v :: vs, outs => ∃ l o, outs = .lst l :: o ∧ (∃ a xs, v = .ref a ∧ ¬ Z a ∧ H a = some (.lst xs) ∧ RpL K H Z l xs) ∧ OutsOk K H Z r vs o
  | _ :: r, _ :: vs, outs => OutsOk K H Z r vs outs
  | _, _, outs => outs = []
structure ResOk (K : PySem.W.Frag) (H : Hp) (Z : AP1) (pm : List Pm) (ds : List D) (vs : List V) (ro : Bool) (H' : Hp) (Z' : AP1) (d : D) (outs : List D) (v : V) : Prop where
  fr : Fr (IoA pm vs) H Z H' Z'
  zok : ZOk H' Z'
  res : if ro = true then RpO K H' Z' d v ∧ ∀ l a, d = .lst l → v = .ref a → H a = none else Rp K H' Z' d v
  outs : OutsOk K H' Z' pm vs outs
  io : ∀ i, pm[i]? = some .io → isL (ds.map some) i = true
structure FnD (P : Program) (w : World) (K : PySem.W.Frag) (mg : Str → Option Value) (base : Heap) (k : Nat) (f : Addr) (fd : FuncData) (ps : List Str) (pm : List Pm) (ro : Bool) (g : Fn) : Prop where
  run : ∀ (A : Around) (outer : List PySem.Env) (s : Shared) (H : Hp) (args : Args) (us : List Value) (vs : List V) (Z : AP1) (ds : List D) (d : D) (outs : List D) (Q : VK),
    Room k A → A.guards = some [] → Env0 P w K mg base A outer s H → BindsTo s fd args (ps.zip us) → Vals vs us → ArgsOk K H Z pm ds vs → g ds = .ok d outs →
    (∀ v H' Z', ResOk K H Z pm ds vs ro H' Z' d outs v → Q v H') → codeAny (model P w) A (.call (.ref f) args) (CR CX0 outer P w H s Q E0) s
theorem FnD.mono {P : Program} {w : World} {K : PySem.W.Frag} {mg : Str → Option Value} {base : Heap} {j k : Nat} {f : Addr} {fd : FuncData} {ps : List Str} {pm : List Pm} {ro : Bool} {g : Fn} (F : FnD P w K mg base j f fd ps pm ro g) (h : j ≤ k) :
    FnD P w K mg base k f fd ps pm ro g := ⟨fun A o s H a us vs Z ds d outs Q hr => F.run A o s H a us vs Z ds d outs Q (hr.mono h)⟩

def bnames : List Str := ["len", "list", "tuple", "abs", "max", "min", "sum", "all", "any", "isinstance", "repr", "str", "int", "sorted", "bool", "range", "zip", "enumerate", "reversed"]
def flV : D → V
  | .int i => .int i
  | .bl b => .bl b
  | .str s => .str s
  | _ => .non
def permV (perm : List Pk) (vs : List V) : List V := perm.map fun p => match p with
  | .at i => vs.getD i .non
  | .df d => flV d
/-- a way of a call with keywords is bound -/
def KwB (K : PySem.W.Frag) (fd : FuncData) (ps : List Str) (q : Kw) : Prop := (∀ d, Pk.df d ∈ q.perm → flatD d = true) ∧ ∃ g gV, KBn K fd ps q.np q.ks g gV ∧ ∀ vs zs : List V, vs.length = q.np → zs.length = q.ks.length → gV vs zs = permV q.perm (vs ++ zs)
/-- where one stands: the context fits what was looked at ahead -/
structure XOk (Φ : Fns) (c : Cx0) (k : Nat) (X : Cx) : Prop where
  N : X.N = c.N
  nd : c.N.Nodup
  sc : X.env.scope = c.sc
  loc : ∀ x, locB c.sw x = true → Loc X.env.scope x ∧ (X.fn x = true ∨ X.env.scope.names.lookup x = some .local)
  calm : X.calm = true
  gd : X.A.guards = some []
  room : Room k X.A
  bn : ∀ x ∈ bnames, X.mg x = none
  G : ∀ g ∈ c.G, ∃ u v, X.mg g.1 = some u ∧ RelV v u ∧ ∀ H Z, Rp X.K H Z g.2 v
  F : ∀ i s, c.F[i]? = some s → ∃ f fd ps, X.mg s.name = some (.ref f) ∧ PySem.W.keepIn X.K (.ref f) = true ∧ (s.po = true → Binds X.K fd ps []) ∧ (∀ q ∈ s.kb, KwB X.K fd ps q) ∧ ps.length = s.pm.length ∧ FnD X.prog X.w X.K X.mg X.base k f fd ps s.pm s.ro (Φ i)
theorem XOk.units {Φ : Fns} {c : Cx0} {k : Nat} {X : Cx} (ok : XOk Φ c k X) : X.A.units + 70 < cLine := by have := ok.room.un; omega
theorem XOk.wish {Φ : Fns} {c : Cx0} {k : Nat} {X : Cx} (ok : XOk Φ c k X) (E : Value → Shared → Prop) : XOk Φ c k (X.wish E) :=
  ⟨ok.N, ok.nd, ok.sc, ok.loc, ok.calm, ok.gd, ok.room, ok.bn, ok.G, ok.F⟩
theorem relS_lookup (blk sc : Scope) (x : Str) : (relS blk sc).names.lookup x = (blk.names.lookup x).map fun k => if (k == .free && sc.kind == .function && sc.names.lookup x == some .cell) then .cell else k := by
  unfold relS
  show (blk.names.map _).lookup x = _
  induction blk.names with
  | nil => rfl
  | cons y r ih =>
    obtain ⟨n, k⟩ := y
    rw [List.map_cons]
    dsimp only at ih ⊢
    by_cases h : (k == NameKind.free && sc.kind == ScopeKind.function && sc.names.lookup n == some NameKind.cell) = true
    · rw [if_pos h, List.lookup_cons, List.lookup_cons]
      by_cases e : x = n
      · subst e
        simp only [beq_self_eq_true, Option.map_some, h, if_true]
      · have e2 : (x == n) = false := by simpa using e
        simp only [e2]; exact ih
    · rw [if_neg h, List.lookup_cons, List.lookup_cons]
      by_cases e : x = n
      · subst e
        simp only [beq_self_eq_true, Option.map_some]
        rw [if_neg h]
      · have e2 : (x == n) = false := by simpa using e
        simp only [e2]; exact ih
theorem XOk.blk {Φ : Fns} {c : Cx0} {k : Nat} {X : Cx} (ok : XOk Φ c k X) (s : Shared) (H : Hp) (scope : Scope) (cl : List (Str × Addr)) (C : Addr) (fp : List Addr) (io : List Nat) :
    XOk Φ { c with sc := inSc scope c.sc, sw := scope, io := io } k (X.blk s H scope (compEnvC scope cl C X.env) fp) := by
  refine ⟨ok.N, ok.nd, by show relS scope X.env.scope = relS scope c.sc; rw [ok.sc], fun x hx => ?_, ok.calm, ok.gd, ok.room, ok.bn, ok.G, ok.F⟩
  show Loc (relS scope X.env.scope) x ∧ ((scope.names.lookup x == some .cell) = true ∨ (relS scope X.env.scope).names.lookup x = some .local)
  unfold locB at hx
  simp only [Bool.or_eq_true, beq_iff_eq] at hx
  unfold L2.Loc
  rw [relS_lookup]
  rcases hx with hx | hx <;> rw [hx]
  · exact ⟨.inl rfl, .inr rfl⟩
  · exact ⟨.inr rfl, .inl rfl⟩

/-! ### what an expression's reading asks -/
structure GE (Φ : Fns) (c : Cx0) (Γ : List Fg) (X : Cx) (e : E) (a : Expr) : Prop where
  wr : ∀ j ∈ e.wr, flag Γ j = .own
  pe : ∃ t, PE X a t ∧ ∀ n σ H Z, SI X.K Γ n σ H Z → ∀ d n', e.den Φ n = .ok d n' → ∀ Q : VK,
    (∀ v H' Z', SI X.K Γ n' σ H' Z' → KN n n' → Fr (Adr e.wr n σ) H Z H' Z' → Val X.K Γ (e.md c Γ) (e.bs Γ) n' σ H H' Z' d v → Q v H') → t σ H Q
structure GT (Φ : Fns) (c : Cx0) (Γ : List Fg) (X : Cx) (e : E) (a : Expr) : Prop where
  wr : ∀ j ∈ e.wr, flag Γ j = .own
  pt : ∃ t, PT X a t ∧ ∀ n σ H Z, SI X.K Γ n σ H Z → ∀ b n', toBl (e.den Φ n) = .ok b n' → ∀ Q : Bool → Hp → Prop,
    (∀ H' Z', SI X.K Γ n' σ H' Z' → KN n n' → Fr (Adr e.wr n σ) H Z H' Z' → Q b H') → t σ H Q
section
variable {Φ : Fns} {c : Cx0} {Γ : List Fg} {X : Cx} {k : Nat}
theorem toBl_eq {r : ER D} {b : Bool} {n : Env} (h : toBl r = .ok b n) : r = .ok (.bl b) n := by
  unfold toBl at h
  obtain ⟨x, m, e1, e2⟩ := ER.bind_eq h
  cases x <;> simp only [reduceCtorEq, ER.ok.injEq] at e2
  rw [e1, e2.1, e2.2]
/-- frames one behind another -/
theorem Fr.seq {M1 M2 : List Nat} {n n1 : Env} {σ : L2.St} {H H1 H2 : Hp} {Z Z1 Z2 : AP1} (a : Fr (Adr M1 n σ) H Z H1 Z1) (kn : KN n n1) (b : Fr (Adr M2 n1 σ) H1 Z1 H2 Z2) : Fr (Adr (M1 ++ M2) n σ) H Z H2 Z2 :=
  a.trans b (fun p w => .inl (w.mono fun i hi => List.mem_append_left _ hi)) fun p w => .inl ((w.kn kn).mono fun i hi => List.mem_append_right _ hi)
theorem Fr.none {W : AP1} {H H' : Hp} {Z Z' : AP1} (a : Fr (fun _ => False) H Z H' Z') : Fr W H Z H' Z' := a.mono fun _ h => h.elim
theorem disj_out {l m : List Nat} (h : disj l m = true) : ∀ i ∈ l, i ∉ m := fun i hi => by
  have := List.all_eq_true.mp h i hi
  simpa using this
/-- two operands, read -/
theorem ge2 {a b : E} {ea eb : Expr} {ta tb : TE}
    (ha : ∀ n σ H Z, SI X.K Γ n σ H Z → ∀ d n', a.den Φ n = .ok d n' → ∀ Q : VK, (∀ v H' Z', SI X.K Γ n' σ H' Z' → KN n n' → Fr (Adr a.wr n σ) H Z H' Z' → Val X.K Γ (a.md c Γ) (a.bs Γ) n' σ H H' Z' d v → Q v H') → ta σ H Q)
    (hb : ∀ n σ H Z, SI X.K Γ n σ H Z → ∀ d n', b.den Φ n = .ok d n' → ∀ Q : VK, (∀ v H' Z', SI X.K Γ n' σ H' Z' → KN n n' → Fr (Adr b.wr n σ) H Z H' Z' → Val X.K Γ (b.md c Γ) (b.bs Γ) n' σ H H' Z' d v → Q v H') → tb σ H Q)
    (wb : ∀ j ∈ b.wr, flag Γ j = .own) (dj : disj (a.bs Γ) b.wr = true) {n n1 n2 : Env} {σ : L2.St} {H : Hp} {Z : AP1} (I : SI X.K Γ n σ H Z) {dx dy : D} (e1 : a.den Φ n = .ok dx n1) (e2 : b.den Φ n1 = .ok dy n2) {R : V → V → Hp → Prop}
    (h : ∀ x y H2 Z2, SI X.K Γ n2 σ H2 Z2 → KN n n2 → Fr (Adr (a.wr ++ b.wr) n σ) H Z H2 Z2 → RpB X.K H2 Z2 dx x → RpB X.K H2 Z2 dy y → (∀ H1 Z1, Val X.K Γ (a.md c Γ) (a.bs Γ) n1 σ H H1 Z1 dx x → True) → R x y H2) :
    ta σ H fun x H1 => tb σ H1 fun y H2 => R x y H2 :=
  ha n σ H Z I dx n1 e1 _ fun x H1 Z1 I1 k1 f1 v1 => hb n1 σ H1 Z1 I1 dy n2 e2 _ fun y H2 Z2 I2 k2 f2 v2 =>
    h x y H2 Z2 I2 (k1.trans k2) (f1.seq k1 f2) (v1.kp b.wr H2 Z2 wb (disj_out dj) f2) v2.rb fun _ _ _ => trivial
/-- an operation's end -/
theorem made_end {n n2 : Env} {σ : L2.St} {H H2 : Hp} {Z Z2 : AP1} {W : AP1} {d : D} (I : SI X.K Γ n σ H Z) (I2 : SI X.K Γ n2 σ H2 Z2) (kn : KN n n2) (f : Fr W H Z H2 Z2) (hW : ∀ p, W p → H p ≠ Option.none) {Q : VK}
    (q : ∀ v H' Z', SI X.K Γ n2 σ H' Z' → KN n n2 → Fr W H Z H' Z' → Val X.K Γ .own [] n2 σ H H' Z' d v → Q v H') : ∀ v H' Z', Made X.K H2 Z2 d v H' Z' → Q v H' := fun v H' Z' m => by
  obtain ⟨I3, f3, v3⟩ := m.si I2
  refine q v H' Z' I3 kn (f.trans f3 (fun p w => .inl w) fun p w => w.elim) ⟨v3.kp, (fun e => by cases e), fun _ => ?_⟩
  obtain ⟨o, hn⟩ := v3.ow rfl
  refine ⟨o, fun l a e1 e2 => ?_⟩
  have := hn l a e1 e2
  cases e : H a with
  | none => rfl
  | some ob => exact absurd this (f.there a (by rw [e]; simp))
theorem adr_some {n : Env} {σ : L2.St} {H : Hp} {Z : AP1} (I : SI X.K Γ n σ H Z) {M : List Nat} (hM : ∀ j ∈ M, flag Γ j = .own) : ∀ p, Adr M n σ p → H p ≠ Option.none := fun p w => by
  obtain ⟨_, xs, e⟩ := I.adr hM w
  rw [e]; simp
theorem wr_app {l m : List Nat} (h1 : ∀ j ∈ l, flag Γ j = .own) (h2 : ∀ j ∈ m, flag Γ j = .own) : ∀ j ∈ l ++ m, flag Γ j = .own := fun j hj => (List.mem_append.mp hj).elim (h1 j) (h2 j)

/-! ### each construct -/
theorem vis_of {sc : Scope} {x : Str} (h : visB sc x = true) : Vis sc x := by
  unfold visB at h
  simp only [Bool.or_eq_true, beq_iff_eq] at h
  rcases h with (h | h) | h
  · exact .inl h
  · exact .inr (.inl h)
  · exact .inr (.inr h)
theorem loc_of {sc : Scope} {x : Str} (h : locB sc x = true) : Loc sc x := by
  unfold locB at h
  simp only [Bool.or_eq_true, beq_iff_eq] at h
  exact h
theorem gl_of (ok : XOk Φ c k X) {x : Str} (h : glB c.sc x = true) : Gl X x := by
  unfold glB at h
  show X.env.scope.names.lookup x = _
  rw [ok.sc]
  simpa using h
theorem ge_var (ok : XOk Φ c k X) {i : Nat} {x : Str} {p : Pos} (h : (E.var i).chk c Γ (.Name x p) = true) : GE Φ c Γ X (.var i) (.Name x p) := by
  simp only [E.chk, Bool.and_eq_true, beq_iff_eq, Bool.not_eq_true'] at h
  obtain ⟨⟨⟨h1, h2⟩, h3⟩, h4⟩ := h
  refine ⟨fun j hj => by simp [E.wr] at hj, tVar i, pe_var (by rw [ok.N]; exact h1) (by rw [ok.sc]; exact vis_of h2) h3 h4, fun n σ H Z I d n' e Q q => ?_⟩
  simp only [E.den] at e
  obtain ⟨e1, rfl⟩ := lift_eq e
  obtain ⟨v, hv, _⟩ := I.slot i d e1
  exact ⟨v, hv, q v H Z I KN.refl Fr.refl (Val.slot I e1 hv)⟩
theorem ge_plain {e : E} {a : Expr} {d : D} {v : V} (hw : e.wr = []) (hm : e.md c Γ = .own) (hb : e.bs Γ = []) (hd : ∀ l, d ≠ .lst l) (hr : ∀ H Z, Rp X.K H Z d v) (hp : PE X a (tC v)) (hden : ∀ n, e.den Φ n = .ok d n) : GE Φ c Γ X e a := by
  refine ⟨fun j hj => by rw [hw] at hj; simp at hj, tC v, hp, fun n σ H Z I d' n' e1 Q q => ?_⟩
  rw [hden] at e1
  cases e1
  refine q v H Z I KN.refl Fr.refl ?_
  rw [hm, hb]
  exact Val.plain I hd (hr H Z)
theorem ge_cst (ok : XOk Φ c k X) {d : D} {a : Expr} (h : (E.cst d).chk c Γ a = true) : GE Φ c Γ X (.cst d) a := by
  cases d with
  | non =>
    cases a <;> first | cases (show false = true from h) | skip
    rename_i cc _ _
    cases cc <;> first | cases (show false = true from h) | skip
    exact ge_plain rfl rfl rfl (fun l e => by cases e) (fun H Z => by simp only [Rp]) pe_non fun n => rfl
  | bl b =>
    cases a <;> first | cases (show false = true from h) | skip
    rename_i cc _ _
    cases cc <;> first | cases (show false = true from h) | skip
    rename_i b2
    have e : b = b2 := by simpa using (show (b == b2) = true from h)
    subst e
    exact ge_plain rfl rfl rfl (fun l e => by cases e) (fun H Z => by simp only [Rp]) pe_bl fun n => rfl
  | int i =>
    cases a <;> first | cases (show false = true from h) | skip
    rename_i cc _ _
    cases cc <;> first | cases (show false = true from h) | skip
    rename_i b2
    have e : i = b2 := of_decide_eq_true h
    subst e
    exact ge_plain rfl rfl rfl (fun l e => by cases e) (fun H Z => by simp only [Rp]) pe_int fun n => rfl
  | str i =>
    cases a <;> first | cases (show false = true from h) | skip
    rename_i cc _ _
    cases cc <;> first | cases (show false = true from h) | skip
    rename_i b2
    have e : i = b2 := of_decide_eq_true h
    subst e
    exact ge_plain rfl rfl rfl (fun l e => by cases e) (fun H Z => by simp only [Rp]) pe_str fun n => rfl
  | ty t =>
    cases a <;> first | cases (show false = true from h) | skip
    rename_i x p
    simp only [E.chk, Bool.and_eq_true, Bool.or_eq_true, beq_iff_eq, decide_eq_true_eq] at h
    obtain ⟨⟨⟨h1, h2⟩, h3⟩, h4⟩ := h
    subst h4
    have hg := gl_of ok h1
    refine ge_plain (v := .ty t) rfl rfl rfl (fun l e => by cases e) (fun H Z => by simp only [Rp]) ?_ fun n => rfl
    rcases h3 with (((rfl | rfl) | rfl) | rfl) | rfl
    · exact pe_bltn hg (ok.bn _ (by decide)) boot_int rfl
    · exact pe_bltn (u := .type "bool") hg (ok.bn _ (by decide)) (by decide +kernel) rfl
    · exact pe_bltn (u := .type "str") hg (ok.bn _ (by decide)) (by decide +kernel) rfl
    · exact pe_bltn (u := .type "tuple") hg (ok.bn _ (by decide)) (by decide +kernel) rfl
    · exact pe_bltn (u := .type "list") hg (ok.bn _ (by decide)) (by decide +kernel) rfl
  | _ => cases a <;> cases (show false = true from h)
theorem ge_glb (ok : XOk Φ c k X) {x : Str} {d : D} {a : Expr} (h : (E.glb x d).chk c Γ a = true) : GE Φ c Γ X (.glb x d) a := by
  cases a <;> first | cases (show false = true from h) | skip
  rename_i y p
  have h : (glB c.sc x && decide (x = y) && (c.G.any fun g => decide (g.1 = x) && deq g.2 d) && !(x == ("__debug__" : Str))) = true := h
  simp only [Bool.and_eq_true, decide_eq_true_eq, Bool.not_eq_true'] at h
  obtain ⟨⟨⟨h1, rfl⟩, h2⟩, h3⟩ := h
  obtain ⟨g, hg, h4⟩ := List.any_eq_true.mp h2
  simp only [Bool.and_eq_true, decide_eq_true_eq] at h4
  obtain ⟨rfl, h5⟩ := h4
  have h5 := deq_eq _ _ h5
  subst h5
  obtain ⟨u, v, e1, e2, e3⟩ := ok.G g hg
  refine ⟨fun j hj => by simp [E.wr] at hj, tC v, pe_glob (gl_of ok h1) e1 e2 h3, fun n σ H Z I d' n' e Q q => ?_⟩
  simp only [E.den, ER.ok.injEq] at e
  obtain ⟨rfl, rfl⟩ := e
  exact q v H Z I KN.refl Fr.refl (Val.frz I (e3 H Z))
theorem ge_bin (ok : XOk Φ c k X) {o : Bop} {p : Operator} {a b : E} {l r : Expr} {pos : Pos} (hp : bopB o p = true) (ha : GE Φ c Γ X a l) (hb : GE Φ c Γ X b r) (dj : disj (a.bs Γ) b.wr = true) : GE Φ c Γ X (.bin o a b) (.BinOp l p r pos) := by
  obtain ⟨wa, ta, pa, qa⟩ := ha
  obtain ⟨wb, tb, pb, qb⟩ := hb
  obtain ⟨rr, ho, hq⟩ := og_bin (X := X) hp
  refine ⟨by simp only [E.wr]; exact wr_app wa wb, _, pe_op ho pa pb, fun n σ H Z I d n' e Q q => ?_⟩
  simp only [E.den] at e
  obtain ⟨x, n1, e1, e⟩ := ER.bind_eq e
  obtain ⟨y, n2, e2, e⟩ := ER.bind_eq e
  obtain ⟨e3, rfl⟩ := lift_eq e
  refine ge2 qa qb wb dj I e1 e2 (ea := l) (eb := r) fun vx vy H2 Z2 I2 kn f rx ry _ => ?_
  exact hq H2 Z2 x y d vx vy I2.zok e3 rx ry Q (made_end I I2 kn f (adr_some I (wr_app wa wb)) q)
theorem ge_cmp (ok : XOk Φ c k X) {o : Cop} {p : CmpOp} {a b : E} {l r : Expr} {pos : Pos} (hp : copB o p = true) (ha : GE Φ c Γ X a l) (hb : GE Φ c Γ X b r) (dj : disj (a.bs Γ) b.wr = true) (hs : notSet r = true) : GE Φ c Γ X (.cmp o a b) (.Compare l [p] [r] pos) ∧ GT Φ c Γ X (.cmp o a b) (.Compare l [p] [r] pos) := by
  obtain ⟨wa, ta, pa, qa⟩ := ha
  obtain ⟨wb, tb, pb, qb⟩ := hb
  obtain ⟨rr, ho, hq⟩ := og_cmp (X := X) hp ok.units
  have hm : behindInMarks p r = false := by cases r <;> first | rfl | exact Bool.noConfusion hs
  have key : ∀ n σ H Z, SI X.K Γ n σ H Z → ∀ d n', (E.cmp o a b).den Φ n = .ok d n' → ∀ Q : VK,
      (∀ v H' Z', SI X.K Γ n' σ H' Z' → KN n n' → Fr (Adr (E.cmp o a b).wr n σ) H Z H' Z' → Val X.K Γ .own [] n' σ H H' Z' d v → Q v H') → tOp rr ta tb σ H Q := fun n σ H Z I d n' e Q q => by
    simp only [E.den] at e
    obtain ⟨x, n1, e1, e⟩ := ER.bind_eq e
    obtain ⟨y, n2, e2, e⟩ := ER.bind_eq e
    obtain ⟨e3, rfl⟩ := lift_eq e
    refine ge2 qa qb wb dj I e1 e2 (ea := l) (eb := r) fun vx vy H2 Z2 I2 kn f rx ry _ => ?_
    exact hq H2 Z2 x y d vx vy I2.zok e3 rx ry Q (made_end I I2 kn f (adr_some I (wr_app wa wb)) q)
  refine ⟨⟨by simp only [E.wr]; exact wr_app wa wb, _, pe_cmpR ho pa pb hm, key⟩, ⟨by simp only [E.wr]; exact wr_app wa wb, _, pt_cmpR ho pa pb hm, fun n σ H Z I d n' e Q q => ?_⟩⟩
  refine key n σ H Z I _ n' (toBl_eq e) _ fun v H' Z' I' kn f vv => ⟨d, ?_, q H' Z' I' kn f⟩
  exact rpb_bl vv.rb
end
end Sc
namespace Sc
open PySem PySem.Spec PyProof.Rows L2
section
variable {Φ : Fns} {c : Cx0} {Γ : List Fg} {X : Cx} {k : Nat}

theorem star1 {e : Expr} {es : List Expr} {env : PySem.Env} (h : notStar e = true) : starEach (e :: es) env = (false, eval e env) :: starEach es env := by
  cases e <;> first | rfl | exact Bool.noConfusion h
theorem starAll {pos : Pos} {env : PySem.Env} : ∀ {es : List Expr}, (∀ e ∈ es, notStar e = true) → (backTo pos (starEach es env)).any (·.1) = false
  | [], _ => rfl
  | e :: r, h => by
    rw [star1 (h e (by simp))]
    have ih := starAll (pos := pos) (env := env) (es := r) fun x hx => h x (by simp [hx])
    show ((false : Bool) || (backTo pos (starEach r env)).any (·.1)) = false
    rw [ih]; rfl
theorem plainIx {b : Expr} (h : notSlc b = true) : PlainIx b := by
  cases b <;> first | (exact fun _ _ => rfl) | exact Bool.noConfusion h
theorem plain_true {a : Expr} {env : PySem.Env} (h : plainT a = true) : ∀ whole, isTrue a env whole = (do let v ← whole; standAt a.pos; holding [v] (truthy v)) := by
  cases a <;> first | (exact fun _ => rfl) | exact Bool.noConfusion h | skip
  rename_i op _ _
  cases op <;> first | (exact fun _ => rfl) | exact Bool.noConfusion h

/-! ### tests -/
def isBO : Expr → Bool
  | .BoolOp .. => true
  | _ => false
/-- a test; where it is an and, an or: whatever its whole is -/
structure GW (Φ : Fns) (c : Cx0) (Γ : List Fg) (X : Cx) (e : E) (a : Expr) : Prop where
  wr : ∀ j ∈ e.wr, flag Γ j = .own
  pt : ∃ t, PT X a t ∧ (isBO a = true → PW X a t) ∧ ∀ n σ H Z, SI X.K Γ n σ H Z → ∀ b n', toBl (e.den Φ n) = .ok b n' → ∀ Q : Bool → Hp → Prop,
    (∀ H' Z', SI X.K Γ n' σ H' Z' → KN n n' → Fr (Adr e.wr n σ) H Z H' Z' → Q b H') → t σ H Q
theorem GT.w {e : E} {a : Expr} (h : GT Φ c Γ X e a) (hb : isBO a = false) : GW Φ c Γ X e a := by
  obtain ⟨w, t, p, q⟩ := h
  exact ⟨w, t, p, fun e => (by rw [hb] at e; cases e), q⟩
theorem GE.w {e : E} {a : Expr} (h : GE Φ c Γ X e a) (hp : plainT a = true) : GW Φ c Γ X e a := by
  obtain ⟨w, t, p, q⟩ := h
  refine ⟨w, _, pt_val p (plain_true hp), fun e => (by cases a <;> first | exact Bool.noConfusion e | exact Bool.noConfusion hp), fun n σ H Z I b n' e Q k => ?_⟩
  exact q n σ H Z I _ n' (toBl_eq e) _ fun v H' Z' I' kn f vv => ⟨b, rpb_bl vv.rb, k H' Z' I' kn f⟩
theorem den_nt {a : E} {n n' : Env} {d : D} (e : (E.nt a).den Φ n = .ok d n') : ∃ b, toBl (a.den Φ n) = .ok b n' ∧ d = .bl (!b) := by
  simp only [E.den] at e
  obtain ⟨x, n1, e1, e⟩ := ER.bind_eq e
  cases e
  exact ⟨x, e1, rfl⟩
theorem ge_nt {a : E} {l : Expr} {p : Pos} (ha : GE Φ c Γ X a l) : GE Φ c Γ X (.nt a) (.UnaryOp .Not l p) := by
  obtain ⟨w, t, pe, q⟩ := ha
  refine ⟨by simp only [E.wr]; exact w, _, pe_not pe, fun n σ H Z I d n' e Q k => ?_⟩
  obtain ⟨b, e1, rfl⟩ := den_nt e
  refine q n σ H Z I _ n' (toBl_eq e1) _ fun v H' Z' I' kn f vv => ⟨b, rpb_bl vv.rb, k _ H' Z' I' kn f ?_⟩
  exact Val.plain I' (fun l e => by cases e) (by simp only [Rp])
theorem gw_nt {a : E} {l : Expr} {p : Pos} (ha : GW Φ c Γ X a l) : GW Φ c Γ X (.nt a) (.UnaryOp .Not l p) := by
  obtain ⟨w, t, pt, _, q⟩ := ha
  refine ⟨by simp only [E.wr]; exact w, _, pt_not pt, (fun e => by cases e), fun n σ H Z I b n' e Q k => ?_⟩
  obtain ⟨b2, e1, e2⟩ := den_nt (toBl_eq e)
  cases e2
  exact q n σ H Z I b2 n' e1 _ fun H' Z' I' kn f => k H' Z' I' kn f
theorem den_an {a b : E} {n n' : Env} {d : D} (e : (E.an a b).den Φ n = .ok d n') : (toBl (a.den Φ n) = .ok false n' ∧ d = .bl false) ∨ ∃ n1 x, toBl (a.den Φ n) = .ok true n1 ∧ toBl (b.den Φ n1) = .ok x n' ∧ d = .bl x := by
  simp only [E.den] at e
  obtain ⟨x, n1, e1, e⟩ := ER.bind_eq e
  cases x with
  | false => cases e; exact .inl ⟨e1, rfl⟩
  | true =>
    obtain ⟨y, n2, e2, e⟩ := ER.bind_eq (show (toBl (b.den Φ n1)).bind _ = _ from e)
    cases e
    exact .inr ⟨n1, y, e1, e2, rfl⟩
theorem den_or {a b : E} {n n' : Env} {d : D} (e : (E.or a b).den Φ n = .ok d n') : (toBl (a.den Φ n) = .ok true n' ∧ d = .bl true) ∨ ∃ n1 x, toBl (a.den Φ n) = .ok false n1 ∧ toBl (b.den Φ n1) = .ok x n' ∧ d = .bl x := by
  simp only [E.den] at e
  obtain ⟨x, n1, e1, e⟩ := ER.bind_eq e
  cases x with
  | true => cases e; exact .inl ⟨e1, rfl⟩
  | false =>
    obtain ⟨y, n2, e2, e⟩ := ER.bind_eq (show (toBl (b.den Φ n1)).bind _ = _ from e)
    cases e
    exact .inr ⟨n1, y, e1, e2, rfl⟩
theorem Fr.left {M1 M2 : List Nat} {n : Env} {σ : L2.St} {H H1 : Hp} {Z Z1 : AP1} (a : Fr (Adr M1 n σ) H Z H1 Z1) : Fr (Adr (M1 ++ M2) n σ) H Z H1 Z1 :=
  a.mono fun p w => .inl (w.mono fun i hi => List.mem_append_left _ hi)
theorem pe_rest {op : PySem.BoolOp} {p : Pos} {m : Expr} {r : List Expr} {t : TE} (h : PE X (restB op p (m :: r)) t) : PE X (.BoolOp op (m :: r) p) t := by
  cases r with
  | nil => exact pe_one h
  | cons _ _ => exact h
theorem ge_an {a b : E} {l m : Expr} {r : List Expr} {p : Pos} (ha : GE Φ c Γ X a l) (hb : GE Φ c Γ X b (restB .And p (m :: r))) : GE Φ c Γ X (.an a b) (.BoolOp .And (l :: m :: r) p) := by
  obtain ⟨wa, ta, pa, qa⟩ := ha
  obtain ⟨wb, tb, pb, qb⟩ := hb
  refine ⟨by simp only [E.wr]; exact wr_app wa wb, _, pe_and pa (pe_rest pb), fun n σ H Z I d n' e Q k => ?_⟩
  rcases den_an e with ⟨e1, rfl⟩ | ⟨n1, x, e1, e2, rfl⟩
  · refine qa n σ H Z I _ n' (toBl_eq e1) _ fun v H' Z' I' kn f vv => ⟨false, rpb_bl vv.rb, ?_⟩
    rw [if_neg Bool.false_ne_true]
    exact k _ H' Z' I' kn f.left (Val.plain I' (fun l e => by cases e) (by simp only [Rp]))
  · refine qa n σ H Z I _ n1 (toBl_eq e1) _ fun v H1 Z1 I1 kn f vv => ⟨true, rpb_bl vv.rb, ?_⟩
    rw [if_pos rfl]
    refine qb n1 σ H1 Z1 I1 _ n' (toBl_eq e2) _ fun v2 H2 Z2 I2 kn2 f2 vv2 => ?_
    refine k _ H2 Z2 I2 (kn.trans kn2) (f.seq kn f2) ?_
    rw [rpb_bl vv2.rb]
    exact Val.plain I2 (fun l e => by cases e) (by simp only [Rp])
theorem ge_or {a b : E} {l m : Expr} {r : List Expr} {p : Pos} (ha : GE Φ c Γ X a l) (hb : GE Φ c Γ X b (restB .Or p (m :: r))) : GE Φ c Γ X (.or a b) (.BoolOp .Or (l :: m :: r) p) := by
  obtain ⟨wa, ta, pa, qa⟩ := ha
  obtain ⟨wb, tb, pb, qb⟩ := hb
  refine ⟨by simp only [E.wr]; exact wr_app wa wb, _, pe_or pa (pe_rest pb), fun n σ H Z I d n' e Q k => ?_⟩
  rcases den_or e with ⟨e1, rfl⟩ | ⟨n1, x, e1, e2, rfl⟩
  · refine qa n σ H Z I _ n' (toBl_eq e1) _ fun v H' Z' I' kn f vv => ⟨true, rpb_bl vv.rb, ?_⟩
    rw [if_pos rfl]
    exact k _ H' Z' I' kn f.left (Val.plain I' (fun l e => by cases e) (by simp only [Rp]))
  · refine qa n σ H Z I _ n1 (toBl_eq e1) _ fun v H1 Z1 I1 kn f vv => ⟨false, rpb_bl vv.rb, ?_⟩
    rw [if_neg Bool.false_ne_true]
    refine qb n1 σ H1 Z1 I1 _ n' (toBl_eq e2) _ fun v2 H2 Z2 I2 kn2 f2 vv2 => ?_
    refine k _ H2 Z2 I2 (kn.trans kn2) (f.seq kn f2) ?_
    rw [rpb_bl vv2.rb]
    exact Val.plain I2 (fun l e => by cases e) (by simp only [Rp])
theorem pw_rest {op : PySem.BoolOp} {p : Pos} {m : Expr} {r : List Expr} {t : TT} (h : PT X (restB op p (m :: r)) t) (h2 : isBO (restB op p (m :: r)) = true → PW X (restB op p (m :: r)) t) : PW X (.BoolOp op (m :: r) p) t := by
  cases r with
  | nil =>
    cases op
    · exact pw_and1 h
    · exact pw_or1 h
  | cons _ _ => exact h2 rfl
theorem gw_an {a b : E} {l m : Expr} {r : List Expr} {p : Pos} (ha : GW Φ c Γ X a l) (hb : GW Φ c Γ X b (restB .And p (m :: r))) : GW Φ c Γ X (.an a b) (.BoolOp .And (l :: m :: r) p) := by
  obtain ⟨wa, ta, pa, _, qa⟩ := ha
  obtain ⟨wb, tb, pb, xb, qb⟩ := hb
  have pw := pw_and (pos := p) pa (pw_rest pb xb)
  refine ⟨by simp only [E.wr]; exact wr_app wa wb, _, pw.pt, fun _ => pw, fun n σ H Z I d n' e Q k => ?_⟩
  rcases den_an (toBl_eq e) with ⟨e1, e3⟩ | ⟨n1, x, e1, e2, e3⟩
  · cases e3
    refine qa n σ H Z I _ n' e1 _ fun H' Z' I' kn f => ?_
    rw [if_neg Bool.false_ne_true]
    exact k H' Z' I' kn f.left
  · cases e3
    refine qa n σ H Z I _ n1 e1 _ fun H1 Z1 I1 kn f => ?_
    rw [if_pos rfl]
    exact qb n1 σ H1 Z1 I1 _ n' e2 _ fun H2 Z2 I2 kn2 f2 => k H2 Z2 I2 (kn.trans kn2) (f.seq kn f2)
theorem gw_or {a b : E} {l m : Expr} {r : List Expr} {p : Pos} (ha : GW Φ c Γ X a l) (hb : GW Φ c Γ X b (restB .Or p (m :: r))) : GW Φ c Γ X (.or a b) (.BoolOp .Or (l :: m :: r) p) := by
  obtain ⟨wa, ta, pa, _, qa⟩ := ha
  obtain ⟨wb, tb, pb, xb, qb⟩ := hb
  have pw := pw_or (pos := p) pa (pw_rest pb xb)
  refine ⟨by simp only [E.wr]; exact wr_app wa wb, _, pw.pt, fun _ => pw, fun n σ H Z I d n' e Q k => ?_⟩
  rcases den_or (toBl_eq e) with ⟨e1, e3⟩ | ⟨n1, x, e1, e2, e3⟩
  · cases e3
    refine qa n σ H Z I _ n' e1 _ fun H' Z' I' kn f => ?_
    rw [if_pos rfl]
    exact k H' Z' I' kn f.left
  · cases e3
    refine qa n σ H Z I _ n1 e1 _ fun H1 Z1 I1 kn f => ?_
    rw [if_neg Bool.false_ne_true]
    exact qb n1 σ H1 Z1 I1 _ n' e2 _ fun H2 Z2 I2 kn2 f2 => k H2 Z2 I2 (kn.trans kn2) (f.seq kn f2)

/-! ### neg, chains, if-else, items, slices -/
theorem ge_neg {a : E} {l : Expr} {p : Pos} (ha : GE Φ c Γ X a l) : GE Φ c Γ X (.neg a) (.UnaryOp .USub l p) := by
  obtain ⟨w, t, pe, q⟩ := ha
  refine ⟨by simp only [E.wr]; exact w, _, pe_un un_neg pe, fun n σ H Z I d n' e Q k => ?_⟩
  simp only [E.den] at e
  obtain ⟨x, n1, e1, e⟩ := ER.bind_eq e
  cases x <;> simp only [reduceCtorEq, ER.ok.injEq] at e
  obtain ⟨rfl, rfl⟩ := e
  refine q n σ H Z I _ n1 e1 _ fun v H' Z' I' kn f vv => ⟨_, rpb_int vv.rb, k _ H' Z' I' kn f ?_⟩
  exact Val.plain I' (fun l e => by cases e) (by simp only [Rp])
theorem made_bl_inv {K : PySem.W.Frag} {H H' : Hp} {Z Z' : AP1} {b : Bool} {v : V} (m : Made K H Z (.bl b) v H' Z') : v = .bl b ∧ H' = H := by
  cases m with
  | same _ r => exact ⟨by simpa only [Rp] using r, rfl⟩
  | tup e _ _ => cases e
  | lst e _ _ => cases e
theorem made_bl_inv' {K : PySem.W.Frag} {H H' : Hp} {Z Z' : AP1} {b : Bool} {v : V} (m : Made K H Z (.bl b) v H' Z') : v = .bl b ∧ H' = H ∧ Z' = Z := by
  cases m with
  | same _ r => exact ⟨by simpa only [Rp] using r, rfl, rfl⟩
  | tup e _ _ => cases e
  | lst e _ _ => cases e
theorem chn_key {o p : Cop} {q q' : CmpOp} {a b d : E} {l r s : Expr} {pos : Pos} (ok : XOk Φ c k X) (h1 : copB o q = true) (h2 : copB p q' = true) (ha : GE Φ c Γ X a l) (hb : GE Φ c Γ X b r) (hd : GE Φ c Γ X d s)
    (d1 : disj (a.bs Γ) b.wr = true) (d2 : disj (b.bs Γ) d.wr = true) (s1 : notSet r = true) (s2 : notSet s = true) :
    GE Φ c Γ X (.chn o p a b d) (.Compare l [q, q'] [r, s] pos) ∧ GW Φ c Γ X (.chn o p a b d) (.Compare l [q, q'] [r, s] pos) := by
  obtain ⟨wa, ta, pa, qa⟩ := ha
  obtain ⟨wb, tb, pb, qb⟩ := hb
  obtain ⟨wd, td, pd, qd⟩ := hd
  obtain ⟨r1, o1, g1⟩ := og_cmp (X := X) h1 ok.units
  obtain ⟨r2, o2, g2⟩ := og_cmp (X := X) h2 ok.units
  have w3 : ∀ j ∈ (E.chn o p a b d).wr, flag Γ j = .own := by simp only [E.wr]; exact wr_app wa (wr_app wb wd)
  have m2 : behindInMarks q' s = false := by cases s <;> first | rfl | exact Bool.noConfusion s2
  have m3 : lastMarks [q, q'] [r, s] = false := by
    first | exact m2 | (simp only [lastMarks]; exact m2)
  have key : ∀ n σ H Z, SI X.K Γ n σ H Z → ∀ dd n', (E.chn o p a b d).den Φ n = .ok dd n' → ∃ bb, dd = .bl bb ∧ ∀ Q : VK,
      (∀ H' Z', SI X.K Γ n' σ H' Z' → KN n n' → Fr (Adr (E.chn o p a b d).wr n σ) H Z H' Z' → Q (.bl bb) H') → tChain r1 r2 ta tb td σ H Q := fun n σ H Z I dd n' e => by
    simp only [E.den] at e
    obtain ⟨x, n1, e1, e⟩ := ER.bind_eq e
    obtain ⟨y, n2, e2, e⟩ := ER.bind_eq e
    obtain ⟨t1, n3, e3, e⟩ := ER.bind_eq e
    obtain ⟨e3', en⟩ := lift_eq e3
    subst en
    cases t1 with
    | false =>
      cases e
      refine ⟨false, rfl, fun Q kq => ?_⟩
      refine qa n σ H Z I x n1 e1 _ fun vx H1 Z1 I1 k1 f1 v1 => qb n1 σ H1 Z1 I1 y _ e2 _ fun vy H2 Z2 I2 k2 f2 v2 => ?_
      refine g1 H2 Z2 x y (.bl false) vx vy I2.zok (by show (cmpD o x y).map D.bl = _; rw [e3']; rfl) (v1.kp b.wr H2 Z2 wb (disj_out d1) f2) v2.rb _ fun v H3 Z3 m => ?_
      obtain ⟨ev, eh⟩ := made_bl_inv m
      subst ev eh
      refine ⟨false, rfl, ?_⟩
      rw [if_neg Bool.false_ne_true]
      refine kq _ Z2 I2 (k1.trans k2) ?_
      simp only [E.wr]
      exact f1.seq k1 (f2.left)
    | true =>
      obtain ⟨z, n4, e4, e⟩ := ER.bind_eq (show (d.den Φ n2).bind _ = _ from e)
      obtain ⟨e5, en⟩ := lift_eq e
      subst en
      obtain ⟨t2, e6, rfl⟩ := Option.map_eq_some_iff.mp e5
      refine ⟨t2, rfl, fun Q kq => ?_⟩
      refine qa n σ H Z I x n1 e1 _ fun vx H1 Z1 I1 k1 f1 v1 => qb n1 σ H1 Z1 I1 y n2 e2 _ fun vy H2 Z2 I2 k2 f2 v2 => ?_
      refine g1 H2 Z2 x y (.bl true) vx vy I2.zok (by show (cmpD o x y).map D.bl = _; rw [e3']; rfl) (v1.kp b.wr H2 Z2 wb (disj_out d1) f2) v2.rb _ fun v H3 Z3 m => ?_
      obtain ⟨ev, eh⟩ := made_bl_inv m
      subst ev eh
      refine ⟨true, rfl, ?_⟩
      rw [if_pos rfl]
      refine qd n2 σ _ Z2 I2 z n4 e4 _ fun vz H4 Z4 I4 k4 f4 v4 => ?_
      refine g2 H4 Z4 y z (.bl t2) vy vz I4.zok (by show (cmpD p y z).map D.bl = _; rw [e6]; rfl) (v2.kp d.wr H4 Z4 wd (disj_out d2) f4) v4.rb _ fun v H5 Z5 m => ?_
      obtain ⟨ev, eh⟩ := made_bl_inv m
      subst ev eh
      refine kq _ Z4 I4 ((k1.trans k2).trans k4) ?_
      simp only [E.wr]
      exact f1.seq k1 (f2.seq k2 f4)
  refine ⟨⟨w3, _, pe_chain o1 o2 pa pb pd m3, fun n σ H Z I dd n' e Q kq => ?_⟩, ⟨w3, _, pt_chain o1 o2 pa pb pd m3, (fun e => by cases e), fun n σ H Z I b n' e Q kq => ?_⟩⟩
  · obtain ⟨bb, rfl, kk⟩ := key n σ H Z I dd n' e
    exact kk Q fun H' Z' I' kn f => kq _ H' Z' I' kn f (Val.plain I' (fun l e => by cases e) (by simp only [Rp]))
  · obtain ⟨bb, eb, kk⟩ := key n σ H Z I _ n' (toBl_eq e)
    cases eb
    exact kk _ fun H' Z' I' kn f => ⟨_, rfl, kq H' Z' I' kn f⟩
end
end Sc
namespace Sc
open PySem PySem.Spec PyProof.Rows L2
section
variable {Φ : Fns} {c : Cx0} {Γ : List Fg} {X : Cx} {k : Nat}
inductive GL (Φ : Fns) (c : Cx0) (Γ : List Fg) (X : Cx) : List E → List Expr → Prop
  | nil : GL Φ c Γ X [] []
  | cons {e : E} {a : Expr} {es : List E} {as : List Expr} : GE Φ c Γ X e a → notStar a = true → e.chk c Γ a = true → GL Φ c Γ X es as → GL Φ c Γ X (e :: es) (a :: as)
theorem GL.star : ∀ {es : List E} {as : List Expr}, GL Φ c Γ X es as → ∀ a ∈ as, notStar a = true
  | _, _, .cons _ h _ r, a, ha => by
    rcases List.mem_cons.mp ha with e | e
    · rw [e]; exact h
    · exact r.star a e
theorem denL_cons {e : E} {es : List E} {n n' : Env} {ds : List D} (h : denL Φ (e :: es) n = .ok ds n') : ∃ d n1 r, e.den Φ n = .ok d n1 ∧ denL Φ es n1 = .ok r n' ∧ ds = d :: r := by
  simp only [denL] at h
  obtain ⟨d, n1, e1, h⟩ := ER.bind_eq h
  obtain ⟨r, n2, e2, h⟩ := ER.bind_eq h
  cases h
  exact ⟨d, n1, r, e1, e2, rfl⟩
/-- all taken in -/
theorem gl_eat : ∀ {es : List E} {as : List Expr}, GL Φ c Γ X es as → (es.all fun e => decide (e.md c Γ ≠ .brw)) = true → (∀ j ∈ wrL es, flag Γ j = .own) ∧ ∃ t, PA X as t ∧ ∀ n σ H Z, SI X.K Γ n σ H Z → ∀ ds n', denL Φ es n = .ok ds n' →
    ∀ Q : List V → Hp → Prop, (∀ vs H' Z', SI X.K Γ n' σ H' Z' → KN n n' → Fr (Adr (wrL es) n σ) H Z H' Z' → RpL X.K H' Z' ds vs → Q vs H') → t σ H Q
  | _, _, .nil, _ => ⟨fun j hj => by simp [wrL] at hj, tNil, pa_nil, fun n σ H Z I ds n' e Q q => by
    simp only [denL, ER.ok.injEq] at e
    obtain ⟨rfl, rfl⟩ := e
    exact q [] H Z I KN.refl Fr.refl RpL.nil⟩
  | _, _, .cons (e := e) (es := es) g hs _ r, h => by
    simp only [List.all_cons, Bool.and_eq_true, decide_eq_true_eq] at h
    obtain ⟨we, te, pe, qe⟩ := g
    obtain ⟨wr, tr, pr, qr⟩ := gl_eat r h.2
    refine ⟨by simp only [wrL]; exact wr_app we wr, _, pa_cons pe pr (star1 hs), fun n σ H Z I ds n' e Q q => ?_⟩
    obtain ⟨d, n1, rs, e1, e2, rfl⟩ := denL_cons e
    refine qe n σ H Z I d n1 e1 _ fun v H1 Z1 I1 k1 f1 v1 => ?_
    obtain ⟨Z2, I2, f2, r2, _, _⟩ := v1.eat I1 I k1 f1 h.1
    refine qr n1 σ H1 Z2 I2 rs n' e2 _ fun vs H' Z' I' k' f' rl => q (v :: vs) H' Z' I' (k1.trans k') ?_ (RpL.cons (r2.fr f' fun p w => (I2.adr wr w).1) rl)
    simp only [wrL]
    exact f2.seq k1 f'
/-- all read -/
theorem gl_read : ∀ {es : List E} {as : List Expr}, GL Φ c Γ X es as → chkB Γ es = true → (∀ j ∈ wrL es, flag Γ j = .own) ∧ ∃ t, PA X as t ∧ ∀ n σ H Z, SI X.K Γ n σ H Z → ∀ ds n', denL Φ es n = .ok ds n' →
    ∀ Q : List V → Hp → Prop, (∀ vs H' Z', SI X.K Γ n' σ H' Z' → KN n n' → Fr (Adr (wrL es) n σ) H Z H' Z' → RpBL X.K H' Z' ds vs → Q vs H') → t σ H Q
  | _, _, .nil, _ => ⟨fun j hj => by simp [wrL] at hj, tNil, pa_nil, fun n σ H Z I ds n' e Q q => by
    simp only [denL, ER.ok.injEq] at e
    obtain ⟨rfl, rfl⟩ := e
    exact q [] H Z I KN.refl Fr.refl rfl⟩
  | _, _, .cons (e := e) (es := es) g hs _ r, h => by
    simp only [chkB, Bool.and_eq_true] at h
    obtain ⟨we, te, pe, qe⟩ := g
    obtain ⟨wr, tr, pr, qr⟩ := gl_read r h.2
    refine ⟨by simp only [wrL]; exact wr_app we wr, _, pa_cons pe pr (star1 hs), fun n σ H Z I ds n' e Q q => ?_⟩
    obtain ⟨d, n1, rs, e1, e2, rfl⟩ := denL_cons e
    refine qe n σ H Z I d n1 e1 _ fun v H1 Z1 I1 k1 f1 v1 => ?_
    refine qr n1 σ H1 Z1 I1 rs n' e2 _ fun vs H' Z' I' k' f' rl => q (v :: vs) H' Z' I' (k1.trans k') ?_ ⟨v, vs, rfl, v1.kp _ H' Z' wr (disj_out h.1) f', rl⟩
    simp only [wrL]
    exact f1.seq k1 f'
theorem ge_tup {es : List E} {as : List Expr} {x1 : Nat} {p : Pos} (g : GL Φ c Γ X es as) (h : (es.all fun e => decide (e.md c Γ ≠ .brw)) = true) : GE Φ c Γ X (.tup es) (.Tuple as x1 p) := by
  obtain ⟨w, t, pa, q⟩ := gl_eat g h
  refine ⟨by simp only [E.wr]; exact w, _, pe_tup pa, fun n σ H Z I d n' e Q kq => ?_⟩
  simp only [E.den] at e
  obtain ⟨ds, n1, e1, e⟩ := ER.bind_eq e
  split at e
  · rename_i hz
    cases e
    refine q n σ H Z I ds _ e1 _ fun vs H' Z' I' kn f rl => ⟨by rw [← rl.len, ← big_eq]; exact hz, fun p hp => ?_⟩
    simp only [E.wr] at kq
    exact made_end I I' kn f (adr_some I w) kq _ _ _ (.tup rfl hp rl)
  · cases e
theorem ge_lst {es : List E} {as : List Expr} {p : Pos} (g : GL Φ c Γ X es as) (h : (es.all fun e => decide (e.md c Γ ≠ .brw)) = true) : GE Φ c Γ X (.lst es) (.List as p) := by
  obtain ⟨w, t, pa, q⟩ := gl_eat g h
  refine ⟨by simp only [E.wr]; exact w, _, pe_lst pa, fun n σ H Z I d n' e Q kq => ?_⟩
  simp only [E.den] at e
  obtain ⟨ds, n1, e1, e⟩ := ER.bind_eq e
  split at e
  · rename_i hz
    cases e
    refine q n σ H Z I ds _ e1 _ fun vs H' Z' I' kn f rl => ⟨by rw [← rl.len, ← big_eq]; exact hz, fun p hp => ?_⟩
    simp only [E.wr] at kq
    exact made_end I I' kn f (adr_some I w) kq _ _ _ (.lst rfl hp rl)
  · cases e
theorem ge_ife {d a b : E} {t l r : Expr} {p : Pos} (hd : GW Φ c Γ X d t) (ha : GE Φ c Γ X a l) (hb : GE Φ c Γ X b r) : GE Φ c Γ X (.ife d a b) (.IfExp t l r p) := by
  obtain ⟨wd, td, pd, _, qd⟩ := hd
  obtain ⟨wa, ta, pa, qa⟩ := ha
  obtain ⟨wb, tb, pb, qb⟩ := hb
  have vm : ∀ {m m2 : Fg} {bb b2 : List Nat} {n' : Env} {σ : L2.St} {H H1 H' : Hp} {Z' : AP1} {x : D} {v : V}, Val X.K Γ m bb n' σ H1 H' Z' x v → (∀ a, H1 a = none → H a = none) → (m2 = m ∨ m2 = .brw) → (∀ i ∈ bb, i ∈ b2) → Val X.K Γ m2 b2 n' σ H H' Z' x v := by
    intro m m2 bb b2 n' σ H H1 H' Z' x v vv hh hm hi
    refine ⟨fun M H2 Z2 hM hb f => vv.kp M H2 Z2 hM (fun i h => hb i (hi i h)) f, fun e => vv.fz ?_, fun e => ?_⟩
    · rcases hm with h | h
      · rw [← h]; exact e
      · rw [h] at e; cases e
    · rcases hm with h | h
      · obtain ⟨o, q⟩ := vv.ow (by rw [← h]; exact e)
        exact ⟨o, fun l a e1 e2 => hh a (q l a e1 e2)⟩
      · rw [h] at e; cases e
  have hnone : ∀ {W : AP1} {H H1 : Hp} {Z Z1 : AP1}, Fr W H Z H1 Z1 → ∀ a, H1 a = none → H a = none := fun f a h => by
    rename_i H _ _ _
    cases e : H a with
    | none => rfl
    | some o => exact absurd h (f.there a (by rw [e]; simp))
  refine ⟨by simp only [E.wr]; exact wr_app wd (wr_app wa wb), _, pe_ifExp pd pa pb, fun n σ H Z I x n' e Q kq => ?_⟩
  simp only [E.den] at e
  obtain ⟨bb, n1, e1, e⟩ := ER.bind_eq e
  refine qd n σ H Z I bb n1 e1 _ fun H1 Z1 I1 k1 f1 => ?_
  cases bb with
  | true =>
    rw [if_pos rfl]
    refine qa n1 σ H1 Z1 I1 x n' (by simpa using e) _ fun v H' Z' I' k' f' vv => kq v H' Z' I' (k1.trans k') ?_ (vm vv (hnone f1) ?_ fun i h => List.mem_append_left _ h)
    · simp only [E.wr]
      exact (f1.seq k1 f').mono fun p w => .inl (w.mono fun i hi => (List.mem_append.mp hi).elim (fun h => List.mem_append_left _ h) fun h => List.mem_append_right _ (List.mem_append_left _ h))
    · simp only [E.md]; split
      · exact .inl rfl
      · exact .inr rfl
  | false =>
    rw [if_neg Bool.false_ne_true]
    refine qb n1 σ H1 Z1 I1 x n' (by simpa using e) _ fun v H' Z' I' k' f' vv => kq v H' Z' I' (k1.trans k') ?_ (vm vv (hnone f1) ?_ fun i h => List.mem_append_right _ h)
    · simp only [E.wr]
      exact (f1.seq k1 f').mono fun p w => .inl (w.mono fun i hi => (List.mem_append.mp hi).elim (fun h => List.mem_append_left _ h) fun h => List.mem_append_right _ (List.mem_append_right _ h))
    · simp only [E.md]; split
      · rename_i h; exact .inl h
      · exact .inr rfl
theorem ge_idx {a b : E} {l r : Expr} {p : Pos} (ha : GE Φ c Γ X a l) (hb : GE Φ c Γ X b r) (dj : disj (a.bs Γ) b.wr = true) (hs : notSlc r = true) : GE Φ c Γ X (.idx a b) (.Subscript l r p) := by
  obtain ⟨wa, ta, pa, qa⟩ := ha
  obtain ⟨wb, tb, pb, qb⟩ := hb
  refine ⟨by simp only [E.wr]; exact wr_app wa wb, _, pe_ix ix_seq pa pb (plainIx hs), fun n σ H Z I d n' e Q kq => ?_⟩
  simp only [E.den] at e
  obtain ⟨x, n1, e1, e⟩ := ER.bind_eq e
  obtain ⟨y, n2, e2, e⟩ := ER.bind_eq e
  obtain ⟨e3, en⟩ := lift_eq e
  subst en
  refine ge2 qa qb wb dj I e1 e2 (ea := l) (eb := r) fun vx vy H2 Z2 I2 kn f rx ry _ => ?_
  refine ix_ok e3 rx ry fun v rv => kq v H2 Z2 I2 kn ?_ ?_
  · simp only [E.wr]; exact f
  · simp only [E.md, E.bs]; exact Val.frz I2 rv
/-- a slice's part -/
structure GO (Φ : Fns) (c : Cx0) (Γ : List Fg) (X : Cx) (e : E) (o : Option Expr) : Prop where
  wr : ∀ j ∈ e.wr, flag Γ j = .own
  po : ∃ t, PO X o t ∧ ∀ n σ H Z, SI X.K Γ n σ H Z → ∀ d n', optR e (e.den Φ n) n = .ok d n' → ∀ Q : Option Int → Hp → Prop,
    (∀ p H' Z', SI X.K Γ n' σ H' Z' → KN n n' → Fr (Adr e.wr n σ) H Z H' Z' → PartV d p → Q p H') → t σ H Q
theorem go_none : GO Φ c Γ X .no none := by
  refine ⟨fun j hj => by simp [E.wr] at hj, tNoPart, po_none, fun n σ H Z I d n' e Q kq => ?_⟩
  simp only [optR, ER.ok.injEq] at e
  obtain ⟨rfl, rfl⟩ := e
  exact kq none H Z I KN.refl Fr.refl (.inl ⟨rfl, rfl⟩)
theorem opt_ok {e : E} {r : ER D} {n n' : Env} {d : D} (hn : e.isNo = false) (h : optR e r n = .ok d n') : ∃ i, r = .ok (.int i) n' ∧ d = .int i := by
  have h : (r.bind fun x n => match x with
    | .int i => ER.ok (D.int i) n
    | _ => .bad) = .ok d n' := by cases e <;> first | exact h | exact Bool.noConfusion hn
  obtain ⟨x, m, e1, e2⟩ := ER.bind_eq h
  cases x <;> simp only [reduceCtorEq, ER.ok.injEq] at e2
  exact ⟨_, by rw [e1, e2.2], e2.1.symm⟩
theorem go_some {e : E} {a : Expr} (hn : e.isNo = false) (h : GE Φ c Γ X e a) : GO Φ c Γ X e (some a) := by
  obtain ⟨w, t, p, q⟩ := h
  refine ⟨w, _, po_some p, fun n σ H Z I d n' e Q kq => ?_⟩
  obtain ⟨i, e1, rfl⟩ := opt_ok hn e
  exact q n σ H Z I _ n' e1 _ fun v H' Z' I' kn f vv => ⟨i, rpb_int vv.rb, kq _ H' Z' I' kn f (.inr ⟨i, rfl, rfl⟩)⟩
theorem ge_slc {a lo hi : E} {l : Expr} {lo' hi' : Option Expr} {p p2 : Pos} (ha : GE Φ c Γ X a l) (hl : GO Φ c Γ X lo lo') (hh : GO Φ c Γ X hi hi') (dj : disj (a.bs Γ) (lo.wr ++ hi.wr) = true) : GE Φ c Γ X (.slc a lo hi) (.Subscript l (.Slice lo' hi' none p2) p) := by
  obtain ⟨wa, ta, pa, qa⟩ := ha
  obtain ⟨wl, tl, pl, ql⟩ := hl
  obtain ⟨wh, th, ph, qh⟩ := hh
  refine ⟨by simp only [E.wr]; exact wr_app wa (wr_app wl wh), _, pe_slice (SlR.or sl_list sl_tupA) pa pl ph, fun n σ H Z I d n' e Q kq => ?_⟩
  simp only [E.den] at e
  obtain ⟨x, n1, e1, e⟩ := ER.bind_eq e
  obtain ⟨y, n2, e2, e⟩ := ER.bind_eq e
  obtain ⟨z, n3, e3, e⟩ := ER.bind_eq e
  obtain ⟨e4, en⟩ := lift_eq e
  subst en
  refine qa n σ H Z I x n1 e1 _ fun v H1 Z1 I1 k1 f1 v1 => ql n1 σ H1 Z1 I1 y n2 e2 _ fun p1 H2 Z2 I2 k2 f2 v2 => qh n2 σ H2 Z2 I2 z _ e3 _ fun p3 H3 Z3 I3 k3 f3 v3 => ?_
  have ff := f1.seq k1 (f2.seq k2 f3)
  simp only [E.wr] at kq
  exact sl_ok I3.zok e4 (v1.kp _ H3 Z3 (wr_app wl wh) (disj_out dj) (f2.seq k2 f3)) v2 v3 (made_end I I3 (k1.trans (k2.trans k3)) ff (adr_some I (wr_app wa (wr_app wl wh))) kq)
theorem ge_rvt {a : E} {l x : Expr} (ha : GE Φ c Γ X a l) (hx : asRev x = some l) : GE Φ c Γ X (.rvt a) x := by
  obtain ⟨wa, ta, pa, qa⟩ := ha
  unfold asRev at hx
  split at hx
  · cases hx
    refine ⟨by simp only [E.wr]; exact wa, _, pe_revB pa, fun n σ H Z I d n' e Q kq => ?_⟩
    simp only [E.den] at e
    obtain ⟨x, n1, e1, e⟩ := ER.bind_eq e
    obtain ⟨e4, en⟩ := lift_eq e
    subst en
    refine qa n σ H Z I x _ e1 _ fun v H1 Z1 I1 k1 f1 v1 => ?_
    simp only [E.wr] at kq
    unfold rvD at e4
    split at e4
    · cases e4
      obtain ⟨b, xs, rfl, tb, rb⟩ := rpb_lst v1.rb
      exact .inl ⟨b, xs, rfl, SqL.of tb, fun p hp => made_end I I1 k1 f1 (adr_some I wa) kq _ _ _ (.lst rfl hp rb.rev)⟩
    · cases e4
      obtain ⟨b, xs, rfl, tb, rb⟩ := rpb_tup v1.rb
      exact .inr ⟨b, xs, rfl, tb.sq, fun p hp => made_end I I1 k1 f1 (adr_some I wa) kq _ _ _ (.tup rfl hp rb.rev)⟩
    · cases e4
  · cases hx
theorem boot_bi (b : Bi) : bootBuiltins (biN b) = some (builtinOf b) := by cases b <;> decide +kernel
theorem bi_names (b : Bi) : biN b ∈ bnames := by cases b <;> decide
theorem ge_bi (ok : XOk Φ c k X) {b : Bi} {e0 : E} {es : List E} {a0 : Expr} {as : List Expr} {p p2 : Pos} (hg : glB c.sc (biN b) = true) (g : GL Φ c Γ X (e0 :: es) (a0 :: as)) (hb : chkB Γ (e0 :: es) = true) : GE Φ c Γ X (.bi b (e0 :: es)) (.Call (.Name (biN b) p2) (a0 :: as) [] p) := by
  obtain ⟨w, t, pa, q⟩ := gl_read g hb
  obtain ⟨rr, hc, hq⟩ := cg_bi (X := X) b ok.calm ok.gd ok.units
  have hst := g.star
  have pe : PE X (.Call (.Name (biN b) p2) (a0 :: as) [] p) (tCB rr t) := by
    have hm := ok.bn _ (bi_names b)
    have h1 := star1 (env := X.env) (es := as) (hst a0 List.mem_cons_self)
    have h2 := starAll (pos := p) (env := X.env) (es := as) fun e he => hst e (List.mem_cons_of_mem _ he)
    have hv := boot_bi b
    have hg := gl_of ok hg
    have hn : biN b ≠ "__name__" := by cases b <;> decide
    have hd : (biN b == ("__debug__" : Str)) = false := by cases b <;> decide
    cases b <;> first | exact pe_callB hc hg hm hv pa hn hd h1 h2 | exact pe_callTy hc hg hm hv pa hn hd h1 h2
  refine ⟨by simp only [E.wr]; exact w, _, pe, fun n σ H Z I d n' e Q kq => ?_⟩
  simp only [E.den] at e
  obtain ⟨ds, n1, e1, e⟩ := ER.bind_eq e
  obtain ⟨e2, en⟩ := lift_eq e
  subst en
  simp only [E.wr] at kq
  exact q n σ H Z I ds _ e1 _ fun vs H' Z' I' kn f rl => hq H' Z' ds d vs I'.zok e2 rl Q (made_end I I' kn f (adr_some I w) kq)
theorem ge_cnt {a e0 : E} {o a0 : Expr} {p ap : Pos} (ho : GE Φ c Γ X a o) (g : GL Φ c Γ X [e0] [a0]) (hb : chkB Γ [e0] = true) (dj : disj (a.bs Γ) (wrL [e0]) = true) (hl : (ap.endLine == p.line) = true) (hbase : ∀ env, attributeBase o "count" env (eval o env) = eval o env) :
    GE Φ c Γ X (.mth .count a [e0]) (.Call (.Attribute o "count" ap) [a0] [] p) := by
  obtain ⟨wa, ta, pa, qa⟩ := ho
  obtain ⟨w, t, pl, q⟩ := gl_read g hb
  refine ⟨by simp only [E.wr]; exact wr_app wa w, _, pe_bm PySem.F.plainAttrs_list PySem.F.slot_list_count PySem.F.type_list_count mt_lcount pa pl (hbase _) ?_ hl (star1 (g.star a0 (by simp))) rfl, fun n σ H Z I d n' e Q kq => ?_⟩
  · rw [star1 (g.star a0 (by simp))]; rfl
  simp only [E.den] at e
  obtain ⟨x, n1, e1, e⟩ := ER.bind_eq e
  obtain ⟨ds, n2, e2, e⟩ := ER.bind_eq e
  obtain ⟨e3, en⟩ := lift_eq e
  subst en
  simp only [E.wr] at kq
  refine qa n σ H Z I x n1 e1 _ fun v H1 Z1 I1 k1 f1 v1 => ?_
  unfold mtD at e3
  split at e3
  · obtain ⟨ns, e4, rfl⟩ := Option.map_eq_some_iff.mp e3
    obtain ⟨b, xs, rfl, hx, rx⟩ := rpb_lst v1.rb
    refine ⟨.inl ⟨rfl, xs, SqL.of hx⟩, ?_⟩
    refine q n1 σ H1 Z1 I1 _ _ e2 _ fun vs H' Z' I' kn f rl => ?_
    obtain ⟨y, rfl, ry⟩ := rpbl1 rl
    rw [rpb_int ry]
    have hx2 := v1.kp _ H' Z' w (disj_out dj) f
    obtain ⟨b2, xs2, e5, hx2, rx2⟩ := rpb_lst hx2
    obtain ⟨rfl, _⟩ := ints_ok e4 rx2
    have e5 : b = b2 := by injection e5
    subst e5
    refine ⟨_, ns, _, rfl, rfl, SqL.of hx2, ?_⟩
    exact made_end I I' (k1.trans kn) (f1.seq k1 f) (adr_some I (wr_app wa w)) kq _ _ _ made_int
  · cases e3
end
end Sc
namespace Sc
open PySem PySem.Spec PyProof.Rows L2
/-! ### what is not written stays -/
theorem getN_set {n : Env} {i j : Nat} {o : Option D} (h : i ≠ j) : getN (n.set j o) i = getN n i := by
  unfold getN
  rw [List.getElem?_set_ne (fun e => h e.symm)]
theorem getN_set_eq {n : Env} {i : Nat} {o : Option D} (h : i < n.length) : getN (n.set i o) i = o := by
  unfold getN
  rw [List.getElem?_set_self h]; rfl
theorem getN_mrg {n m : Env} {i : Nat} : ∀ {w : List Nat}, i ∉ w → getN (mrg w n m) i = getN n i
  | [], _ => rfl
  | v :: r, h => by
    rw [mrg, getN_set (fun e => h (by simp [e])), getN_mrg fun e => h (by simp [e])]
theorem getN_outs {i : Nat} : ∀ {io : List Nat} {outs : List D} {n : Env}, i ∉ io → getN (setOuts io outs n) i = getN n i
  | [], outs, n, _ => by cases outs <;> rfl
  | j :: r, [], n, _ => rfl
  | j :: r, d :: s, n, h => by
    rw [setOuts, getN_outs fun e => h (by simp [e]), getN_set fun e => h (by simp [e])]
section
variable {Φ : Fns}
theorem toBl_inv {r : ER D} {b : Bool} {n : Env} (h : toBl r = .ok b n) : r = .ok (.bl b) n := by
  unfold toBl at h
  obtain ⟨x, m, e1, e2⟩ := ER.bind_eq h
  cases x <;> simp only [reduceCtorEq, ER.ok.injEq] at e2
  rw [e1, e2.1, e2.2]
theorem optR_inv {e : E} {r : ER D} {n n' : Env} {d : D} (h : optR e r n = .ok d n') : n' = n ∨ ∃ x, r = .ok x n' := by
  have f : ∀ {r : ER D}, (r.bind fun x n => match x with
    | .int i => ER.ok (D.int i) n
    | _ => .bad) = .ok d n' → n' = n ∨ ∃ x, r = .ok x n' := fun h => by
    obtain ⟨x, m, e1, e2⟩ := ER.bind_eq h
    cases x <;> simp only [reduceCtorEq, ER.ok.injEq] at e2
    exact .inr ⟨_, by rw [e1, e2.2]⟩
  cases e with
  | no => cases h; exact .inl rfl
  | _ => exact f h
mutual
theorem den_keep : ∀ (e : E) {n n' : Env} {d : D}, e.den Φ n = .ok d n' → ∀ i, i ∉ e.wr → getN n' i = getN n i
  | .no, n, n', d, h, i, hi => by simp [E.den] at h
  | .var j, n, n', d, h, i, hi => by simp only [E.den] at h; obtain ⟨_, rfl⟩ := lift_eq h; rfl
  | .cst _, n, n', d, h, i, hi => by simp only [E.den, ER.ok.injEq] at h; rw [h.2]
  | .glb _ _, n, n', d, h, i, hi => by simp only [E.den, ER.ok.injEq] at h; rw [h.2]
  | .bin o a b, n, n', d, h, i, hi => by
    simp only [E.den] at h
    simp only [E.wr, List.mem_append, not_or] at hi
    obtain ⟨x, n1, e1, h⟩ := ER.bind_eq h
    obtain ⟨y, n2, e2, h⟩ := ER.bind_eq h
    obtain ⟨_, rfl⟩ := lift_eq h
    exact (den_keep b e2 i hi.2).trans (den_keep a e1 i hi.1)
  | .cmp o a b, n, n', d, h, i, hi => by
    simp only [E.den] at h
    simp only [E.wr, List.mem_append, not_or] at hi
    obtain ⟨x, n1, e1, h⟩ := ER.bind_eq h
    obtain ⟨y, n2, e2, h⟩ := ER.bind_eq h
    obtain ⟨_, rfl⟩ := lift_eq h
    exact (den_keep b e2 i hi.2).trans (den_keep a e1 i hi.1)
  | .idx a b, n, n', d, h, i, hi => by
    simp only [E.den] at h
    simp only [E.wr, List.mem_append, not_or] at hi
    obtain ⟨x, n1, e1, h⟩ := ER.bind_eq h
    obtain ⟨y, n2, e2, h⟩ := ER.bind_eq h
    obtain ⟨_, rfl⟩ := lift_eq h
    exact (den_keep b e2 i hi.2).trans (den_keep a e1 i hi.1)
  | .zip a b, n, n', d, h, i, hi => by
    simp only [E.den] at h
    simp only [E.wr, List.mem_append, not_or] at hi
    obtain ⟨x, n1, e1, h⟩ := ER.bind_eq h
    obtain ⟨y, n2, e2, h⟩ := ER.bind_eq h
    obtain ⟨z, n3, e3, h⟩ := ER.bind_eq h
    obtain ⟨_, rfl⟩ := lift_eq e3
    obtain ⟨z, n4, e4, h⟩ := ER.bind_eq h
    obtain ⟨_, rfl⟩ := lift_eq e4
    cases h
    exact (den_keep b e2 i hi.2).trans (den_keep a e1 i hi.1)
  | .zp3 a b c, n, n', d, h, i, hi => by
    simp only [E.den] at h
    simp only [E.wr, List.mem_append, not_or] at hi
    obtain ⟨x, n1, e1, h⟩ := ER.bind_eq h
    obtain ⟨y, n2, e2, h⟩ := ER.bind_eq h
    obtain ⟨y, n3, e3, h⟩ := ER.bind_eq h
    obtain ⟨z, n4, e4, h⟩ := ER.bind_eq h
    obtain ⟨_, rfl⟩ := lift_eq e4
    obtain ⟨z, n5, e5, h⟩ := ER.bind_eq h
    obtain ⟨_, rfl⟩ := lift_eq e5
    obtain ⟨z, n6, e6, h⟩ := ER.bind_eq h
    obtain ⟨_, rfl⟩ := lift_eq e6
    cases h
    exact (den_keep c e3 i hi.2.2).trans ((den_keep b e2 i hi.2.1).trans (den_keep a e1 i hi.1))
  | .rdn a, n, n', d, h, i, hi => by
    simp only [E.den] at h
    simp only [E.wr] at hi
    obtain ⟨x, n1, e1, h⟩ := ER.bind_eq h
    obtain ⟨_, rfl⟩ := lift_eq h
    exact den_keep a e1 i hi
  | .lz a b, n, n', d, h, i, hi => by
    simp only [E.den] at h
    simp only [E.wr, List.mem_append, not_or] at hi
    obtain ⟨x, n1, e1, h⟩ := ER.bind_eq h
    obtain ⟨y, n2, e2, h⟩ := ER.bind_eq h
    obtain ⟨_, rfl⟩ := lift_eq h
    exact (den_keep b e2 i hi.2).trans (den_keep a e1 i hi.1)
  | .neg a, n, n', d, h, i, hi => by
    simp only [E.den] at h
    simp only [E.wr] at hi
    obtain ⟨x, n1, e1, h⟩ := ER.bind_eq h
    cases x <;> simp only [reduceCtorEq, ER.ok.injEq] at h
    rw [← h.2]
    exact den_keep a e1 i hi
  | .nt a, n, n', d, h, i, hi => by
    simp only [E.den] at h
    simp only [E.wr] at hi
    obtain ⟨x, n1, e1, h⟩ := ER.bind_eq h
    cases h
    exact den_keep a (toBl_inv e1) i hi
  | .an a b, n, n', d, h, i, hi => by
    simp only [E.den] at h
    simp only [E.wr, List.mem_append, not_or] at hi
    obtain ⟨x, n1, e1, h⟩ := ER.bind_eq h
    have k1 := den_keep a (toBl_inv e1) i hi.1
    cases x with
    | false => cases h; exact k1
    | true =>
      obtain ⟨y, n2, e2, h⟩ := ER.bind_eq (show (toBl (b.den Φ n1)).bind _ = _ from h)
      cases h
      exact (den_keep b (toBl_inv e2) i hi.2).trans k1
  | .or a b, n, n', d, h, i, hi => by
    simp only [E.den] at h
    simp only [E.wr, List.mem_append, not_or] at hi
    obtain ⟨x, n1, e1, h⟩ := ER.bind_eq h
    have k1 := den_keep a (toBl_inv e1) i hi.1
    cases x with
    | true => cases h; exact k1
    | false =>
      obtain ⟨y, n2, e2, h⟩ := ER.bind_eq (show (toBl (b.den Φ n1)).bind _ = _ from h)
      cases h
      exact (den_keep b (toBl_inv e2) i hi.2).trans k1
  | .chn o p a b c, n, n', d, h, i, hi => by
    simp only [E.den] at h
    simp only [E.wr, List.mem_append, not_or] at hi
    obtain ⟨x, n1, e1, h⟩ := ER.bind_eq h
    obtain ⟨y, n2, e2, h⟩ := ER.bind_eq h
    obtain ⟨z, n3, e3, h⟩ := ER.bind_eq h
    obtain ⟨_, rfl⟩ := lift_eq e3
    have k1 := (den_keep b e2 i hi.2.1).trans (den_keep a e1 i hi.1)
    cases z with
    | false => cases h; exact k1
    | true =>
      obtain ⟨w, n4, e4, h⟩ := ER.bind_eq (show (c.den Φ n2).bind _ = _ from h)
      obtain ⟨_, rfl⟩ := lift_eq h
      exact (den_keep c e4 i hi.2.2).trans k1
  | .ife c a b, n, n', d, h, i, hi => by
    simp only [E.den] at h
    simp only [E.wr, List.mem_append, not_or] at hi
    obtain ⟨x, n1, e1, h⟩ := ER.bind_eq h
    have k1 := den_keep c (toBl_inv e1) i hi.1
    cases x with
    | true => exact (den_keep a (show a.den Φ n1 = _ from h) i hi.2.1).trans k1
    | false => exact (den_keep b (show b.den Φ n1 = _ from h) i hi.2.2).trans k1
  | .slc a lo hh, n, n', d, h, i, hi => by
    simp only [E.den] at h
    simp only [E.wr, List.mem_append, not_or] at hi
    obtain ⟨x, n1, e1, h⟩ := ER.bind_eq h
    obtain ⟨y, n2, e2, h⟩ := ER.bind_eq h
    obtain ⟨z, n3, e3, h⟩ := ER.bind_eq h
    obtain ⟨_, rfl⟩ := lift_eq h
    have k1 := den_keep a e1 i hi.1
    have k2 : getN n2 i = getN n1 i := by
      rcases optR_inv e2 with e | ⟨x, e⟩
      · rw [e]
      · exact den_keep lo e i hi.2.1
    have k3 : getN n3 i = getN n2 i := by
      rcases optR_inv e3 with e | ⟨x, e⟩
      · rw [e]
      · exact den_keep hh e i hi.2.2
    exact k3.trans (k2.trans k1)
  | .tup es, n, n', d, h, i, hi => by
    simp only [E.den] at h
    simp only [E.wr] at hi
    obtain ⟨x, n1, e1, h⟩ := ER.bind_eq h
    split at h
    · cases h; exact denL_keep es e1 i hi
    · cases h
  | .lst es, n, n', d, h, i, hi => by
    simp only [E.den] at h
    simp only [E.wr] at hi
    obtain ⟨x, n1, e1, h⟩ := ER.bind_eq h
    split at h
    · cases h; exact denL_keep es e1 i hi
    · cases h
  | .lc elt tg it c own, n, n', d, h, i, hi => by
    simp only [E.den] at h
    simp only [E.wr, List.mem_append, not_or] at hi
    obtain ⟨x, n1, e1, h⟩ := ER.bind_eq h
    obtain ⟨y, n2, e2, h⟩ := ER.bind_eq h
    obtain ⟨_, rfl⟩ := lift_eq e2
    obtain ⟨z, n3, e3, h⟩ := ER.bind_eq h
    cases h
    rw [getN_mrg (by simp only [List.mem_append, not_or]; exact ⟨hi.2.1, hi.2.2⟩)]
    exact den_keep it e1 i hi.1
  | .call f args io, n, n', d, h, i, hi => by
    simp only [E.den] at h
    simp only [E.wr, List.mem_append, not_or] at hi
    obtain ⟨x, n1, e1, h⟩ := ER.bind_eq h
    split at h
    · split at h
      · cases h
        rw [getN_outs hi.2]
        exact denL_keep args e1 i hi.1
      · cases h
    · cases h
    · cases h
  | .bi b args, n, n', d, h, i, hi => by
    simp only [E.den] at h
    simp only [E.wr] at hi
    obtain ⟨x, n1, e1, h⟩ := ER.bind_eq h
    obtain ⟨_, rfl⟩ := lift_eq h
    exact denL_keep args e1 i hi
  | .mth m a args, n, n', d, h, i, hi => by
    simp only [E.den] at h
    simp only [E.wr, List.mem_append, not_or] at hi
    obtain ⟨x, n1, e1, h⟩ := ER.bind_eq h
    obtain ⟨y, n2, e2, h⟩ := ER.bind_eq h
    obtain ⟨_, rfl⟩ := lift_eq h
    exact (denL_keep args e2 i hi.2).trans (den_keep a e1 i hi.1)
  | .rng a b, n, n', d, h, i, hi => by
    simp only [E.den] at h
    simp only [E.wr, List.mem_append, not_or] at hi
    obtain ⟨x, n1, e1, h⟩ := ER.bind_eq h
    obtain ⟨y, n2, e2, h⟩ := ER.bind_eq h
    obtain ⟨_, rfl⟩ := lift_eq h
    have k2 : getN n1 i = getN n i := by
      rcases optR_inv e1 with e | ⟨x, e⟩
      · rw [e]
      · exact den_keep a e i hi.1
    exact (den_keep b e2 i hi.2).trans k2
  | .tr a b, n, n', d, h, i, hi => by
    simp only [E.den] at h
    simp only [E.wr, List.mem_append, not_or] at hi
    obtain ⟨x, n1, e1, h⟩ := ER.bind_eq h
    obtain ⟨y, n2, e2, h⟩ := ER.bind_eq h
    obtain ⟨_, rfl⟩ := lift_eq h
    have k2 : getN n1 i = getN n i := by
      rcases optR_inv e1 with e | ⟨x, e⟩
      · rw [e]
      · exact den_keep a e i hi.1
    exact (den_keep b e2 i hi.2).trans k2
  | .rvr a b, n, n', d, h, i, hi => by
    simp only [E.den] at h
    simp only [E.wr, List.mem_append, not_or] at hi
    obtain ⟨x, n1, e1, h⟩ := ER.bind_eq h
    obtain ⟨y, n2, e2, h⟩ := ER.bind_eq h
    obtain ⟨_, rfl⟩ := lift_eq h
    have k2 : getN n1 i = getN n i := by
      rcases optR_inv e1 with e | ⟨x, e⟩
      · rw [e]
      · exact den_keep a e i hi.1
    exact (den_keep b e2 i hi.2).trans k2
  | .enm a, n, n', d, h, i, hi => by
    simp only [E.den] at h
    simp only [E.wr] at hi
    obtain ⟨x, n1, e1, h⟩ := ER.bind_eq h
    obtain ⟨y, n2, e2, h⟩ := ER.bind_eq h
    obtain ⟨_, rfl⟩ := lift_eq e2
    cases h
    exact den_keep a e1 i hi
  | .rev a, n, n', d, h, i, hi => by
    simp only [E.den] at h
    simp only [E.wr] at hi
    obtain ⟨x, n1, e1, h⟩ := ER.bind_eq h
    obtain ⟨y, n2, e2, h⟩ := ER.bind_eq h
    obtain ⟨_, rfl⟩ := lift_eq e2
    cases h
    exact den_keep a e1 i hi
  | .rvt a, n, n', d, h, i, hi => by
    simp only [E.den] at h
    simp only [E.wr] at hi
    obtain ⟨x, n1, e1, h⟩ := ER.bind_eq h
    obtain ⟨_, rfl⟩ := lift_eq h
    exact den_keep a e1 i hi
  | .callr f args io, n, n', d, h, i, hi => by
    simp only [E.den] at h
    simp only [E.wr, List.mem_append, not_or] at hi
    obtain ⟨x, n1, e1, h⟩ := ER.bind_eq h
    split at h
    · split at h
      · cases h
        rw [getN_outs hi.2]
        exact denL_keep args e1 i hi.1
      · cases h
    · cases h
    · cases h
  | .callk f np ks args perm, n, n', d, h, i, hi => by
    simp only [E.den] at h
    simp only [E.wr] at hi
    obtain ⟨x, n1, e1, h⟩ := ER.bind_eq h
    split at h
    · cases h
      exact denL_keep args e1 i hi
    · cases h
    · cases h
  | .lc2 elt tg it tg1 it1 c own own1, n, n', d, h, i, hi => by
    simp only [E.den] at h
    simp only [E.wr] at hi
    obtain ⟨x, n1, e1, h⟩ := ER.bind_eq h
    obtain ⟨y, n2, e2, h⟩ := ER.bind_eq h
    obtain ⟨_, rfl⟩ := lift_eq e2
    obtain ⟨z, n3, e3, h⟩ := ER.bind_eq h
    cases h
    exact den_keep it e1 i hi
theorem denL_keep : ∀ (es : List E) {n n' : Env} {ds : List D}, denL Φ es n = .ok ds n' → ∀ i, i ∉ wrL es → getN n' i = getN n i
  | [], n, n', ds, h, i, hi => by simp only [denL, ER.ok.injEq] at h; rw [h.2]
  | e :: r, n, n', ds, h, i, hi => by
    simp only [denL] at h
    simp only [wrL, List.mem_append, not_or] at hi
    obtain ⟨x, n1, e1, h⟩ := ER.bind_eq h
    obtain ⟨y, n2, e2, h⟩ := ER.bind_eq h
    cases h
    exact (denL_keep r e2 i hi.2).trans (den_keep e e1 i hi.1)
end
end
end Sc
namespace Sc
open PySem PySem.Spec PyProof.Rows L2
/-- a state behind writes to own lists -/
theorem SI.after {K : PySem.W.Frag} {Γ : List Fg} {n n' : Env} {σ : L2.St} {H H' : Hp} {Z Z' : AP1} {M : List Nat} (I : SI K Γ n σ H Z) (f : Fr (Adr M n σ) H Z H' Z') (hM : ∀ j ∈ M, flag Γ j = .own) (len : n'.length = n.length)
    (keep : ∀ i, i ∉ M → getN n' i = getN n i) (kn : KN n n') (new : ∀ i ∈ M, ∀ d, getN n' i = some d → ∃ v, σ[i]? = some (some v) ∧ RpF K H' Z' (flag Γ i) d v) (zok : ZOk H' Z') : SI K Γ n' σ H' Z' := by
  have hZ : ∀ p, Adr M n σ p → ¬ Z p := fun p w => (I.adr hM w).1
  refine ⟨len.trans I.len, fun i d hd => ?_, fun i j p h1 h2 h3 h4 h5 => I.sep i j p h1 h2 h3 ((kn i).symm.trans h4) ((kn j).symm.trans h5), fun i j p h1 h2 h4 h5 => I.sepB i j p h1 h2 ((kn i).symm.trans h4) ((kn j).symm.trans h5), zok⟩
  by_cases hi : i ∈ M
  · exact new i hi d hd
  · rw [keep i hi] at hd
    obtain ⟨v, hv, r⟩ := I.slot i d hd
    refine ⟨v, hv, ?_⟩
    cases hf : flag Γ i with
    | frz => rw [hf] at r; exact Rp.fr f hZ r
    | own =>
      rw [hf] at r
      show RpO K H' Z' d v
      cases d with
      | lst l =>
        obtain ⟨a, xs, rfl, nz, ha, r⟩ := r
        have na : ¬ Adr M n σ a := fun w => by
          obtain ⟨j, hj, hl, hp⟩ := w
          exact I.sep i j a (fun e => hi (e ▸ hj)) hf (hM j hj) (isL_iff.mpr ⟨l, hd⟩) hl hv hp
        refine ⟨a, xs, rfl, fun z => ?_, f.keep a _ ha na, r.fr f hZ⟩
        rcases f.new a z with z | z | z
        · exact nz z
        · exact na z
        · rw [ha] at z; cases z
      | _ => exact Rp.fr f hZ r
    | brw =>
      rw [hf] at r
      show RpB K H' Z' d v
      cases d with
      | lst l =>
        obtain ⟨a, xs, rfl, ha, r⟩ := r
        have na : ¬ Adr M n σ a := fun w => by
          obtain ⟨j, hj, hl, hp⟩ := w
          exact I.sepB j i a (hM j hj) hf hl (isL_iff.mpr ⟨l, hd⟩) hp hv
        exact ⟨a, xs, rfl, f.keep a _ ha na, r.fr f hZ⟩
      | _ => exact Rp.fr f hZ r

/-! ### arguments -/
/-- what is handed in to be changed: the name's list as it is, or no list -/
def IoV (K : PySem.W.Frag) (n : Env) (H : Hp) (Z : AP1) (i : Nat) (d : D) (v : V) : Prop := getN n i = some d ∨ ((∀ l, d ≠ .lst l) ∧ Rp K H Z d v)
theorem IoV.lst {K : PySem.W.Frag} {n : Env} {H : Hp} {Z : AP1} {i : Nat} {l : List D} {v : V} (h : IoV K n H Z i (.lst l) v) : getN n i = some (.lst l) := h.resolve_right fun q => q.1 l rfl
inductive AR (K : PySem.W.Frag) (n : Env) (σ : L2.St) (H : Hp) (Z : AP1) (ioa : List Nat) : List Pm → List E → List D → List V → Prop
  | nil : AR K n σ H Z ioa [] [] [] []
  | eat {pm : List Pm} {e : E} {es : List E} {d : D} {ds : List D} {v : V} {vs : List V} : Rp K H Z d v → AR K n σ H Z ioa pm es ds vs → AR K n σ H Z ioa (.eat :: pm) (e :: es) (d :: ds) (v :: vs)
  | brw {pm : List Pm} {e : E} {es : List E} {d : D} {ds : List D} {v : V} {vs : List V} : RpB K H Z d v → (∀ l a, d = .lst l → v = .ref a → ¬ Adr ioa n σ a) → AR K n σ H Z ioa pm es ds vs → AR K n σ H Z ioa (.brw :: pm) (e :: es) (d :: ds) (v :: vs)
  | io {pm : List Pm} {i : Nat} {es : List E} {d : D} {ds : List D} {v : V} {vs : List V} : IoV K n H Z i d v → σ[i]? = some (some v) → i ∈ ioa → i ∉ ioOf pm es → AR K n σ H Z ioa pm es ds vs → AR K n σ H Z ioa (.io :: pm) (.var i :: es) (d :: ds) (v :: vs)
section
variable {K : PySem.W.Frag} {Γ : List Fg} {n : Env} {σ : L2.St} {H H' : Hp} {Z Z' : AP1} {ioa : List Nat}
theorem AR.len : ∀ {pm : List Pm} {es : List E} {ds : List D} {vs : List V}, AR K n σ H Z ioa pm es ds vs → ds.length = pm.length ∧ vs.length = pm.length
  | _, _, _, _, .nil => ⟨rfl, rfl⟩
  | _, _, _, _, .eat _ r => ⟨by simp [r.len.1], by simp [r.len.2]⟩
  | _, _, _, _, .brw _ _ r => ⟨by simp [r.len.1], by simp [r.len.2]⟩
  | _, _, _, _, .io _ _ _ _ r => ⟨by simp [r.len.1], by simp [r.len.2]⟩
theorem AR.at : ∀ {pm : List Pm} {es : List E} {ds : List D} {vs : List V} {j : Nat}, AR K n σ H Z ioa pm es ds vs → pm[j]? = some .io → ∃ s d v, s ∈ ioa ∧ es[j]? = some (.var s) ∧ s ∈ ioOf pm es ∧ ds[j]? = some d ∧ IoV K n H Z s d v ∧ vs[j]? = some v ∧ σ[s]? = some (some v)
  | _, _, _, _, _, .nil, e => by simp at e
  | _, _, _, _, 0, .eat _ r, e => by simp at e
  | _, _, _, _, j + 1, .eat (e := e0) _ r, e => by
    obtain ⟨s, d, v, h1, h2, h3, h4, h5, h6, h7⟩ := AR.at (j := j) r (by simpa using e)
    exact ⟨s, d, v, h1, by simpa using h2, by (first | exact h3 | (cases e0 <;> exact h3)), by simpa using h4, h5, by simpa using h6, h7⟩
  | _, _, _, _, 0, .brw _ _ r, e => by simp at e
  | _, _, _, _, j + 1, .brw (e := e0) _ _ r, e => by
    obtain ⟨s, d, v, h1, h2, h3, h4, h5, h6, h7⟩ := AR.at (j := j) r (by simpa using e)
    exact ⟨s, d, v, h1, by simpa using h2, by (first | exact h3 | (cases e0 <;> exact h3)), by simpa using h4, h5, by simpa using h6, h7⟩
  | _, _, _, _, 0, .io (i := i) (d := d) (v := v) g e2 hi _ r, e => ⟨i, d, v, hi, rfl, by simp [ioOf], rfl, g, rfl, e2⟩
  | _, _, _, _, j + 1, .io g e2 hi _ r, e => by
    obtain ⟨s, d, v, h1, h2, h3, h4, h5, h6, h7⟩ := AR.at (j := j) r (by simpa using e)
    exact ⟨s, d, v, h1, by simpa using h2, by simp [ioOf, h3], by simpa using h4, h5, by simpa using h6, h7⟩
theorem AR.nd : ∀ {pm : List Pm} {es : List E} {ds : List D} {vs : List V} {i j : Nat} {s : Nat}, AR K n σ H Z ioa pm es ds vs → i < j → pm[i]? = some .io → pm[j]? = some .io → es[i]? = some (.var s) → es[j]? ≠ some (.var s)
  | _, _, _, _, _, _, _, .nil, _, e, _, _ => by simp at e
  | _, _, _, _, 0, _, _, .eat _ r, _, e, _, _ => by simp at e
  | _, _, _, _, i + 1, j + 1, s, .eat _ r, hl, e, e2, e3 => by
    have := AR.nd (i := i) (j := j) (s := s) r (by omega) (by simpa using e) (by simpa using e2) (by simpa using e3)
    simpa using this
  | _, _, _, _, 0, _, _, .brw _ _ r, _, e, _, _ => by simp at e
  | _, _, _, _, i + 1, j + 1, s, .brw _ _ r, hl, e, e2, e3 => by
    have := AR.nd (i := i) (j := j) (s := s) r (by omega) (by simpa using e) (by simpa using e2) (by simpa using e3)
    simpa using this
  | _, _, _, _, 0, j + 1, s, .io g e5 hi hn r, hl, e, e2, e3 => fun e4 => by
    obtain ⟨s', d, v, h1, h2, h3, _⟩ := AR.at (j := j) r (by simpa using e2)
    have e4 := (show _ = some (E.var s) from by simpa using e4)
    rw [e4] at h2
    cases h2
    simp at e3
    subst e3
    exact hn h3
  | _, _, _, _, i + 1, j + 1, s, .io g e5 hi hn r, hl, e, e2, e3 => by
    have := AR.nd (i := i) (j := j) (s := s) r (by omega) (by simpa using e) (by simpa using e2) (by simpa using e3)
    simpa using this
theorem AR.of_mem : ∀ {pm : List Pm} {es : List E} {ds : List D} {vs : List V} {s : Nat}, AR K n σ H Z ioa pm es ds vs → s ∈ ioOf pm es → ∃ j : Nat, pm[j]? = some .io ∧ es[j]? = some (.var s)
  | _, _, _, _, s, .nil, h => by simp [ioOf] at h
  | _, _, _, _, s, .eat (e := e0) _ r, h => by
    obtain ⟨j, h1, h2⟩ := AR.of_mem (s := s) r (by cases e0 <;> exact h)
    exact ⟨j + 1, by simpa using h1, by simpa using h2⟩
  | _, _, _, _, s, .brw (e := e0) _ _ r, h => by
    obtain ⟨j, h1, h2⟩ := AR.of_mem (s := s) r (by cases e0 <;> exact h)
    exact ⟨j + 1, by simpa using h1, by simpa using h2⟩
  | _, _, _, _, s, .io g e5 hi hn r, h => by
    simp only [ioOf, List.mem_cons] at h
    rcases h with h | h
    · subst h; exact ⟨0, rfl, rfl⟩
    · obtain ⟨j, h1, h2⟩ := AR.of_mem (s := s) r h
      exact ⟨j + 1, by simpa using h1, by simpa using h2⟩
theorem AR.rp : ∀ {pm : List Pm} {es : List E} {ds : List D} {vs : List V} {j : Nat} {d : D}, AR K n σ H Z ioa pm es ds vs → ds[j]? = some d → ∃ v, vs[j]? = some v ∧ (pm[j]? = some .eat → Rp K H Z d v) ∧ (pm[j]? = some .brw → RpB K H Z d v ∧ ∀ l a, d = .lst l → v = .ref a → ¬ Adr ioa n σ a)
  | _, _, _, _, _, _, .nil, e => by simp at e
  | _, _, _, _, 0, _, .eat h r, e => by simp at e; subst e; exact ⟨_, rfl, fun _ => h, fun e => by simp at e⟩
  | _, _, _, _, 0, _, .brw h h2 r, e => by simp at e; subst e; exact ⟨_, rfl, fun e => by simp at e, fun _ => ⟨h, h2⟩⟩
  | _, _, _, _, 0, _, .io h h2 _ _ r, e => by simp at e; subst e; exact ⟨_, rfl, fun e => by simp at e, fun e => by simp at e⟩
  | _, _, _, _, j + 1, _, .eat h r, e => by
    obtain ⟨v, h1, h2⟩ := AR.rp (j := j) r (by simpa using e)
    exact ⟨v, by simpa using h1, by simpa using h2⟩
  | _, _, _, _, j + 1, _, .brw h _ r, e => by
    obtain ⟨v, h1, h2⟩ := AR.rp (j := j) r (by simpa using e)
    exact ⟨v, by simpa using h1, by simpa using h2⟩
  | _, _, _, _, j + 1, _, .io h _ _ _ r, e => by
    obtain ⟨v, h1, h2⟩ := AR.rp (j := j) r (by simpa using e)
    exact ⟨v, by simpa using h1, by simpa using h2⟩
theorem getN_map {ds : List D} {i : Nat} : getN (ds.map some) i = ds[i]? := by
  unfold getN
  rw [List.getElem?_map]
  cases ds[i]? <;> rfl
theorem flag_pm {pm : List Pm} {i : Nat} {p : Pm} (h : pm[i]? = some p) : flag (pm.map flOf) i = flOf p := by
  unfold flag
  rw [List.getD_eq_getElem?_getD, List.getElem?_map, h]; rfl
theorem flag_pm_own {pm : List Pm} {i : Nat} (h : flag (pm.map flOf) i = .own) : pm[i]? = some .io := by
  unfold flag at h
  rw [List.getD_eq_getElem?_getD, List.getElem?_map] at h
  cases e : pm[i]? with
  | none => rw [e] at h; cases h
  | some p => cases p <;> rw [e] at h <;> first | rfl | cases h
theorem flag_pm_brw {pm : List Pm} {i : Nat} (h : flag (pm.map flOf) i = .brw) : pm[i]? = some .brw := by
  unfold flag at h
  rw [List.getD_eq_getElem?_getD, List.getElem?_map] at h
  cases e : pm[i]? with
  | none => rw [e] at h; cases h
  | some p => cases p <;> rw [e] at h <;> first | rfl | cases h
theorem vmap {vs : List V} {i : Nat} {v : V} : (vs.map some)[i]? = some (some v) ↔ vs[i]? = some v := by
  rw [List.getElem?_map]
  cases vs[i]? <;> simp
theorem AR.ok {pm : List Pm} {es : List E} {ds : List D} {vs : List V} (I : SI K Γ n σ H Z) (r : AR K n σ H Z ioa pm es ds vs) (hio : ∀ i ∈ ioa, flag Γ i = .own) : ArgsOk K H Z pm ds vs := by
  refine ⟨r.len.1, r.len.2, ⟨by simp [r.len.1, r.len.2], fun i d hd => ?_, fun i j p hij h1 h2 h3 h4 h5 h6 => ?_, fun i j p h1 h2 h3 h4 h5 h6 => ?_, I.zok⟩⟩
  · rw [getN_map] at hd
    obtain ⟨v, h1, h2, h3⟩ := r.rp hd
    refine ⟨v, vmap.mpr h1, ?_⟩
    have hlt : i < pm.length := by rw [← r.len.1]; exact (List.getElem?_eq_some_iff.mp hd).1
    cases e : pm[i]'hlt with
    | eat =>
      have e : pm[i]? = some .eat := by rw [List.getElem?_eq_getElem hlt, e]
      rw [flag_pm e]; exact h2 e
    | brw =>
      have e : pm[i]? = some .brw := by rw [List.getElem?_eq_getElem hlt, e]
      rw [flag_pm e]; exact (h3 e).1
    | io =>
      have e : pm[i]? = some .io := by rw [List.getElem?_eq_getElem hlt, e]
      rw [flag_pm e]
      obtain ⟨s, d', v', q1, q2, q3, q4, q5, q6, q7⟩ := r.at e
      rw [hd] at q4; cases q4
      rw [h1] at q6; cases q6
      rcases q5 with q5 | ⟨nl, rp⟩
      · obtain ⟨w, q8, q9⟩ := I.slot s d q5
        rw [q7] at q8
        have q8 := Option.some.inj (Option.some.inj q8)
        subst q8
        rw [hio s q1] at q9
        exact q9
      · exact notList_o nl rp
  · have e1 := flag_pm_own h1
    have e2 := flag_pm_own h2
    obtain ⟨s, d', v', q1, q2, q3, q4, q5, q6, q7⟩ := r.at e1
    obtain ⟨t, d2, v2, p1, p2, p3, p4, p5, p6, p7⟩ := r.at e2
    have h5 := vmap.mp h5
    have h6 := vmap.mp h6
    rw [h5] at q6; cases q6
    rw [h6] at p6; cases p6
    have hst : s ≠ t := fun e => by
      subst e
      rcases Nat.lt_or_gt_of_ne hij with h | h
      · exact r.nd h e1 e2 q2 p2
      · exact r.nd h e2 e1 p2 q2
    obtain ⟨l, hl⟩ := isL_iff.mp h3
    obtain ⟨l2, hl2⟩ := isL_iff.mp h4
    rw [getN_map] at hl hl2
    rw [hl] at q4; cases q4
    rw [hl2] at p4; cases p4
    exact I.sep s t p hst (hio s q1) (hio t p1) (isL_iff.mpr ⟨l, q5.lst⟩) (isL_iff.mpr ⟨l2, p5.lst⟩) q7 p7
  · have e1 := flag_pm_own h1
    have e2 := flag_pm_brw h2
    obtain ⟨s, d', v', q1, q2, q3, q4, q5, q6, q7⟩ := r.at e1
    have h5 := vmap.mp h5
    have h6 := vmap.mp h6
    rw [h5] at q6; cases q6
    obtain ⟨l, hl⟩ := isL_iff.mp h3
    obtain ⟨l2, hl2⟩ := isL_iff.mp h4
    rw [getN_map] at hl hl2
    rw [hl] at q4; cases q4
    obtain ⟨v, w1, _, w3⟩ := r.rp hl2
    rw [h6] at w1; cases w1
    exact (w3 e2).2 l2 p rfl rfl ⟨s, q1, isL_iff.mpr ⟨l, q5.lst⟩, q7⟩
theorem outs_len : ∀ {io : List Nat} {outs : List D} {m : Env}, (setOuts io outs m).length = m.length
  | [], outs, m => by cases outs <;> rfl
  | _ :: _, [], m => rfl
  | i :: r, d :: s, m => by rw [setOuts, outs_len]; simp
theorem AR.outs : ∀ {pm : List Pm} {es : List E} {ds : List D} {vs : List V} {outs : List D} {m : Env}, AR K n σ H Z ioa pm es ds vs → OutsOk K H' Z' pm vs outs → m.length = σ.length → outs.length = (ioOf pm es).length ∧
    ∀ s ∈ ioOf pm es, ∃ l a xs, getN (setOuts (ioOf pm es) outs m) s = some (.lst l) ∧ σ[s]? = some (some (.ref a)) ∧ ¬ Z' a ∧ H' a = some (.lst xs) ∧ RpL K H' Z' l xs
  | _, _, _, _, outs, m, .nil, o, hl => by
    cases (show outs = [] from by simpa [OutsOk] using o)
    exact ⟨rfl, fun s hs => by simp [ioOf] at hs⟩
  | _, _, _, _, outs, m, .eat (e := e0) _ r, o, hl => by
    have := r.outs (outs := outs) (m := m) (by simpa [OutsOk] using o) hl
    cases e0 <;> exact this
  | _, _, _, _, outs, m, .brw (e := e0) _ _ r, o, hl => by
    have := r.outs (outs := outs) (m := m) (by simpa [OutsOk] using o) hl
    cases e0 <;> exact this
  | _, _, _, _, outs, m, .io (i := i) g e2 hi hn r, o, hl => by
    simp only [OutsOk] at o
    obtain ⟨l, o', rfl, ⟨a, xs, rfl, nz, ha, rl⟩, o⟩ := o
    obtain ⟨h1, h2⟩ := r.outs (outs := o') (m := m.set i (some (.lst l))) o (by simpa using hl)
    refine ⟨by simp [ioOf, h1], fun s hs => ?_⟩
    simp only [ioOf, List.mem_cons] at hs
    simp only [ioOf, setOuts]
    by_cases e : s = i
    · subst e
      refine ⟨l, a, xs, ?_, e2, nz, ha, rl⟩
      rw [getN_outs hn, getN_set_eq]
      rw [hl]; exact (List.getElem?_eq_some_iff.mp e2).1
    · exact h2 s (hs.resolve_left e)
/-- behind a call -/
theorem AR.post {pm : List Pm} {es : List E} {ds outs : List D} {vs : List V} {ro : Bool} {d : D} {v : V} (I : SI K Γ n σ H Z) (r : AR K n σ H Z (ioOf pm es) pm es ds vs) (hio : ∀ i ∈ ioOf pm es, flag Γ i = .own) (ok : ResOk K H Z pm ds vs ro H' Z' d outs v) :
    SI K Γ (setOuts (ioOf pm es) outs n) σ H' Z' ∧ KN n (setOuts (ioOf pm es) outs n) ∧ Fr (Adr (ioOf pm es) n σ) H Z H' Z' ∧ outs.length = (ioOf pm es).length := by
  obtain ⟨h1, h2⟩ := r.outs (m := n) ok.outs I.len
  have f : Fr (Adr (ioOf pm es) n σ) H Z H' Z' := ok.fr.mono fun p w => by
    obtain ⟨j, w1, w2⟩ := w
    obtain ⟨s, d', v', q1, q2, q3, q4, q5, q6, q7⟩ := r.at w1
    rw [w2] at q6; cases q6
    refine .inl ⟨s, q1, ?_, q7⟩
    have := ok.io j w1
    obtain ⟨l, hl⟩ := isL_iff.mp this
    rw [getN_map, q4] at hl
    cases hl
    exact isL_iff.mpr ⟨l, q5.lst⟩
  have kn : KN n (setOuts (ioOf pm es) outs n) := fun s => by
    by_cases hs : s ∈ ioOf pm es
    · obtain ⟨l, a, xs, e, _⟩ := h2 s hs
      rw [isL_iff.mpr ⟨l, e⟩]
      obtain ⟨j, w1, w2⟩ := r.of_mem hs
      obtain ⟨s', d', v', q1, q2, q3, q4, q5, q6, q7⟩ := r.at w1
      rw [w2] at q2; cases q2
      obtain ⟨l, hl⟩ := isL_iff.mp (ok.io j w1)
      rw [getN_map, q4] at hl
      cases hl
      exact (isL_iff.mpr ⟨l, q5.lst⟩).symm
    · unfold isL; rw [getN_outs hs]
  refine ⟨I.after f hio outs_len (fun i hi => getN_outs hi) kn (fun i hi d hd => ?_) ok.zok, kn, f, h1⟩
  obtain ⟨l, a, xs, e, e2, nz, ha, rl⟩ := h2 i hi
  rw [e] at hd; cases hd
  refine ⟨.ref a, e2, ?_⟩
  rw [hio i hi]
  exact ⟨a, xs, rfl, nz, ha, rl⟩
end
end Sc
namespace Sc
open PySem PySem.Spec PyProof.Rows L2
section
variable {Φ : Fns} {c : Cx0} {Γ : List Fg} {X : Cx} {k : Nat}
/-- a value's list is none of those -/
theorem Val.off {m : Fg} {b : List Nat} {n n' : Env} {σ : L2.St} {H H1 H' : Hp} {Z1 Z' : AP1} {d : D} {v : V} {M N : List Nat} (vv : Val X.K Γ m b n σ H H1 Z1 d v) (hM : ∀ j ∈ M, flag Γ j = .own) (hN : ∀ j ∈ N, flag Γ j = .own) (dj : disj b (M ++ N) = true) (kn : KN n n')
    (f : Fr (Adr M n σ) H1 Z1 H' Z') : ∀ l a, d = .lst l → v = .ref a → ¬ Adr N n' σ a := by
  classical
  intro l a ed ev w
  subst ed ev
  let H2 : Hp := fun p => if Adr N n' σ p then some (.tup []) else H' p
  have f2 : Fr (Adr N n' σ) H' Z' H2 Z' := by
    refine ⟨fun _ h => h, fun p o e nw => ?_, fun _ h => .inl h, fun p h => ?_⟩
    · show (if Adr N n' σ p then some (HO.tup []) else H' p) = some o
      rw [if_neg nw]; exact e
    · show (if Adr N n' σ p then some (HO.tup []) else H' p) ≠ none
      by_cases hw : Adr N n' σ p
      · rw [if_pos hw]; simp
      · rw [if_neg hw]; exact h
  obtain ⟨a2, xs, e1, e2, _⟩ := vv.kp (M ++ N) H2 Z' (wr_app hM hN) (disj_out dj) (f.seq kn f2)
  have e1 : a = a2 := by injection e1
  subst e1
  have e2 : (if Adr N n' σ a then some (HO.tup []) else H' a) = some (.lst xs) := e2
  rw [if_pos w] at e2
  cases e2
theorem gl_args (ok : XOk Φ c k X) {ioa : List Nat} (hio : ∀ j ∈ ioa, flag Γ j = .own) : ∀ {es : List E} {as : List Expr} {pm : List Pm}, GL Φ c Γ X es as → chkA c Γ pm es ioa = true → (∀ i ∈ ioOf pm es, i ∈ ioa) →
    (∀ j ∈ wrL es, flag Γ j = .own) ∧ ∃ t, PA X as t ∧ ∀ n σ H Z, SI X.K Γ n σ H Z → ∀ ds n', denL Φ es n = .ok ds n' →
    ∀ Q : List V → Hp → Prop, (∀ vs H' Z', SI X.K Γ n' σ H' Z' → KN n n' → Fr (Adr (wrL es) n σ) H Z H' Z' → AR X.K n' σ H' Z' ioa pm es ds vs → Q vs H') → t σ H Q
  | _, _, pm, .nil, h, _ => by
    cases pm with
    | cons a b => cases a <;> simp [chkA] at h
    | nil =>
      refine ⟨fun j hj => by simp [wrL] at hj, tNil, pa_nil, fun n σ H Z I ds n' e Q q => ?_⟩
      simp only [denL, ER.ok.injEq] at e
      obtain ⟨rfl, rfl⟩ := e
      exact q [] H Z I KN.refl Fr.refl .nil
  | _, _, [], .cons _ _ _ _, h, _ => by simp [chkA] at h
  | _, _, .eat :: pm, .cons (e := e) (es := es) g hs ck r, h, hm => by
    simp only [chkA, Bool.and_eq_true, decide_eq_true_eq] at h
    obtain ⟨we, te, pe, qe⟩ := g
    obtain ⟨wr, tr, pr, qr⟩ := gl_args ok hio r h.2 (fun i hi => hm i (by cases e <;> exact hi))
    refine ⟨by simp only [wrL]; exact wr_app we wr, _, pa_cons pe pr (star1 hs), fun n σ H Z I ds n' e Q q => ?_⟩
    obtain ⟨d, n1, rs, e1, e2, rfl⟩ := denL_cons e
    refine qe n σ H Z I d n1 e1 _ fun v H1 Z1 I1 k1 f1 v1 => ?_
    obtain ⟨Z2, I2, f2, r2, _, _⟩ := v1.eat I1 I k1 f1 h.1
    refine qr n1 σ H1 Z2 I2 rs n' e2 _ fun vs H' Z' I' k' f' rl => q (v :: vs) H' Z' I' (k1.trans k') ?_ (.eat (r2.fr f' fun p w => (I2.adr wr w).1) rl)
    simp only [wrL]
    exact f2.seq k1 f'
  | _, _, .brw :: pm, .cons (e := e) (es := es) g hs ck r, h, hm => by
    simp only [chkA, Bool.and_eq_true] at h
    obtain ⟨we, te, pe, qe⟩ := g
    obtain ⟨wr, tr, pr, qr⟩ := gl_args ok hio r h.2 (fun i hi => hm i (by cases e <;> exact hi))
    refine ⟨by simp only [wrL]; exact wr_app we wr, _, pa_cons pe pr (star1 hs), fun n σ H Z I ds n' e Q q => ?_⟩
    obtain ⟨d, n1, rs, e1, e2, rfl⟩ := denL_cons e
    refine qe n σ H Z I d n1 e1 _ fun v H1 Z1 I1 k1 f1 v1 => ?_
    refine qr n1 σ H1 Z1 I1 rs n' e2 _ fun vs H' Z' I' k' f' rl => q (v :: vs) H' Z' I' (k1.trans k') ?_ (.brw ?_ (v1.off wr hio h.1 k' f') rl)
    · simp only [wrL]
      exact f1.seq k1 f'
    · refine v1.kp _ H' Z' wr (disj_out ?_) f'
      refine List.all_eq_true.mpr fun i hi => ?_
      have := List.all_eq_true.mp h.1 i hi
      simp only [List.contains_eq_mem, List.mem_append, Bool.not_eq_true', decide_eq_false_iff_not, not_or] at this ⊢
      exact this.1
  | _, _, .io :: pm, .cons (e := e) (a := a) (es := es) g hs ck r, h, hm => by
    cases e <;> simp only [chkA, Bool.false_eq_true] at h
    rename_i i
    simp only [Bool.and_eq_true, decide_eq_true_eq, Bool.not_eq_true', List.contains_eq_mem, decide_eq_false_iff_not] at h
    obtain ⟨⟨⟨h1, h2⟩, h3⟩, h4⟩ := h
    obtain ⟨wr, tr, pr, qr⟩ := gl_args ok hio r h4 (fun i hi => hm i (by simp [ioOf, hi]))
    cases a <;> first | cases (show false = true from ck) | skip
    rename_i x p
    simp only [E.chk, Bool.and_eq_true, beq_iff_eq, Bool.not_eq_true'] at ck
    obtain ⟨⟨⟨c1, c2⟩, c3⟩, c4⟩ := ck
    have pe : PE X (.Name x p) (tVar i) := pe_var (by rw [ok.N]; exact c1) (by rw [ok.sc]; exact vis_of c2) c3 c4
    refine ⟨by simp only [wrL, E.wr]; simpa using wr, _, pa_cons pe pr (star1 hs), fun n σ H Z I ds n' e Q q => ?_⟩
    obtain ⟨d, n1, rs, e1, e2, rfl⟩ := denL_cons e
    simp only [E.den] at e1
    obtain ⟨e1', en⟩ := lift_eq e1
    subst en
    obtain ⟨v, hv, _⟩ := I.slot i d e1'
    refine ⟨v, hv, ?_⟩
    refine qr n σ H Z I rs n' e2 _ fun vs H' Z' I' k' f' rl => q (v :: vs) H' Z' I' k' ?_ (.io (.inl ?_) hv (hm i (by simp [ioOf])) h3 rl)
    · simp only [wrL, E.wr]; simpa using f'
    · rw [denL_keep es e2 i h2]; exact e1'
/-- the callee runs -/
theorem pe_callD {f : Addr} {fd : FuncData} {ps : List Str} {pm : List Pm} {ro : Bool} {g : Fn} {x : Str} {p pos : Pos} {e : Expr} {es : List Expr} {t : TA} (F : FnD X.prog X.w X.K X.mg X.base k f fd ps pm ro g) (hr : Room k X.A) (hgd : X.A.guards = some []) (hl : ps.length = pm.length) (hg : Gl X x) (hm : X.mg x = some (.ref f)) (hk : PySem.W.keepIn X.K (.ref f) = true) (hb : Binds X.K fd ps [])
    (ha : PA X (e :: es) t) (hdb : (x == ("__debug__" : Str)) = false) (he : starEach (e :: es) X.env = (false, eval e X.env) :: starEach es X.env) (hpl : (backTo pos (starEach es X.env)).any (·.1) = false) :
    PE X (.Call (.Name x p) (e :: es) [] pos) (fun σ H Q => t σ H fun vs H1 => ∃ Z ds d outs, ArgsOk X.K H1 Z pm ds vs ∧ g ds = .ok d outs ∧ ∀ v H' Z', ResOk X.K H1 Z pm ds vs ro H' Z' d outs v → Q v H') := by
  refine ⟨fun pins s σ H Q I h => ?_⟩
  refine wpAny_Call_Name_kw (ld_glob I hg hm ?_ hdb)
  refine PySem.W.callWith_K (h₀ := X.base) I.ok.mod.kin hk (thn (ha.run pos pins s σ H _ I h) fun us s1 ⟨vs, H1, I1, r, q⟩ => ⟨I1.kIn, ?_⟩) he hpl
  obtain ⟨Z, ds, d, outs, q1, q2, q3⟩ := q
  have hul : (us ++ ([] : List Value)).length = ps.length := by rw [List.append_nil, ← r.length, q1.l2, hl]
  refine wpAny_call (codeAny_mono (F.run X.A X.stack s1 H1 ⟨us, []⟩ us vs Z ds d outs Q hr hgd I1.env0 (by have := hb s1 us I1.kIn hul; rwa [List.append_nil] at this) r q1 q2 q3) fun r s' hq => ?_)
  cases r with
  | error e => exact hq.elim
  | ok fl =>
    cases fl with
    | ret u => exact I1.after hq
    | next => exact False.elim hq
    | brk => exact False.elim hq
    | cont => exact False.elim hq
theorem ge_call (ok : XOk Φ c k X) {fi : Nat} {e0 : E} {es : List E} {a0 : Expr} {as : List Expr} {io : List Nat} {x : Str} {p p2 : Pos} (hg : glB c.sc x = true) (hdb : (x == ("__debug__" : Str)) = false) (hf : fi < c.F.length) (hx : (sigOf c fi).name = x) (hpo : (sigOf c fi).po = true)
    (g : GL Φ c Γ X (e0 :: es) (a0 :: as)) (ca : chkA c Γ (sigOf c fi).pm (e0 :: es) io = true) (hio : io = ioOf (sigOf c fi).pm (e0 :: es)) (hown : ∀ i ∈ io, flag Γ i = .own) : GE Φ c Γ X (.call fi (e0 :: es) io) (.Call (.Name x p2) (a0 :: as) [] p) := by
  have hfs : c.F[fi]? = some (sigOf c fi) := by
    unfold sigOf
    rw [List.getD_eq_getElem?_getD, List.getElem?_eq_getElem hf]; rfl
  obtain ⟨f, fd, ps, h1, h2, h3', _, h4, F⟩ := ok.F fi _ hfs
  have h3 := h3' hpo
  rw [hx] at h1
  obtain ⟨w, t, pa, q⟩ := gl_args ok hown g ca (fun i hi => hio ▸ hi)
  have hst := g.star
  refine ⟨by simp only [E.wr]; exact wr_app w hown, _, pe_callD F ok.room ok.gd h4 (gl_of ok hg) h1 h2 h3 pa hdb (star1 (hst a0 List.mem_cons_self)) (starAll fun e he => hst e (List.mem_cons_of_mem _ he)), fun n σ H Z I d n' e Q kq => ?_⟩
  simp only [E.den] at e
  obtain ⟨ds, n1, e1, e⟩ := ER.bind_eq e
  cases eg : Φ fi ds with
  | bad => rw [eg] at e; cases e
  | ex a b => rw [eg] at e; cases e
  | ok d2 outs =>
    rw [eg] at e
    simp only at e
    split at e
    · cases e
      refine q n σ H Z I ds n1 e1 _ fun vs H1 Z1 I1 k1 f1 ar => ⟨Z1, ds, d, outs, ar.ok I1 hown, eg, fun v H' Z' rs => ?_⟩
      subst hio
      obtain ⟨I2, k2, f2, hl⟩ := ar.post I1 hown rs
      refine kq v H' Z' I2 (k1.trans k2) ?_ ?_
      · simp only [E.wr]; exact f1.seq k1 f2
      · have hrs := rs.res
        simp only [E.md, E.bs]
        by_cases hro : (sigOf c fi).ro = true
        · rw [if_pos hro] at hrs ⊢
          obtain ⟨o, hn⟩ := hrs
          cases d with
          | lst l =>
            obtain ⟨a, xs, rfl, nz, ha, r⟩ := o
            have hn1 := hn l a rfl rfl
            refine Val.fresh I2 I (k1.trans k2) nz ha ?_ r
            cases e : H a with
            | none => rfl
            | some ob => exact absurd hn1 (f1.there a (by rw [e]; simp))
          | _ => exact Val.plain I2 (fun l e => by cases e) o
        · rw [if_neg hro] at hrs ⊢
          exact Val.frz I2 hrs
    · cases e
end
end Sc
namespace Sc
open PySem PySem.Spec PyProof.Rows L2
section
variable {Φ : Fns} {c : Cx0} {Γ : List Fg} {X : Cx} {k : Nat}
theorem rr_eat {e : E} {io : List Nat} {n : Env} {d : D} (h : e.md c Γ ≠ .brw) (hio : ∀ j ∈ io, flag Γ j = .own) : rr1 e io n d = d := by
  cases e <;> try rfl
  rename_i i
  have hf : flag Γ i = .frz := by
    by_cases h2 : flag Γ i = .frz
    · exact h2
    · exact absurd (by simp [E.md, h2]) h
  have hni : i ∉ io := fun q => by have := hio i q; rw [hf] at this; cases this
  simp only [rr1]
  rw [if_neg]
  simp [hni]
theorem gl_argsR (ok : XOk Φ c k X) {ioa : List Nat} (hio : ∀ j ∈ ioa, flag Γ j = .own) : ∀ {es : List E} {as : List Expr} {pm : List Pm}, GL Φ c Γ X es as → chkR c Γ pm es ioa = true → (∀ i ∈ ioOf pm es, i ∈ ioa) →
    (∀ j ∈ wrL es, flag Γ j = .own) ∧ ∃ t, PA X as t ∧ ∀ n σ H Z, SI X.K Γ n σ H Z → ∀ ds n', denL Φ es n = .ok ds n' →
    ∀ Q : List V → Hp → Prop, (∀ vs H' Z', SI X.K Γ n' σ H' Z' → KN n n' → Fr (Adr (wrL es) n σ) H Z H' Z' → AR X.K n' σ H' Z' ioa pm es (reread ioa n' es ds) vs → Q vs H') → t σ H Q
  | _, _, pm, .nil, h, _ => by
    cases pm with
    | cons a b => cases a <;> simp [chkR] at h
    | nil =>
      refine ⟨fun j hj => by simp [wrL] at hj, tNil, pa_nil, fun n σ H Z I ds n' e Q q => ?_⟩
      simp only [denL, ER.ok.injEq] at e
      obtain ⟨rfl, rfl⟩ := e
      exact q [] H Z I KN.refl Fr.refl .nil
  | _, _, [], .cons _ _ _ _, h, _ => by simp [chkR] at h
  | _, _, .brw :: pm, .cons (e := e) g hs ck r, h, hm => by simp [chkR] at h
  | _, _, .eat :: pm, .cons (e := e) (es := es) g hs ck r, h, hm => by
    simp only [chkR, Bool.and_eq_true, decide_eq_true_eq] at h
    obtain ⟨we, te, pe, qe⟩ := g
    obtain ⟨wr, tr, pr, qr⟩ := gl_argsR ok hio r h.2 (fun i hi => hm i (by cases e <;> exact hi))
    refine ⟨by simp only [wrL]; exact wr_app we wr, _, pa_cons pe pr (star1 hs), fun n σ H Z I ds n' e Q q => ?_⟩
    obtain ⟨d, n1, rs, e1, e2, rfl⟩ := denL_cons e
    refine qe n σ H Z I d n1 e1 _ fun v H1 Z1 I1 k1 f1 v1 => ?_
    obtain ⟨Z2, I2, f2, r2, _, _⟩ := v1.eat I1 I k1 f1 h.1
    refine qr n1 σ H1 Z2 I2 rs n' e2 _ fun vs H' Z' I' k' f' rl => q (v :: vs) H' Z' I' (k1.trans k') ?_ ?_
    · simp only [wrL]
      exact f2.seq k1 f'
    · simp only [reread]
      rw [rr_eat h.1 hio]
      exact .eat (r2.fr f' fun p w => (I2.adr wr w).1) rl
  | _, _, .io :: pm, .cons (e := e) (a := a) (es := es) g hs ck r, h, hm => by
    cases e <;> simp only [chkR, Bool.false_eq_true] at h
    rename_i i
    simp only [Bool.and_eq_true, decide_eq_true_eq, Bool.not_eq_true', List.contains_eq_mem, decide_eq_false_iff_not] at h
    obtain ⟨⟨h1, h3⟩, h4⟩ := h
    obtain ⟨wr, tr, pr, qr⟩ := gl_argsR ok hio r h4 (fun i hi => hm i (by simp [ioOf, hi]))
    cases a <;> first | cases (show false = true from ck) | skip
    rename_i x p
    simp only [E.chk, Bool.and_eq_true, beq_iff_eq, Bool.not_eq_true'] at ck
    obtain ⟨⟨⟨c1, c2⟩, c3⟩, c4⟩ := ck
    have pe : PE X (.Name x p) (tVar i) := pe_var (by rw [ok.N]; exact c1) (by rw [ok.sc]; exact vis_of c2) c3 c4
    refine ⟨by simp only [wrL, E.wr]; simpa using wr, _, pa_cons pe pr (star1 hs), fun n σ H Z I ds n' e Q q => ?_⟩
    obtain ⟨d, n1, rs, e1, e2, rfl⟩ := denL_cons e
    simp only [E.den] at e1
    obtain ⟨e1', en⟩ := lift_eq e1
    subst en
    obtain ⟨v, hv, rv⟩ := I.slot i d e1'
    refine ⟨v, hv, ?_⟩
    refine qr n σ H Z I rs n' e2 _ fun vs H' Z' I' k' f' rl => q (v :: vs) H' Z' I' k' ?_ ?_
    · simp only [wrL, E.wr]; simpa using f'
    · simp only [reread]
      refine .io ?_ hv (hm i (by simp [ioOf])) h3 rl
      simp only [rr1]
      have hmi : ioa.contains i = true := by simpa using hm i (by simp [ioOf])
      by_cases hl : isL n' i = true
      · obtain ⟨l, el⟩ := isL_iff.mp hl
        rw [if_pos (by rw [hmi, hl]; rfl), el]
        exact .inl el
      · have hl2 : isL n i = false := by rw [← k' i]; simpa using hl
        rw [if_neg (by rw [hmi]; simpa using hl)]
        have nl : ∀ l, d ≠ .lst l := fun l e => by
          rw [isL_iff.mpr ⟨l, by rw [e1', e]⟩] at hl2; cases hl2
        refine .inr ⟨nl, ?_⟩
        rw [h1] at rv
        have rp : Rp X.K H Z d v := by
          cases d <;> first | exact absurd rfl (nl _) | exact rv
        exact rp.fr f' fun p w => (I.adr wr w).1
theorem chkR_own {ioa : List Nat} : ∀ {pm : List Pm} {es : List E}, chkR c Γ pm es ioa = true → ∀ i ∈ ioOf pm es, flag Γ i = .own
  | [], [], _, i, hi => by simp [ioOf] at hi
  | [], _ :: _, _, i, hi => by simp [ioOf] at hi
  | p :: _, [], h, i, hi => by cases p <;> simp [chkR] at h
  | .brw :: r, e :: s, h, i, hi => by simp [chkR] at h
  | .eat :: r, e :: s, h, i, hi => by
    simp only [chkR, Bool.and_eq_true] at h
    exact chkR_own h.2 i (by cases e <;> exact hi)
  | .io :: r, e :: s, h, i, hi => by
    cases e <;> simp only [chkR, Bool.false_eq_true] at h
    simp only [Bool.and_eq_true, decide_eq_true_eq] at h
    simp only [ioOf, List.mem_cons] at hi
    rcases hi with hi | hi
    · rw [hi]; exact h.1.1
    · exact chkR_own h.2 i hi
theorem ge_callr (ok : XOk Φ c k X) {fi : Nat} {e0 : E} {es : List E} {a0 : Expr} {as : List Expr} {io : List Nat} {x : Str} {p p2 : Pos} (hg : glB c.sc x = true) (hdb : (x == ("__debug__" : Str)) = false) (hf : fi < c.F.length) (hx : (sigOf c fi).name = x) (hpo : (sigOf c fi).po = true)
    (g : GL Φ c Γ X (e0 :: es) (a0 :: as)) (ca : chkR c Γ (sigOf c fi).pm (e0 :: es) io = true) (hio : io = ioOf (sigOf c fi).pm (e0 :: es)) : GE Φ c Γ X (.callr fi (e0 :: es) io) (.Call (.Name x p2) (a0 :: as) [] p) := by
  have hown : ∀ i ∈ io, flag Γ i = .own := fun i hi => chkR_own ca i (hio ▸ hi)
  have hfs : c.F[fi]? = some (sigOf c fi) := by
    unfold sigOf
    rw [List.getD_eq_getElem?_getD, List.getElem?_eq_getElem hf]; rfl
  obtain ⟨f, fd, ps, h1, h2, h3', _, h4, F⟩ := ok.F fi _ hfs
  have h3 := h3' hpo
  rw [hx] at h1
  obtain ⟨w, t, pa, q⟩ := gl_argsR ok hown g ca (fun i hi => hio ▸ hi)
  have hst := g.star
  refine ⟨by simp only [E.wr]; exact wr_app w hown, _, pe_callD F ok.room ok.gd h4 (gl_of ok hg) h1 h2 h3 pa hdb (star1 (hst a0 List.mem_cons_self)) (starAll fun e he => hst e (List.mem_cons_of_mem _ he)), fun n σ H Z I d n' e Q kq => ?_⟩
  simp only [E.den] at e
  obtain ⟨ds, n1, e1, e⟩ := ER.bind_eq e
  cases eg : Φ fi (reread io n1 (e0 :: es) ds) with
  | bad => rw [eg] at e; cases e
  | ex a b => rw [eg] at e; cases e
  | ok d2 outs =>
    rw [eg] at e
    simp only at e
    split at e
    · cases e
      refine q n σ H Z I ds n1 e1 _ fun vs H1 Z1 I1 k1 f1 ar => ⟨Z1, _, d, outs, ar.ok I1 hown, eg, fun v H' Z' rs => ?_⟩
      subst hio
      obtain ⟨I2, k2, f2, hl⟩ := ar.post I1 hown rs
      refine kq v H' Z' I2 (k1.trans k2) ?_ ?_
      · simp only [E.wr]; exact f1.seq k1 f2
      · have hrs := rs.res
        simp only [E.md, E.bs]
        by_cases hro : (sigOf c fi).ro = true
        · rw [if_pos hro] at hrs ⊢
          obtain ⟨o, hn⟩ := hrs
          cases d with
          | lst l =>
            obtain ⟨a, xs, rfl, nz, ha, r⟩ := o
            have hn1 := hn l a rfl rfl
            refine Val.fresh I2 I (k1.trans k2) nz ha ?_ r
            cases e : H a with
            | none => rfl
            | some ob => exact absurd hn1 (f1.there a (by rw [e]; simp))
          | _ => exact Val.plain I2 (fun l e => by cases e) o
        · rw [if_neg hro] at hrs ⊢
          exact Val.frz I2 hrs
    · cases e
end
end Sc
namespace Sc
open PySem PySem.Spec PyProof.Rows L2
/-! ### calls with keywords and defaults -/
theorem pkEq_eq : ∀ {a b : List Pk}, pkEq a b = true → a = b
  | [], [], _ => rfl
  | [], _ :: _, h => by cases (show false = true from h)
  | .at i :: _, [], h => by cases (show false = true from h)
  | .df i :: _, [], h => by cases (show false = true from h)
  | .at i :: r, .df j :: s, h => by cases (show false = true from h)
  | .df i :: r, .at j :: s, h => by cases (show false = true from h)
  | .at i :: r, .at j :: s, h => by
    simp only [pkEq, Bool.and_eq_true, beq_iff_eq] at h
    rw [h.1, pkEq_eq h.2]
  | .df i :: r, .df j :: s, h => by
    simp only [pkEq, Bool.and_eq_true] at h
    rw [deq_eq _ _ h.1, pkEq_eq h.2]
theorem kwEq_eq {a b : Kw} (h : kwEq a b = true) : a = b := by
  obtain ⟨x, y, z⟩ := a
  obtain ⟨x2, y2, z2⟩ := b
  simp only [kwEq, Bool.and_eq_true, beq_iff_eq, decide_eq_true_eq] at h
  rw [h.1.1, h.1.2, pkEq_eq h.2]
inductive GKL (Φ : Fns) (c : Cx0) (Γ : List Fg) (X : Cx) : List E → List Expr → List Keyword → List Str → Prop
  | nil : GKL Φ c Γ X [] [] [] []
  | pos {e : E} {es : List E} {a : Expr} {as : List Expr} {kws : List Keyword} {ks : List Str} : GE Φ c Γ X e a → notStar a = true → GKL Φ c Γ X es as kws ks → GKL Φ c Γ X (e :: es) (a :: as) kws ks
  | kw {e : E} {es : List E} {a : Expr} {kp : Pos} {kws : List Keyword} {k : Str} {ks : List Str} : GE Φ c Γ X e a → GKL Φ c Γ X es [] kws ks → GKL Φ c Γ X (e :: es) [] (⟨some k, a, kp⟩ :: kws) (k :: ks)
theorem kw_all {pos : Pos} {env : PySem.Env} : ∀ {kws : List Keyword} {ks : List Str}, kws.map (·.arg) = ks.map some → (backToKw pos (keywordEach kws env)).all (·.1.isSome) = true ∧ (backToKw pos (keywordEach kws env)).filterMap (·.1) = ks ∧ (backToKw pos (keywordEach kws env)).any (·.1.isNone) = false
  | [], [], _ => ⟨rfl, rfl, rfl⟩
  | [], _ :: _, h => by simp at h
  | _ :: _, [], h => by simp at h
  | ⟨nm, v, p⟩ :: kws, k :: ks, h => by
    simp only [List.map_cons, List.cons.injEq] at h
    obtain ⟨rfl, h⟩ := h
    obtain ⟨h1, h2, h3⟩ := kw_all (pos := pos) (env := env) h
    unfold backToKw at h1 h2 h3 ⊢
    simp only [keywordEach, List.map_cons, List.all_cons, List.any_cons, List.filterMap_cons, h1, h2, h3]
    exact ⟨rfl, trivial, rfl⟩
theorem star_any {pos : Pos} {env : PySem.Env} {es : List Expr} (h : ∀ e ∈ es, notStar e = true) : (backTo pos (starEach es env)).any (·.1) = false := starAll h
section
variable {Φ : Fns} {c : Cx0} {Γ : List Fg} {X : Cx} {k : Nat}
theorem GKL.names : ∀ {es : List E} {as : List Expr} {kws : List Keyword} {ks : List Str}, GKL Φ c Γ X es as kws ks → kws.map (·.arg) = ks.map some ∧ ∀ a ∈ as, notStar a = true
  | _, _, _, _, .nil => ⟨rfl, fun _ h => by simp at h⟩
  | _, _, _, _, .pos g h r => ⟨r.names.1, fun a ha => by
    rcases List.mem_cons.mp ha with e | e
    · rw [e]; exact h
    · exact r.names.2 a e⟩
  | _, _, _, _, .kw g r => ⟨by simp [r.names.1], fun _ h => by simp at h⟩
/-- a way to say one value behind an own or a staying list -/
theorem eat1 {e : E} {a : Expr} {te : TE} (we : ∀ j ∈ e.wr, flag Γ j = .own)
    (qe : ∀ n σ H Z, SI X.K Γ n σ H Z → ∀ d n', e.den Φ n = .ok d n' → ∀ Q : VK, (∀ v H' Z', SI X.K Γ n' σ H' Z' → KN n n' → Fr (Adr e.wr n σ) H Z H' Z' → Val X.K Γ (e.md c Γ) (e.bs Γ) n' σ H H' Z' d v → Q v H') → te σ H Q) (hm : e.md c Γ ≠ .brw)
    {n n1 : Env} {σ : L2.St} {H : Hp} {Z : AP1} {d : D} (I : SI X.K Γ n σ H Z) (e1 : e.den Φ n = .ok d n1) {Q : VK} (h : ∀ v H1 Z1, SI X.K Γ n1 σ H1 Z1 → KN n n1 → Fr (Adr e.wr n σ) H Z H1 Z1 → Rp X.K H1 Z1 d v → Q v H1) : te σ H Q :=
  qe n σ H Z I d n1 e1 _ fun v H1 Z1 I1 k1 f1 v1 => by
    obtain ⟨Z2, I2, f2, r2, _, _⟩ := v1.eat I1 I k1 f1 hm
    exact h v H1 Z2 I2 k1 f2 r2
theorem gk_kw : ∀ {es : List E} {kws : List Keyword} {ks : List Str}, GKL Φ c Γ X es [] kws ks → (∀ e ∈ es, e.md c Γ ≠ .brw) →
    (∀ j ∈ wrL es, flag Γ j = .own) ∧ ∃ tk, PK X kws tk ∧ ∀ n σ H Z, SI X.K Γ n σ H Z → ∀ ds n', denL Φ es n = .ok ds n' →
    ∀ Q : List V → Hp → Prop, (∀ zs H' Z', SI X.K Γ n' σ H' Z' → KN n n' → Fr (Adr (wrL es) n σ) H Z H' Z' → zs.length = kws.length → RpL X.K H' Z' ds zs → Q zs H') → tk σ H Q
  | _, _, _, .nil, _ => by
    refine ⟨fun j hj => by simp [wrL] at hj, tNil, pk_nil, fun n σ H Z I ds n' e Q q => ?_⟩
    simp only [denL, ER.ok.injEq] at e
    obtain ⟨rfl, rfl⟩ := e
    exact q [] H Z I KN.refl Fr.refl rfl RpL.nil
  | _, _, _, .kw (e := e) (es := es) (a := a) g r, hm => by
    obtain ⟨we, te, pe, qe⟩ := g
    obtain ⟨wr, tk, pk, qr⟩ := gk_kw r fun x hx => hm x (List.mem_cons_of_mem _ hx)
    refine ⟨by simp only [wrL]; exact wr_app we wr, _, pk_cons pe pk, fun n σ H Z I ds n' ed Q q => ?_⟩
    obtain ⟨d, n1, rs, e1, e2, rfl⟩ := denL_cons ed
    refine eat1 (a := a) we qe (hm e List.mem_cons_self) I e1 fun v H1 Z1 I1 k1 f1 r1 => ?_
    refine qr n1 σ H1 Z1 I1 rs n' e2 (fun zs H2 => Q (v :: zs) H2) fun zs H' Z' I' k' f' l2 rl => q (v :: zs) H' Z' I' (k1.trans k') ?_ (by simp [l2]) (.cons (r1.fr f' fun p w => (I1.adr wr w).1) rl)
    simp only [wrL]
    exact f1.seq k1 f'
theorem gk_read : ∀ {es : List E} {as : List Expr} {kws : List Keyword} {ks : List Str}, GKL Φ c Γ X es as kws ks → (∀ e ∈ es, e.md c Γ ≠ .brw) →
    (∀ j ∈ wrL es, flag Γ j = .own) ∧ ∃ t tk, PA X as t ∧ PK X kws tk ∧ (as = [] → t = tNil) ∧ ∀ n σ H Z, SI X.K Γ n σ H Z → ∀ ds n', denL Φ es n = .ok ds n' →
    ∀ Q : List V → List V → Hp → Prop, (∀ vs zs H' Z', SI X.K Γ n' σ H' Z' → KN n n' → Fr (Adr (wrL es) n σ) H Z H' Z' → vs.length = as.length → zs.length = kws.length → RpL X.K H' Z' ds (vs ++ zs) → Q vs zs H') → t σ H fun vs H1 => tk σ H1 fun zs H2 => Q vs zs H2
  | es, [], kws, ks, g, hm => by
    obtain ⟨wr, tk, pk, q⟩ := gk_kw g hm
    exact ⟨wr, tNil, tk, pa_nil, pk, fun _ => rfl, fun n σ H Z I ds n' e Q kq => q n σ H Z I ds n' e (fun zs H2 => Q [] zs H2) fun zs H' Z' I' k' f' l rl => kq [] zs H' Z' I' k' f' rfl l rl⟩
  | _, _ :: _, _, _, .pos (e := e) (es := es) (a := a) g hs r, hm => by
    obtain ⟨we, te, pe, qe⟩ := g
    obtain ⟨wr, t, tk, pr, pk, _, qr⟩ := gk_read r fun x hx => hm x (List.mem_cons_of_mem _ hx)
    refine ⟨by simp only [wrL]; exact wr_app we wr, _, tk, pa_cons pe pr (star1 hs), pk, fun e => (by cases e), fun n σ H Z I ds n' ed Q q => ?_⟩
    obtain ⟨d, n1, rs, e1, e2, rfl⟩ := denL_cons ed
    refine eat1 (a := a) we qe (hm e List.mem_cons_self) I e1 fun v H1 Z1 I1 k1 f1 r1 => ?_
    refine qr n1 σ H1 Z1 I1 rs n' e2 (fun vs zs H2 => Q (v :: vs) zs H2) fun vs zs H' Z' I' k' f' l1 l2 rl => q (v :: vs) zs H' Z' I' (k1.trans k') ?_ (by simp [l1]) l2 (.cons (r1.fr f' fun p w => (I1.adr wr w).1) rl)
    simp only [wrL]
    exact f1.seq k1 f'
/-- the callee runs, bound by names -/
theorem run_KD {f : Addr} {fd : FuncData} {ps : List Str} {pm : List Pm} {ro : Bool} {g : Fn} {q : Kw} {pins : List (Addr × Obj)} {s : Shared} {σ : L2.St} {H : Hp} {us ws : List Value} {vs zs : List V} {Z : AP1} {ds : List D} {d : D} {outs : List D} {Q : VK} {gv : List Value → List Value → List Value} {gV : List V → List V → List V}
    (F : FnD X.prog X.w X.K X.mg X.base k f fd ps pm ro g) (hr : Room k X.A) (hgd : X.A.guards = some []) (hb : KBn X.K fd ps q.np q.ks gv gV) (I : Inv X pins σ H s) (r : Vals vs us) (rz : Vals zs ws) (l1 : vs.length = q.np) (l2 : zs.length = q.ks.length)
    (ao : ArgsOk X.K H Z pm ds (gV vs zs)) (hg : g ds = .ok d outs) (hq : ∀ v H' Z', ResOk X.K H Z pm ds (gV vs zs) ro H' Z' d outs v → Q v H') : wpAny (model X.prog X.w) X.A (call (.ref f) us (q.ks.zip ws)) (EP X pins σ Q) X.xe s := by
  refine wpAny_call (codeAny_mono (F.run X.A X.stack s H ⟨us, q.ks.zip ws⟩ (gv us ws) (gV vs zs) Z ds d outs Q hr hgd I.env0 (hb.to s us ws I.kIn (r.length.symm.trans l1) (rz.length.symm.trans l2)) (hb.rel r rz) ao hg hq) fun r s' hq => ?_)
  cases r with
  | error e => exact hq.elim
  | ok fl =>
    cases fl with
    | ret u => exact I.after hq
    | next => exact False.elim hq
    | brk => exact False.elim hq
    | cont => exact False.elim hq
theorem pe_callKD {f : Addr} {fd : FuncData} {ps : List Str} {pm : List Pm} {ro : Bool} {g : Fn} {q : Kw} {x : Str} {p pos : Pos} {as : List Expr} {kws : List Keyword} {t tk : TA} {gv : List Value → List Value → List Value} {gV : List V → List V → List V}
    (F : FnD X.prog X.w X.K X.mg X.base k f fd ps pm ro g) (hr : Room k X.A) (hgd : X.A.guards = some []) (hg : Gl X x) (hm : X.mg x = some (.ref f)) (hk : PySem.W.keepIn X.K (.ref f) = true) (hb : KBn X.K fd ps q.np q.ks gv gV)
    (ha : PA X as t) (hkw : PK X kws tk) (h0 : as = [] → t = tNil) (hn : kws.map (·.arg) = q.ks.map some) (hst : ∀ a ∈ as, notStar a = true) (hdb : (x == ("__debug__" : Str)) = false) :
    PE X (.Call (.Name x p) as kws pos) (fun σ H Q => t σ H fun vs H1 => tk σ H1 fun zs H2 => vs.length = q.np ∧ zs.length = q.ks.length ∧ ∃ Z ds d outs, ArgsOk X.K H2 Z pm ds (gV vs zs) ∧ g ds = .ok d outs ∧ ∀ v H' Z', ResOk X.K H2 Z pm ds (gV vs zs) ro H' Z' d outs v → Q v H') := by
  obtain ⟨n1, n2, n3⟩ := kw_all (pos := pos) (env := X.env) hn
  refine ⟨fun pins s σ H Q I h => ?_⟩
  refine wpAny_Call_Name_kw (ld_glob I hg hm ?_ hdb)
  cases as with
  | nil =>
    have e0 := h0 rfl
    subst e0
    refine PySem.W.callWith_KW0 (h₀ := X.base) I.ok.mod.kin hk n1 ?_ (by rw [n3]; rfl)
    refine thn (hkw.run pos pins s σ H _ I h) fun ws s2 ⟨zs, H2, I2, rz, l1, l2, Z, ds, d, outs, q1, q2, q3⟩ => ⟨I2.kIn, ?_⟩
    rw [n2]
    exact run_KD (us := []) (vs := []) F hr hgd hb I2 .nil rz l1 l2 q1 q2 q3
  | cons e es =>
    refine PySem.W.callWith_KW (h₀ := X.base) I.ok.mod.kin hk n1 (thn (ha.run pos pins s σ H _ I h) fun us s1 ⟨vs, H1, I1, r, q'⟩ => ?_) (by rw [n3, starAll hst]; rfl) (star1 (hst e List.mem_cons_self))
    refine thn (hkw.run pos pins s1 σ H1 _ I1 q') fun ws s2 ⟨zs, H2, I2, rz, l1, l2, Z, ds, d, outs, q1, q2, q3⟩ => ⟨I2.kIn, ?_⟩
    rw [n2]
    exact run_KD F hr hgd hb I2 r rz l1 l2 q1 q2 q3
theorem rp_flat {K : PySem.W.Frag} {H : Hp} {Z : AP1} : ∀ {d : D}, flatD d = true → Rp K H Z d (flV d)
  | .non, _ => by simp only [Rp, flV]
  | .bl b, _ => by simp only [Rp, flV]
  | .int b, _ => by simp only [Rp, flV]
  | .str b, _ => by simp only [Rp, flV]
  | .ty b, h => by cases (show false = true from h)
  | .fn b, h => by cases (show false = true from h)
  | .scr b, h => by cases (show false = true from h)
  | .tup b, h => by cases (show false = true from h)
  | .lst b, h => by cases (show false = true from h)
theorem rp_getD {K : PySem.W.Frag} {H : Hp} {Z : AP1} {ds : List D} {vs : List V} {i : Nat} (h : RpL K H Z ds vs) : Rp K H Z (ds.getD i .non) (vs.getD i .non) := by
  rw [List.getD_eq_getElem?_getD, List.getD_eq_getElem?_getD]
  cases e : ds[i]? with
  | none =>
    have : vs[i]? = none := by
      rw [List.getElem?_eq_none_iff] at e ⊢
      rw [← h.len]; exact e
    rw [this]; simp only [Option.getD_none, Rp]
  | some d =>
    obtain ⟨v, e2, r⟩ := h.get e
    rw [e2]; exact r
theorem rp_perm {K : PySem.W.Frag} {H : Hp} {Z : AP1} {ds : List D} {vs : List V} (h : RpL K H Z ds vs) : ∀ {perm : List Pk}, (∀ d, Pk.df d ∈ perm → flatD d = true) → RpL K H Z (permD perm ds) (permV perm vs)
  | [], _ => RpL.nil
  | .at i :: r, q => RpL.cons (rp_getD h) (rp_perm h fun d hd => q d (List.mem_cons_of_mem _ hd))
  | .df d :: r, q => RpL.cons (rp_flat (q d List.mem_cons_self)) (rp_perm h fun d hd => q d (List.mem_cons_of_mem _ hd))
theorem args_eat {K : PySem.W.Frag} {H : Hp} {Z : AP1} {pm : List Pm} {ds : List D} {vs : List V} (he : ∀ p ∈ pm, p = .eat) (hl : ds.length = pm.length) (h : RpL K H Z ds vs) (zok : ZOk H Z) : ArgsOk K H Z pm ds vs := by
  have fe : ∀ i, flag (pm.map flOf) i = .frz := fun i => by
    unfold flag
    rw [List.getD_eq_getElem?_getD, List.getElem?_map]
    cases e : pm[i]? with
    | none => rfl
    | some p => rw [he p (List.mem_of_getElem? e)]; rfl
  have hl2 := h.len
  refine ⟨hl, by omega, ⟨by simp [hl2], fun i d hd => ?_, fun i j p _ h1 => ?_, fun i j p h1 => ?_, zok⟩⟩
  · rw [getN_map] at hd
    obtain ⟨v, e, r⟩ := h.get hd
    refine ⟨v, by rw [List.getElem?_map, e]; rfl, ?_⟩
    rw [fe]; exact r
  · rw [fe] at h1; cases h1
  · rw [fe] at h1; cases h1
theorem outs_eat {K : PySem.W.Frag} {H : Hp} {Z : AP1} : ∀ {pm : List Pm} {vs : List V} {outs : List D}, (∀ p ∈ pm, p = .eat) → OutsOk K H Z pm vs outs → outs = []
  | [], vs, outs, _, h => by cases vs <;> exact h
  | p :: r, [], outs, he, h => by
    have := he p List.mem_cons_self
    subst this
    exact h
  | p :: r, v :: vs, outs, he, h => by
    have := he p List.mem_cons_self
    subst this
    exact outs_eat (fun p hp => he p (List.mem_cons_of_mem _ hp)) h
theorem ge_callk (ok : XOk Φ c k X) {fi np : Nat} {ks : List Str} {es : List E} {perm : List Pk} {as : List Expr} {kws : List Keyword} {x : Str} {p p2 : Pos} (hg : glB c.sc x = true) (hdb : (x == ("__debug__" : Str)) = false) (hf : fi < c.F.length) (hx : (sigOf c fi).name = x)
    (hq : (sigOf c fi).kb.any (kwEq ⟨np, ks, perm⟩) = true) (hpm : ∀ p ∈ (sigOf c fi).pm, p = .eat) (hpl : (sigOf c fi).pm.length = perm.length) (hn : as.length = np) (g : GKL Φ c Γ X es as kws ks) (hm : ∀ e ∈ es, e.md c Γ ≠ .brw) : GE Φ c Γ X (.callk fi np ks es perm) (.Call (.Name x p2) as kws p) := by
  have hfs : c.F[fi]? = some (sigOf c fi) := by
    unfold sigOf
    rw [List.getD_eq_getElem?_getD, List.getElem?_eq_getElem hf]; rfl
  obtain ⟨f, fd, ps, h1, h2, _, h3, h4, F⟩ := ok.F fi _ hfs
  rw [hx] at h1
  obtain ⟨q, hqm, hqe⟩ := List.any_eq_true.mp hq
  have hqe := kwEq_eq hqe
  subst hqe
  obtain ⟨hfl, gv, gV, hb, hp⟩ := h3 _ hqm
  obtain ⟨hnm, hst⟩ := g.names
  obtain ⟨w, t, tk, pa, pk, h0, sem⟩ := gk_read g hm
  have hkl : kws.length = ks.length := by have := congrArg List.length hnm; simpa using this
  refine ⟨by simp only [E.wr]; exact w, _, pe_callKD (q := ⟨np, ks, perm⟩) F ok.room ok.gd (gl_of ok hg) h1 h2 hb pa pk h0 hnm hst hdb, fun n σ H Z I d n' e Q kq => ?_⟩
  simp only [E.den] at e
  obtain ⟨ds, n1, e1, e⟩ := ER.bind_eq e
  split at e
  · rename_i d2 eg
    cases e
    refine sem n σ H Z I ds _ e1 _ fun vs zs H1 Z1 I1 k1 f1 l1 l2 rl => ?_
    have e5 := hp vs zs (l1.trans hn) (l2.trans hkl)
    refine ⟨l1.trans hn, l2.trans hkl, Z1, permD perm ds, d, [], ?_, eg, fun v H' Z' rs => ?_⟩
    · rw [e5]
      exact args_eat hpm (by unfold permD; rw [List.length_map, hpl]) (rp_perm rl hfl) I1.zok
    · have fr : Fr (fun _ => False) H1 Z1 H' Z' := rs.fr.mono fun p hp => by
        obtain ⟨i, hi, _⟩ := hp
        have := hpm _ (List.mem_of_getElem? hi)
        cases this
      have I2 : SI X.K Γ _ σ H' Z' := I1.fr fr (fun _ h => h) rs.zok
      refine kq v H' Z' I2 k1 ?_ ?_
      · simp only [E.wr]
        exact f1.trans fr (fun p w => .inl w) fun p w => w.elim
      · have hrs := rs.res
        simp only [E.md, E.bs]
        by_cases hro : (sigOf c fi).ro = true
        · rw [if_pos hro] at hrs ⊢
          obtain ⟨o, hn⟩ := hrs
          cases d with
          | lst l =>
            obtain ⟨a, xs, rfl, nz, ha, r⟩ := o
            have hn1 := hn l a rfl rfl
            refine Val.fresh I2 I k1 nz ha ?_ r
            cases e : H a with
            | none => rfl
            | some ob => exact absurd hn1 (f1.there a (by rw [e]; simp))
          | _ => exact Val.plain I2 (fun l e => by cases e) o
        · rw [if_neg hro] at hrs ⊢
          exact Val.frz I2 hrs
  · cases e
  · cases e
end
end Sc
namespace PySem
open Sem (wp)
theorem scMeetsEnum1 {v : Value} {o : Obj} {H : Heap → Prop} (B : Begins v o H) : Meets (Builtin.«enumerate.__new__» ⟨[.type "enumerate", v], []⟩) (fun _ R s => H s.heap ∧ R (.ok (.ret (.ref (s.heap.push o).objs.size)))
    { s with heap := (s.heap.push o).push { cls := .type "enumerate", data := .fields #[.none, .bool false, .ref s.heap.objs.size, rawInt 0, .none, .none] } }) :=
  .of_wp fun prog w A R s h => by
    obtain ⟨hp, g, d, tk, os⟩ := s
    obtain ⟨h1, h⟩ := h
    have hsub := sub_enumerate
    have q1 : ∀ {A' : Around} {E : Value → Shared → Prop} {Q : Value → Shared → Prop}, Q (.ref hp.objs.size) ⟨hp.push o, g, d, tk, os⟩ → wpAny (model prog w) A' (pyIter v) Q E ⟨hp, g, d, tk, os⟩ := fun q => B.iter prog w _ _ ⟨hp, g, d, tk, os⟩ _ h1 q
    wp_walk using q1
    refine wpAny_stack_any fun st => wpAny_pure ?_
    split
    · rename_i c _ _ _ _ _
      cases (c == Value.type "enumerate") <;> (wp_walk using q1; exact ⟨_, rfl, h⟩)
    · wp_walk using q1
      exact ⟨_, rfl, h⟩
section
variable {prog : Program} {w : World} {A : Around} {E : Value → Shared → Prop} {s : Shared}
theorem scEnumBegins {v : Value} {o : Obj} {H : Heap → Prop} {Q : Value → Shared → Prop} (B : Begins v o H) (h1 : H s.heap)
    (h : ∀ h', IsEnum h' (s.heap.objs.size + 1) s.heap.objs.size 0 .none → h'.get? s.heap.objs.size = some o → (∀ b o, s.heap.get? b = some o → h'.get? b = some o) → Q (.ref (s.heap.objs.size + 1)) { s with heap := h' }) : wpAny (model prog w) A (call (.type "enumerate") [v]) Q E s := by
  refine callType_new F.called_enumerate (by decide) (F.typeCall_enumerate_1 _) (F.newCall_enumerate_1 _) (fun obj => F.args_object_init_2 obj _) F.entry_enumerate_new (scMeetsEnum1 B) ⟨h1, ?_⟩
  have hz : (s.heap.push o).objs.size = s.heap.objs.size + 1 := Heap.size_push ..
  show _ ∧ _
  rw [hz]
  have he : IsEnum ((s.heap.push o).push { cls := .type "enumerate", data := .fields #[.none, .bool false, .ref s.heap.objs.size, rawInt 0, .none, .none] }) (s.heap.objs.size + 1) s.heap.objs.size 0 .none := by
    have q := Heap.get?_push_size (s.heap.push o) (o := { cls := .type "enumerate", data := .fields #[.none, .bool false, .ref s.heap.objs.size, rawInt 0, .none, .none] }) rfl
    rw [hz] at q
    exact q
  exact ⟨⟨_, he, rfl⟩, h _ he (Heap.get?_push_of_some _ (Heap.get?_push_size _ B.free)) fun b o x => Heap.get?_push_of_some _ (Heap.get?_push_of_some _ x)⟩
end
end PySem
namespace Sc
open PySem PySem.Spec PyProof.Rows L2
/-! ### zip, enumerate over lists and tuples alike -/
def SqK (K : PySem.W.Frag) (H : Hp) : Bool → Addr → List V → Prop
  | true => SqL K H
  | false => SqT K H
def ItK (h : Heap) : Bool → Addr → Addr → Nat → Prop
  | true => h.IsListIter
  | false => h.IsTupleIter
def ObK (h : Heap) : Bool → Addr → Array Value → Prop
  | true => h.IsList
  | false => h.IsTuple
def oIt : Bool → Addr → Obj
  | true, a => { cls := .type "list_iterator", data := .fields #[.ref a, .int 0 0] }
  | false, a => { cls := .type "tuple_iterator", data := .fields #[.ref a, .int 0 0] }
theorem drK {prog : Program} {w : World} {A : Around} (hh : A.handled = none) (it a : Addr) (hne : a ≠ it) (its : Array Value) : ∀ b, Draws prog w A it [it, a] its.size (fun i v => its[i]? = some v) (fun i h => ItK h b it a i ∧ ObK h b a its)
  | true => Draws.list hh it a hne its
  | false => Draws.tuple hh it a hne its
theorem bgK (a : Addr) (its : Array Value) : ∀ b, Begins (.ref a) (oIt b a) fun h => ObK h b a its
  | true => begins_list a its
  | false => begins_tuple a its
theorem itK0 {h : Heap} {it a : Addr} : ∀ {b : Bool}, h.get? it = some (oIt b a) → ItK h b it a 0
  | true, e => ⟨_, e, rfl, rfl⟩
  | false, e => ⟨_, e, rfl, rfl⟩
theorem itK_keep {h h' : Heap} {it a : Addr} {i : Nat} (k : ∀ o, h.get? it = some o → h'.get? it = some o) : ∀ {b : Bool}, ItK h b it a i → ItK h' b it a i
  | true, e => e.at k
  | false, e => e.at k
theorem itK_obj {h : Heap} {it a : Addr} {i : Nat} : ∀ {b : Bool}, ItK h b it a i → ∃ o, h.get? it = some o ∧ ∀ v, o.data ≠ .cell v
  | true, ⟨o, e, _, d⟩ => ⟨o, e, fun v q => by rw [d] at q; cases q⟩
  | false, ⟨o, e, _, d⟩ => ⟨o, e, fun v q => by rw [d] at q; cases q⟩
section
variable {X : Cx} {pins : List (Addr × Obj)} {σ : L2.St} {H : Hp} {s : Shared}
theorem seqK (I : Inv X pins σ H s) {a : Addr} {xs : List V} : ∀ {b : Bool}, SqK X.K H b a xs → ∃ its : List Value, Vals xs its ∧ ObK s.heap b a its.toArray ∧ xs.length ≤ sizeLine
  | true, h => let ⟨its, r, p, z⟩ := I.list h; ⟨its, r, p.isList, z⟩
  | false, h => let ⟨its, r, p, z⟩ := I.tuple h; ⟨its, r, p, z⟩
theorem seqK_inj (I : Inv X pins σ H s) {a : Addr} {xs ys : List V} : ∀ {b : Bool}, SqK X.K H b a xs → SqK X.K H b a ys → xs = ys
  | true, h, k => I.list_inj h k
  | false, h, k => I.tuple_inj h k
theorem obK_lt {h : Heap} {a : Addr} {its : Array Value} : ∀ {b : Bool}, ObK h b a its → a < h.objs.size
  | true, ⟨o, e, _⟩ => Heap.lt_size e
  | false, ⟨o, e, _⟩ => Heap.lt_size e
end
theorem itK_ne {h : Heap} {it a c : Addr} {i : Nat} {its : Array Value} {b b' : Bool} (h1 : ItK h b it a i) (h2 : ObK h b' c its) : c ≠ it := by
  have q1 : ∃ o, h.get? it = some o ∧ ∃ fs, o.data = .fields fs := by cases b <;> (obtain ⟨o, q, _, d⟩ := h1; exact ⟨o, q, _, d⟩)
  have q2 : ∃ o, h.get? c = some o ∧ ∃ n, o.data = .seq its n := by cases b' <;> (obtain ⟨o, q, _, d⟩ := h2; exact ⟨o, q, d⟩)
  intro e
  obtain ⟨o, g1, fs, d1⟩ := q1
  obtain ⟨o2, g2, n, d2⟩ := q2
  rw [e, g1] at g2
  cases g2
  rw [d1] at d2; cases d2
def Iteq (K : PySem.W.Frag) (b : Bool) (a : Addr) : It :=
  ⟨fun i H => ∃ (xs : List V) (x : V), SqK K H b a xs ∧ xs[i]? = some x,
   fun i H v H' => ∃ T x, v = .ref T ∧ H T = none ∧ H' = upd H T (.tup [.int (i : Nat), x]) ∧ ∀ xs, SqK K H b a xs → xs[i]? = some x,
   fun i H => ∃ xs : List V, SqK K H b a xs ∧ xs.length = i⟩
theorem turn_eq {P : Program} {w : World} {K : PySem.W.Frag} {elts : List Expr} {kk : Nat} {tpos : Pos} {b : Bool} {a e it : Addr} (h1 : e ≠ it) (h2 : a ≠ it) (h3 : e ≠ a) :
    Turn P w K (.Tuple elts kk tpos) (Iteq K b a) [e, it] e (fun i h => (∃ old, IsEnum h e it (i : Nat) old) ∧ ItK h b it a i) where
  mem := by simp
  obj := fun i h st c hc => by
    have e' : c = e ∨ c = it := by simpa using hc
    obtain ⟨⟨old, he⟩, hit⟩ := st
    rcases e' with q | q
    · rw [q]; exact ⟨_, he, fun v q => nomatch q⟩
    · rw [q]; exact itK_obj hit
  keep := fun i h h' st k => by
    obtain ⟨⟨old, he⟩, hit⟩ := st
    exact ⟨⟨old, k e (by simp) _ he⟩, itK_keep (fun o q => k it (by simp) o q) hit⟩
  item := by
    intro X hP hw hK hc i pins s σ H E I hf st hg
    subst hP hw hK
    obtain ⟨⟨old, he⟩, hit⟩ := st
    obtain ⟨xs, x, hq, hx⟩ := hg
    obtain ⟨its, rv, p, hz⟩ := seqK I hq
    obtain ⟨u, hu, ru⟩ := rv.get hx
    have hlt : i < its.length := (List.getElem?_eq_some_iff.mp hu).1
    have G := GoesN.enumFrom (prog := X.prog) (w := X.w) (A := X.A) (elts := elts) (x1 := kk) (pos := tpos) 0 (drK (A := X.A.in1) (I.ok.hd hc) it a h2 its.toArray b) e h1 (by simp [h1, h3]) (by simp)
    refine G.goes i s (fun u s2 => ∃ x H', Inv X pins σ H' s2 ∧ RelV x u ∧ (Iteq X.K b a).yld i H x H' ∧ ((∃ old, IsEnum s2.heap e it ((i + 1 : Nat) : Int) old) ∧ ItK s2.heap b it a (i + 1)) ∧ ∀ b ∈ [e, it], H' b = none) E (by simpa using hlt) ⟨⟨old, by simpa using he⟩, hit, p⟩ fun v h' tk Y st' hk htk => ?_
    obtain ⟨T, t, x', rfl, hT, hx', hTu⟩ := Y
    have ex : x' = u := by
      have q : its.toArray[i]? = some u := by simpa using hu
      rw [q] at hx'; cases hx'; rfl
    subst ex
    have new : ObjOk X.prog X.w (upd H T (.tup [.int (i : Nat), x])) h' T (.tup [.int (i : Nat), x]) :=
      ⟨by show 2 ≤ sizeLine; decide, [.int (0 + (i : Int)) t, x'], .cons ⟨t, by simp⟩ (.cons ru .nil), hTu⟩
    have I1 : Inv X pins σ (upd H T (.tup [.int (i : Nat), x])) { s with heap := h', toks := tk } := I.turnedNew (ch := [e, it]) hk hf hT new
    obtain ⟨⟨old', he'⟩, hit', _⟩ := st'
    refine ⟨.ref T, _, I1, rfl, ⟨T, x, rfl, I.hok.fresh hT, rfl, fun ys hy => by rw [seqK_inj I hy hq]; exact hx⟩, ⟨⟨old', by simpa using he'⟩, hit'⟩, fun c hcm => ?_⟩
    have hlt' : c < s.heap.objs.size := by
      have e' : c = e ∨ c = it := by simpa using hcm
      rcases e' with z | z
      · rw [z]; exact Heap.lt_size he
      · rw [z]; obtain ⟨o, q, _⟩ := itK_obj hit; exact Heap.lt_size q
    rw [upd_ne (Nat.ne_of_lt (Nat.lt_of_lt_of_le hlt' hT))]
    exact (hf c hcm).1
  done := by
    intro X hP hw hK hc i pins s σ H E I hf st hg
    subst hP hw hK
    obtain ⟨⟨old, he⟩, hit⟩ := st
    obtain ⟨xs, hq, hl⟩ := hg
    obtain ⟨its, rv, p, hz⟩ := seqK I hq
    have G := GoesN.enumFrom (prog := X.prog) (w := X.w) (A := X.A) (elts := elts) (x1 := kk) (pos := tpos) 0 (drK (A := X.A.in1) (I.ok.hd hc) it a h2 its.toArray b) e h1 (by simp [h1, h3]) (by simp)
    have hn : its.toArray.size = i := by rw [List.size_toArray, ← rv.length, hl]
    rw [hn] at G
    exact G.stops s (fun s1 => Inv X pins σ H s1) E ⟨⟨old, by simpa using he⟩, hit, p⟩ fun h' tk hk htk => I.turnedL (t' := tk) (ch := [e, it]) hk hf
  self := fun A i s Q E st h => let ⟨⟨_, he⟩, _⟩ := st; wpAny_pyIter_enum he h
def iEnumA (K : PySem.W.Frag) (ta : TA) : TI := fun σ H R => ta σ H fun vs H1 => ∃ b a xs, vs = [.ref a] ∧ SqK K H1 b a xs ∧ R (Iteq K b a) H1
theorem pi_enumA {X : Cx} {e : Expr} {ta : TA} {p pos tpos : Pos} {elts : List Expr} {kk : Nat} (hg : Gl X "enumerate") (hm : X.mg "enumerate" = none) (ha : PA X [e] ta) (hs : starEach [e] X.env = [(false, eval e X.env)]) :
    PI X (.Tuple elts kk tpos) (.Call (.Name "enumerate" p) [e] [] pos) (iEnumA X.K ta) := by
  refine ⟨fun pins s σ H R I h => ?_⟩
  refine Call_ (ld_blt I hg hm boot_enumerate (PyProof.Rows.callWith_type1 (thn (ha.run pos pins s σ H _ I h) fun us s1 ⟨vs, H1, I1, r1, q1⟩ => ?_) hs rfl))
  obtain ⟨b, a, xs, ex, hq, q⟩ := q1
  subst ex
  cases r1 with
  | cons r rr =>
    cases rr
    cases r
    obtain ⟨its, rv, p', hz⟩ := seqK I1 hq
    have hal := obK_lt p'
    refine scEnumBegins (bgK a its.toArray b) p' fun h' he hit hk => wpAny_pyIter_enum he ?_
    have I2 : Inv X pins σ H1 { s1 with heap := h' } := I1.kept (t' := s1.toks) hk
    refine ⟨s1.heap.objs.size + 1, [s1.heap.objs.size + 1, s1.heap.objs.size], _, _, H1, rfl, I2, turn_eq (elts := elts) (kk := kk) (tpos := tpos) (b := b) (a := a) (Nat.succ_ne_self _) (Nat.ne_of_lt hal) (Nat.ne_of_gt (Nat.lt_succ_of_lt hal)), ⟨⟨.none, he⟩, itK0 hit⟩, fun c hcm => ?_, q⟩
    have e' : c = s1.heap.objs.size + 1 ∨ c = s1.heap.objs.size := by simpa using hcm
    have hle : s1.heap.objs.size ≤ c := by
      rcases e' with z | z <;> rw [z]
      · exact Nat.le_add_right _ _
      · exact Nat.le_refl _
    exact I1.fpOk hle (I1.hok.fresh hle)
theorem walk_eq {K : PySem.W.Frag} {b : Bool} {a : Addr} {xs : List V} : Walk (Iteq K b a) xs.length (fun H => SqK K H b a xs) (YPair (fun i => some (.int (i : Nat))) (fun i => xs[i]?)) := by
  refine ⟨fun i _ hi q => ⟨xs, xs[i], q, by simp [hi]⟩, fun _ q => ⟨xs, q, rfl⟩, fun i H v H' _ q y => ?_⟩
  obtain ⟨T, x, h1, h2, h3, h4⟩ := y
  exact ⟨T, .int (i : Nat), x, h1, h2, h3, rfl, h4 xs q⟩

def Itzq (K : PySem.W.Frag) (b1 b2 : Bool) (a1 a2 : Addr) : It :=
  ⟨fun i H => ∃ (xs ys : List V) (x y : V), SqK K H b1 a1 xs ∧ SqK K H b2 a2 ys ∧ xs[i]? = some x ∧ ys[i]? = some y,
   fun i H v H' => ∃ T x y, v = .ref T ∧ H T = none ∧ H' = upd H T (.tup [x, y]) ∧ (∀ xs, SqK K H b1 a1 xs → xs[i]? = some x) ∧ ∀ ys, SqK K H b2 a2 ys → ys[i]? = some y,
   fun i H => ∃ xs ys : List V, SqK K H b1 a1 xs ∧ SqK K H b2 a2 ys ∧ min xs.length ys.length = i⟩
theorem turn_zq {P : Program} {w : World} {K : PySem.W.Frag} {elts : List Expr} {kk : Nat} {tpos : Pos} {b1 b2 : Bool} {a1 a2 z TI TO i1 i2 : Addr} (S : ZipSep2 z TI TO i1 i2 [i1, a1] [i2, a2]) :
    Turn P w K (.Tuple elts kk tpos) (Itzq K b1 b2 a1 a2) [z, TI, TO, i1, i2] z (fun i h => IsZip h z TI TO .none ∧ IsTupOf2 h TI (.ref i1) (.ref i2) ∧ (∃ x y, IsTupOf2 h TO x y) ∧ ItK h b1 i1 a1 i ∧ ItK h b2 i2 a2 i) where
  mem := by simp
  obj := fun i h st c hc => by
    obtain ⟨hz, hTI, ⟨x, y, hTO⟩, h1, h2⟩ := st
    have e' : c = z ∨ c = TI ∨ c = TO ∨ c = i1 ∨ c = i2 := by simpa using hc
    rcases e' with q | q | q | q | q <;> rw [q]
    · exact ⟨_, hz, fun v q => nomatch q⟩
    · exact ⟨_, hTI, fun v q => nomatch q⟩
    · exact ⟨_, hTO, fun v q => nomatch q⟩
    · exact itK_obj h1
    · exact itK_obj h2
  keep := fun i h h' st k => by
    obtain ⟨hz, hTI, ⟨x, y, hTO⟩, h1, h2⟩ := st
    exact ⟨k z (by simp) _ hz, k TI (by simp) _ hTI, ⟨x, y, k TO (by simp) _ hTO⟩, itK_keep (fun o q => k i1 (by simp) o q) h1, itK_keep (fun o q => k i2 (by simp) o q) h2⟩
  item := by
    intro X hP hw hK hc i pins s σ H E I hf st hg
    subst hP hw hK
    obtain ⟨hz, hTI, hTO, h1, h2⟩ := st
    obtain ⟨xs, ys, x, y, hqx, hqy, hx, hy⟩ := hg
    obtain ⟨its, rv, p1, _⟩ := seqK I hqx
    obtain ⟨its2, rv2, p2, _⟩ := seqK I hqy
    obtain ⟨u, hu, ru⟩ := rv.get hx
    obtain ⟨u2, hu2, ru2⟩ := rv2.get hy
    have hlt : i < its.length := (List.getElem?_eq_some_iff.mp hu).1
    have hlt2 : i < its2.length := (List.getElem?_eq_some_iff.mp hu2).1
    have n1 := itK_ne h1 p1
    have n2 := itK_ne h2 p2
    have G := GoesN.zip2 (prog := X.prog) (w := X.w) (A := X.A) (elts := elts) (x1 := kk) (pos := tpos) S (drK (A := X.A.in1) (I.ok.hd hc) i1 a1 n1 its.toArray b1) (drK (A := X.A.in1) (I.ok.hd hc) i2 a2 n2 its2.toArray b2)
    refine G.goes i s (fun u s2 => ∃ x H', Inv X pins σ H' s2 ∧ RelV x u ∧ (Itzq X.K b1 b2 a1 a2).yld i H x H' ∧ (IsZip s2.heap z TI TO .none ∧ IsTupOf2 s2.heap TI (.ref i1) (.ref i2) ∧ (∃ x y, IsTupOf2 s2.heap TO x y) ∧ ItK s2.heap b1 i1 a1 (i + 1) ∧ ItK s2.heap b2 i2 a2 (i + 1)) ∧ ∀ b ∈ [z, TI, TO, i1, i2], H' b = none) E
      (by simp only [List.size_toArray]; omega) ⟨hz, hTI, hTO, ⟨h1, p1⟩, ⟨h2, p2⟩⟩ fun v h' tk Y st' hk htk => ?_
    obtain ⟨T, x', y', rfl, hT, hx', hy', hTu⟩ := Y
    have ex : x' = u := by
      have q : its.toArray[i]? = some u := by simpa using hu
      rw [q] at hx'; cases hx'; rfl
    have ey : y' = u2 := by
      have q : its2.toArray[i]? = some u2 := by simpa using hu2
      rw [q] at hy'; cases hy'; rfl
    subst ex ey
    have new : ObjOk X.prog X.w (upd H T (.tup [x, y])) h' T (.tup [x, y]) := ⟨by show 2 ≤ sizeLine; decide, [x', y'], .cons ru (.cons ru2 .nil), hTu⟩
    have I1 : Inv X pins σ (upd H T (.tup [x, y])) { s with heap := h', toks := tk } := I.turnedNew (ch := [z, TI, TO, i1, i2]) (fun c o hb q => hk c o (fun q' => hb (by
      have e' : c = z ∨ c = TO ∨ c = i1 ∨ c = i2 := by simpa using q'
      rcases e' with r | r | r | r <;> simp [r])) q) hf hT new
    obtain ⟨hz', hTI', hTO', ⟨h1', _⟩, ⟨h2', _⟩⟩ := st'
    refine ⟨.ref T, _, I1, rfl, ⟨T, x, y, rfl, I.hok.fresh hT, rfl, fun l hl => by rw [seqK_inj I hl hqx]; exact hx, fun l hl => by rw [seqK_inj I hl hqy]; exact hy⟩, ⟨hz', hTI', hTO', h1', h2'⟩, fun c hcm => ?_⟩
    have hlt' : c < s.heap.objs.size := by
      have e' : c = z ∨ c = TI ∨ c = TO ∨ c = i1 ∨ c = i2 := by simpa using hcm
      obtain ⟨_, _, hTO⟩ := hTO
      rcases e' with q | q | q | q | q <;> rw [q]
      · exact Heap.lt_size hz
      · exact Heap.lt_size hTI
      · exact Heap.lt_size hTO
      · obtain ⟨o, e1, _⟩ := itK_obj h1; exact Heap.lt_size e1
      · obtain ⟨o, e1, _⟩ := itK_obj h2; exact Heap.lt_size e1
    rw [upd_ne (Nat.ne_of_lt (Nat.lt_of_lt_of_le hlt' hT))]
    exact (hf c hcm).1
  done := by
    intro X hP hw hK hc i pins s σ H E I hf st hg
    subst hP hw hK
    obtain ⟨hz, hTI, hTO, h1, h2⟩ := st
    obtain ⟨xs, ys, hqx, hqy, hl⟩ := hg
    obtain ⟨its, rv, p1, _⟩ := seqK I hqx
    obtain ⟨its2, rv2, p2, _⟩ := seqK I hqy
    have n1 := itK_ne h1 p1
    have n2 := itK_ne h2 p2
    have G := GoesN.zip2 (prog := X.prog) (w := X.w) (A := X.A) (elts := elts) (x1 := kk) (pos := tpos) S (drK (A := X.A.in1) (I.ok.hd hc) i1 a1 n1 its.toArray b1) (drK (A := X.A.in1) (I.ok.hd hc) i2 a2 n2 its2.toArray b2)
    have hn : min its.toArray.size its2.toArray.size = i := by rw [List.size_toArray, List.size_toArray, ← rv.length, ← rv2.length, hl]
    rw [hn] at G
    exact G.stops s (fun s1 => Inv X pins σ H s1) E ⟨hz, hTI, hTO, ⟨h1, p1⟩, ⟨h2, p2⟩⟩ fun h' tk hk htk => I.turnedL (t' := tk) (ch := [z, TI, TO, i1, i2]) (fun c o hb q => hk c o (fun q' => hb (by
      have e' : c = z ∨ c = TO ∨ c = i1 ∨ c = i2 := by simpa using q'
      rcases e' with r | r | r | r <;> simp [r])) q) hf
  self := fun A i s Q E st h => wpAny_pyIter_zip st.1 h
def iZipK (K : PySem.W.Frag) (ta : TA) : TI := fun σ H R => ta σ H fun vs H1 => ∃ b1 b2 a1 a2 xs ys, vs = [.ref a1, .ref a2] ∧ SqK K H1 b1 a1 xs ∧ SqK K H1 b2 a2 ys ∧ R (Itzq K b1 b2 a1 a2) H1
theorem pi_zipK {X : Cx} {e e2 : Expr} {ta : TA} {p pos tpos : Pos} {elts : List Expr} {kk : Nat} (hg : Gl X "zip") (hm : X.mg "zip" = none) (ha : PA X [e, e2] ta) (hs : starEach [e, e2] X.env = (false, eval e X.env) :: starEach [e2] X.env) (hpl : (backTo pos (starEach [e2] X.env)).any (·.1) = false) :
    PI X (.Tuple elts kk tpos) (.Call (.Name "zip" p) [e, e2] [] pos) (iZipK X.K ta) := by
  refine ⟨fun pins s σ H R I h => ?_⟩
  refine Call_ (ld_blt I hg hm PyProof.Rows.boot_zip (PyProof.Rows.callWith_type1 (thn (ha.run pos pins s σ H _ I h) fun us s1 ⟨vs, H1, I1, r1, q1⟩ => ?_) hs hpl))
  obtain ⟨b1, b2, a1, a2, xs, ys, ex, hq1, hq2, q⟩ := q1
  subst ex
  cases r1 with
  | cons r rr =>
    cases rr with
    | cons r' rr =>
      cases rr
      cases r
      cases r'
      obtain ⟨its, rv, p1, _⟩ := seqK I1 hq1
      obtain ⟨its2, rv2, p2, _⟩ := seqK I1 hq2
      have l1 := obK_lt p1
      have l2 := obK_lt p2
      refine zip_begins2 (bgK a1 its.toArray b1) (bgK a2 its2.toArray b2) p1 p2 fun h' hz hTI hTO g1 g2 hsz hk => wpAny_pyIter_zip hz ?_
      have I2 : Inv X pins σ H1 { s1 with heap := h' } := I1.kept (t' := s1.toks) hk
      refine ⟨s1.heap.objs.size + 4, [s1.heap.objs.size + 4, s1.heap.objs.size + 2, s1.heap.objs.size + 3, s1.heap.objs.size, s1.heap.objs.size + 1], _, _, H1, rfl, I2,
        turn_zq (elts := elts) (kk := kk) (tpos := tpos) (b1 := b1) (b2 := b2) (zip_sep2 (fp1 := [a1]) (fp2 := [a2]) (by simpa using l1) (by simpa using l2)), ⟨hz, hTI, ⟨_, _, hTO⟩, itK0 g1, itK0 g2⟩, fun c hcm => ?_, q⟩
      have e' : c = s1.heap.objs.size + 4 ∨ c = s1.heap.objs.size + 2 ∨ c = s1.heap.objs.size + 3 ∨ c = s1.heap.objs.size ∨ c = s1.heap.objs.size + 1 := by simpa using hcm
      have hle : s1.heap.objs.size ≤ c := by
        rcases e' with z | z | z | z | z <;> rw [z] <;> first | exact Nat.le_refl _ | exact Nat.le_add_right _ _
      exact I1.fpOk hle (I1.hok.fresh hle)
theorem walk_zq {K : PySem.W.Frag} {b1 b2 : Bool} {a1 a2 : Addr} {xs ys : List V} : Walk (Itzq K b1 b2 a1 a2) (min xs.length ys.length) (fun H => SqK K H b1 a1 xs ∧ SqK K H b2 a2 ys) (YPair (fun i => xs[i]?) (fun i => ys[i]?)) := by
  refine ⟨fun i _ hi q => ?_, fun _ q => ⟨xs, ys, q.1, q.2, rfl⟩, fun i H v H' _ q y => ?_⟩
  · have h1 : i < xs.length := by omega
    have h2 : i < ys.length := by omega
    exact ⟨xs, ys, xs[i], ys[i], q.1, q.2, by simp [h1], by simp [h2]⟩
  · obtain ⟨T, x, z, h1, h2, h3, h4, h5⟩ := y
    exact ⟨T, x, z, h1, h2, h3, h4 xs q.1, h5 ys q.2⟩
end Sc
namespace Sc
open PySem PySem.Spec PyProof.Rows L2
/-! ### zip of three -/
def Itz3 (K : PySem.W.Frag) (b1 b2 b3 : Bool) (a1 a2 a3 : Addr) : It :=
  ⟨fun i H => ∃ (xs ys us : List V) (x y u : V), SqK K H b1 a1 xs ∧ SqK K H b2 a2 ys ∧ SqK K H b3 a3 us ∧ xs[i]? = some x ∧ ys[i]? = some y ∧ us[i]? = some u,
   fun i H v H' => ∃ T x y u, v = .ref T ∧ H T = none ∧ H' = upd H T (.tup [x, y, u]) ∧ (∀ xs, SqK K H b1 a1 xs → xs[i]? = some x) ∧ (∀ ys, SqK K H b2 a2 ys → ys[i]? = some y) ∧ ∀ us, SqK K H b3 a3 us → us[i]? = some u,
   fun i H => ∃ xs ys us : List V, SqK K H b1 a1 xs ∧ SqK K H b2 a2 ys ∧ SqK K H b3 a3 us ∧ min (min xs.length ys.length) us.length = i⟩
theorem turn_z3 {P : Program} {w : World} {K : PySem.W.Frag} {elts : List Expr} {kk : Nat} {tpos : Pos} {b1 b2 b3 : Bool} {a1 a2 a3 z TI TO i1 i2 i3 : Addr} (S : ZipSep3 z TI TO i1 i2 i3 [i1, a1] [i2, a2] [i3, a3]) :
    Turn P w K (.Tuple elts kk tpos) (Itz3 K b1 b2 b3 a1 a2 a3) [z, TI, TO, i1, i2, i3] z (fun i h => IsZip h z TI TO .none ∧ IsTupOf3 h TI (.ref i1) (.ref i2) (.ref i3) ∧ (∃ x y u, IsTupOf3 h TO x y u) ∧ ItK h b1 i1 a1 i ∧ ItK h b2 i2 a2 i ∧ ItK h b3 i3 a3 i) where
  mem := by simp
  obj := fun i h st c hc => by
    obtain ⟨hz, hTI, ⟨x, y, u, hTO⟩, h1, h2, h3⟩ := st
    have e' : c = z ∨ c = TI ∨ c = TO ∨ c = i1 ∨ c = i2 ∨ c = i3 := by simpa using hc
    rcases e' with q | q | q | q | q | q <;> rw [q]
    · exact ⟨_, hz, fun v q => nomatch q⟩
    · exact ⟨_, hTI, fun v q => nomatch q⟩
    · exact ⟨_, hTO, fun v q => nomatch q⟩
    · exact itK_obj h1
    · exact itK_obj h2
    · exact itK_obj h3
  keep := fun i h h' st k => by
    obtain ⟨hz, hTI, ⟨x, y, u, hTO⟩, h1, h2, h3⟩ := st
    exact ⟨k z (by simp) _ hz, k TI (by simp) _ hTI, ⟨x, y, u, k TO (by simp) _ hTO⟩, itK_keep (fun o q => k i1 (by simp) o q) h1, itK_keep (fun o q => k i2 (by simp) o q) h2, itK_keep (fun o q => k i3 (by simp) o q) h3⟩
  item := by
    intro X hP hw hK hc i pins s σ H E I hf st hg
    subst hP hw hK
    obtain ⟨hz, hTI, hTO, h1, h2, h3⟩ := st
    obtain ⟨xs, ys, us, x, y, uu, hqx, hqy, hqu, hx, hy, huu⟩ := hg
    obtain ⟨its, rv, p1, _⟩ := seqK I hqx
    obtain ⟨its2, rv2, p2, _⟩ := seqK I hqy
    obtain ⟨its3, rv3, p3, _⟩ := seqK I hqu
    obtain ⟨u, hu, ru⟩ := rv.get hx
    obtain ⟨u2, hu2, ru2⟩ := rv2.get hy
    obtain ⟨u3, hu3, ru3⟩ := rv3.get huu
    have hlt : i < its.length := (List.getElem?_eq_some_iff.mp hu).1
    have hlt2 : i < its2.length := (List.getElem?_eq_some_iff.mp hu2).1
    have hlt3 : i < its3.length := (List.getElem?_eq_some_iff.mp hu3).1
    have n1 := itK_ne h1 p1
    have n2 := itK_ne h2 p2
    have n3 := itK_ne h3 p3
    have G := GoesN.zip3 (prog := X.prog) (w := X.w) (A := X.A) (elts := elts) (x1 := kk) (pos := tpos) S (drK (A := X.A.in1) (I.ok.hd hc) i1 a1 n1 its.toArray b1) (drK (A := X.A.in1) (I.ok.hd hc) i2 a2 n2 its2.toArray b2) (drK (A := X.A.in1) (I.ok.hd hc) i3 a3 n3 its3.toArray b3)
    refine G.goes i s (fun u s2 => ∃ x H', Inv X pins σ H' s2 ∧ RelV x u ∧ (Itz3 X.K b1 b2 b3 a1 a2 a3).yld i H x H' ∧ (IsZip s2.heap z TI TO .none ∧ IsTupOf3 s2.heap TI (.ref i1) (.ref i2) (.ref i3) ∧ (∃ x y u, IsTupOf3 s2.heap TO x y u) ∧ ItK s2.heap b1 i1 a1 (i + 1) ∧ ItK s2.heap b2 i2 a2 (i + 1) ∧ ItK s2.heap b3 i3 a3 (i + 1)) ∧ ∀ b ∈ [z, TI, TO, i1, i2, i3], H' b = none) E
      (by simp only [List.size_toArray]; omega) ⟨hz, hTI, hTO, ⟨h1, p1⟩, ⟨h2, p2⟩, ⟨h3, p3⟩⟩ fun v h' tk Y st' hk htk => ?_
    obtain ⟨T, x', y', z', rfl, hT, hx', hy', hz0, hTu⟩ := Y
    have ex : x' = u := by
      have q : its.toArray[i]? = some u := by simpa using hu
      rw [q] at hx'; cases hx'; rfl
    have ey : y' = u2 := by
      have q : its2.toArray[i]? = some u2 := by simpa using hu2
      rw [q] at hy'; cases hy'; rfl
    have ez : z' = u3 := by
      have q : its3.toArray[i]? = some u3 := by simpa using hu3
      rw [q] at hz0; cases hz0; rfl
    subst ex ey ez
    have new : ObjOk X.prog X.w (upd H T (.tup [x, y, uu])) h' T (.tup [x, y, uu]) := ⟨by show 3 ≤ sizeLine; decide, [x', y', z'], .cons ru (.cons ru2 (.cons ru3 .nil)), hTu⟩
    have I1 : Inv X pins σ (upd H T (.tup [x, y, uu])) { s with heap := h', toks := tk } := I.turnedNew (ch := [z, TI, TO, i1, i2, i3]) (fun c o hb q => hk c o (fun q' => hb (by
      have e' : c = z ∨ c = TO ∨ c = i1 ∨ c = i2 ∨ c = i3 := by simpa using q'
      rcases e' with r | r | r | r | r <;> simp [r])) q) hf hT new
    obtain ⟨hz', hTI', hTO', ⟨h1', _⟩, ⟨h2', _⟩, ⟨h3', _⟩⟩ := st'
    refine ⟨.ref T, _, I1, rfl, ⟨T, x, y, uu, rfl, I.hok.fresh hT, rfl, fun l hl => by rw [seqK_inj I hl hqx]; exact hx, fun l hl => by rw [seqK_inj I hl hqy]; exact hy, fun l hl => by rw [seqK_inj I hl hqu]; exact huu⟩, ⟨hz', hTI', hTO', h1', h2', h3'⟩, fun c hcm => ?_⟩
    have hlt' : c < s.heap.objs.size := by
      have e' : c = z ∨ c = TI ∨ c = TO ∨ c = i1 ∨ c = i2 ∨ c = i3 := by simpa using hcm
      obtain ⟨_, _, _, hTO⟩ := hTO
      rcases e' with q | q | q | q | q | q <;> rw [q]
      · exact Heap.lt_size hz
      · exact Heap.lt_size hTI
      · exact Heap.lt_size hTO
      · obtain ⟨o, e1, _⟩ := itK_obj h1; exact Heap.lt_size e1
      · obtain ⟨o, e1, _⟩ := itK_obj h2; exact Heap.lt_size e1
      · obtain ⟨o, e1, _⟩ := itK_obj h3; exact Heap.lt_size e1
    rw [upd_ne (Nat.ne_of_lt (Nat.lt_of_lt_of_le hlt' hT))]
    exact (hf c hcm).1
  done := by
    intro X hP hw hK hc i pins s σ H E I hf st hg
    subst hP hw hK
    obtain ⟨hz, hTI, hTO, h1, h2, h3⟩ := st
    obtain ⟨xs, ys, us, hqx, hqy, hqu, hl⟩ := hg
    obtain ⟨its, rv, p1, _⟩ := seqK I hqx
    obtain ⟨its2, rv2, p2, _⟩ := seqK I hqy
    obtain ⟨its3, rv3, p3, _⟩ := seqK I hqu
    have n1 := itK_ne h1 p1
    have n2 := itK_ne h2 p2
    have n3 := itK_ne h3 p3
    have G := GoesN.zip3 (prog := X.prog) (w := X.w) (A := X.A) (elts := elts) (x1 := kk) (pos := tpos) S (drK (A := X.A.in1) (I.ok.hd hc) i1 a1 n1 its.toArray b1) (drK (A := X.A.in1) (I.ok.hd hc) i2 a2 n2 its2.toArray b2) (drK (A := X.A.in1) (I.ok.hd hc) i3 a3 n3 its3.toArray b3)
    have hn : min (min its.toArray.size its2.toArray.size) its3.toArray.size = i := by rw [List.size_toArray, List.size_toArray, List.size_toArray, ← rv.length, ← rv2.length, ← rv3.length, hl]
    rw [hn] at G
    exact G.stops s (fun s1 => Inv X pins σ H s1) E ⟨hz, hTI, hTO, ⟨h1, p1⟩, ⟨h2, p2⟩, ⟨h3, p3⟩⟩ fun h' tk hk htk => I.turnedL (t' := tk) (ch := [z, TI, TO, i1, i2, i3]) (fun c o hb q => hk c o (fun q' => hb (by
      have e' : c = z ∨ c = TO ∨ c = i1 ∨ c = i2 ∨ c = i3 := by simpa using q'
      rcases e' with r | r | r | r | r <;> simp [r])) q) hf
  self := fun A i s Q E st h => wpAny_pyIter_zip st.1 h
def iZip3 (K : PySem.W.Frag) (ta : TA) : TI := fun σ H R => ta σ H fun vs H1 => ∃ b1 b2 b3 a1 a2 a3 xs ys us, vs = [.ref a1, .ref a2, .ref a3] ∧ SqK K H1 b1 a1 xs ∧ SqK K H1 b2 a2 ys ∧ SqK K H1 b3 a3 us ∧ R (Itz3 K b1 b2 b3 a1 a2 a3) H1
theorem pi_zip3 {X : Cx} {e e2 e3 : Expr} {ta : TA} {p pos tpos : Pos} {elts : List Expr} {kk : Nat} (hg : Gl X "zip") (hm : X.mg "zip" = none) (ha : PA X [e, e2, e3] ta) (hs : starEach [e, e2, e3] X.env = (false, eval e X.env) :: starEach [e2, e3] X.env) (hpl : (backTo pos (starEach [e2, e3] X.env)).any (·.1) = false) :
    PI X (.Tuple elts kk tpos) (.Call (.Name "zip" p) [e, e2, e3] [] pos) (iZip3 X.K ta) := by
  refine ⟨fun pins s σ H R I h => ?_⟩
  refine Call_ (ld_blt I hg hm PyProof.Rows.boot_zip (PyProof.Rows.callWith_type1 (thn (ha.run pos pins s σ H _ I h) fun us s1 ⟨vs, H1, I1, r1, q1⟩ => ?_) hs hpl))
  obtain ⟨b1, b2, b3, a1, a2, a3, xs, ys, us, ex, hq1, hq2, hq3, q⟩ := q1
  subst ex
  cases r1 with
  | cons r rr =>
  cases rr with
  | cons r' rr =>
  cases rr with
  | cons r'' rr =>
      cases rr
      cases r
      cases r'
      cases r''
      obtain ⟨its, rv, p1, _⟩ := seqK I1 hq1
      obtain ⟨its2, rv2, p2, _⟩ := seqK I1 hq2
      obtain ⟨its3, rv3, p3, _⟩ := seqK I1 hq3
      have l1 := obK_lt p1
      have l2 := obK_lt p2
      have l3 := obK_lt p3
      refine zip_begins3 (bgK a1 its.toArray b1) (bgK a2 its2.toArray b2) (bgK a3 its3.toArray b3) p1 p2 p3 fun h' hz hTI hTO g1 g2 g3 hsz hk => wpAny_pyIter_zip hz ?_
      have I2 : Inv X pins σ H1 { s1 with heap := h' } := I1.kept (t' := s1.toks) hk
      refine ⟨s1.heap.objs.size + 5, [s1.heap.objs.size + 5, s1.heap.objs.size + 3, s1.heap.objs.size + 4, s1.heap.objs.size, s1.heap.objs.size + 1, s1.heap.objs.size + 2], _, _, H1, rfl, I2,
        turn_z3 (elts := elts) (kk := kk) (tpos := tpos) (b1 := b1) (b2 := b2) (b3 := b3) (zip_sep3 (fp1 := [a1]) (fp2 := [a2]) (fp3 := [a3]) (by simpa using l1) (by simpa using l2) (by simpa using l3)), ⟨hz, hTI, ⟨_, _, _, hTO⟩, itK0 g1, itK0 g2, itK0 g3⟩, fun c hcm => ?_, q⟩
      have e' : c = s1.heap.objs.size + 5 ∨ c = s1.heap.objs.size + 3 ∨ c = s1.heap.objs.size + 4 ∨ c = s1.heap.objs.size ∨ c = s1.heap.objs.size + 1 ∨ c = s1.heap.objs.size + 2 := by simpa using hcm
      have hle : s1.heap.objs.size ≤ c := by
        rcases e' with z | z | z | z | z | z <;> rw [z] <;> first | exact Nat.le_refl _ | exact Nat.le_add_right _ _
      exact I1.fpOk hle (I1.hok.fresh hle)
end Sc
namespace Sc
open PySem PySem.Spec PyProof.Rows L2
/-! ### flags of some slots -/
theorem flag_set {Γ : List Fg} {v i : Nat} : flag (Γ.set v .frz) i = if i = v then .frz else flag Γ i := by
  unfold flag
  rw [List.getD_eq_getElem?_getD, List.getD_eq_getElem?_getD, List.getElem?_set]
  by_cases e : v = i
  · subst e
    rw [if_pos rfl, if_pos rfl]
    split <;> rfl
  · rw [if_neg e, if_neg fun h => e h.symm]
theorem flag_in {Γ : List Fg} {i : Nat} : ∀ {own : List Nat}, flag (inFl Γ own) i = if i ∈ own then .frz else flag Γ i
  | [] => by simp [inFl]
  | v :: r => by
    rw [inFl, flag_set, flag_in]
    by_cases e : i = v
    · subst e; simp
    · rw [if_neg e]
      by_cases e2 : i ∈ r
      · rw [if_pos e2, if_pos (List.mem_cons_of_mem _ e2)]
      · rw [if_neg e2, if_neg (fun h => (List.mem_cons.mp h).elim e e2)]
theorem getN_wipe {n : Env} {i : Nat} : ∀ {own : List Nat}, getN (wipeN n own) i = if i ∈ own then none else getN n i
  | [] => by simp [wipeN]
  | v :: r => by
    rw [wipeN]
    by_cases e : i = v
    · subst e
      simp only [List.mem_cons, true_or, if_true]
      unfold getN
      rw [List.getElem?_set]
      simp only [if_true]
      split <;> rfl
    · rw [getN_set e, getN_wipe]
      by_cases e2 : i ∈ r
      · rw [if_pos e2, if_pos (List.mem_cons_of_mem _ e2)]
      · rw [if_neg e2, if_neg (fun h => (List.mem_cons.mp h).elim e e2)]
theorem wipeN_len {n : Env} : ∀ {own : List Nat}, (wipeN n own).length = n.length
  | [] => rfl
  | v :: r => by rw [wipeN, List.length_set, wipeN_len]
theorem wipe_at {σ : L2.St} {i : Nat} : ∀ {own : List Nat}, i ∉ own → (wipe σ own)[i]? = σ[i]?
  | [], _ => rfl
  | v :: r, h => by
    rw [wipe, List.getElem?_set_ne (fun e => h (by simp [e])), wipe_at fun e => h (by simp [e])]
theorem isL_wipe {n : Env} {own : List Nat} {i : Nat} (h : isL (wipeN n own) i = true) : i ∉ own ∧ isL n i = true := by
  obtain ⟨l, e⟩ := isL_iff.mp h
  rw [getN_wipe] at e
  by_cases hi : i ∈ own
  · rw [if_pos hi] at e; cases e
  · rw [if_neg hi] at e; exact ⟨hi, isL_iff.mpr ⟨l, e⟩⟩
section
variable {K : PySem.W.Frag} {Γ : List Fg} {n n' : Env} {σ : L2.St} {H H' : Hp} {Z Z' : AP1}
theorem SI.wipe (I : SI K Γ n σ H Z) (own : List Nat) : SI K (inFl Γ own) (wipeN n own) (L2.wipe σ own) H Z := by
  refine ⟨by rw [wipeN_len, wipe_length]; exact I.len, fun i d hd => ?_, fun i j p hij h1 h2 h3 h4 h5 h6 => ?_, fun i j p h1 h2 h3 h4 h5 h6 => ?_, I.zok⟩
  · rw [getN_wipe] at hd
    by_cases hi : i ∈ own
    · rw [if_pos hi] at hd; cases hd
    · rw [if_neg hi] at hd
      obtain ⟨v, e, r⟩ := I.slot i d hd
      refine ⟨v, by rw [wipe_at hi]; exact e, ?_⟩
      rw [flag_in, if_neg hi]; exact r
  · obtain ⟨hi, l1⟩ := isL_wipe h3
    obtain ⟨hj, l2⟩ := isL_wipe h4
    rw [flag_in, if_neg hi] at h1
    rw [flag_in, if_neg hj] at h2
    rw [wipe_at hi] at h5
    rw [wipe_at hj] at h6
    exact I.sep i j p hij h1 h2 l1 l2 h5 h6
  · obtain ⟨hi, l1⟩ := isL_wipe h3
    obtain ⟨hj, l2⟩ := isL_wipe h4
    rw [flag_in, if_neg hi] at h1
    rw [flag_in, if_neg hj] at h2
    rw [wipe_at hi] at h5
    rw [wipe_at hj] at h6
    exact I.sepB i j p h1 h2 l1 l2 h5 h6
/-- a name of what stays is given a value -/
theorem SI.setF (I : SI K Γ n σ H Z) {i : Nat} {d : D} {v : V} (hf : flag Γ i = .frz) (h : Rp K H Z d v) (hi : i < n.length) : SI K Γ (n.set i (some d)) (σ.set i (some v)) H Z := by
  have hl : ∀ j, flag Γ j ≠ .frz → isL (n.set i (some d)) j = isL n j ∧ (σ.set i (some v))[j]? = σ[j]? := fun j hj => by
    have e : j ≠ i := fun e => hj (e ▸ hf)
    refine ⟨by unfold isL; rw [getN_set e], List.getElem?_set_ne fun z => e z.symm⟩
  refine ⟨by rw [List.length_set, List.length_set]; exact I.len, fun j d' hd => ?_, fun a b p hab h1 h2 h3 h4 h5 h6 => ?_, fun a b p h1 h2 h3 h4 h5 h6 => ?_, I.zok⟩
  · by_cases e : j = i
    · subst e
      rw [getN_set_eq hi] at hd
      cases hd
      refine ⟨v, by rw [List.getElem?_set_self (by rw [← I.len]; exact hi)], ?_⟩
      rw [hf]; exact h
    · rw [getN_set e] at hd
      obtain ⟨u, e1, r⟩ := I.slot j d' hd
      exact ⟨u, by rw [List.getElem?_set_ne fun z => e z.symm]; exact e1, r⟩
  · have la := hl a (by rw [h1]; exact fun e => by cases e)
    have lb := hl b (by rw [h2]; exact fun e => by cases e)
    exact I.sep a b p hab h1 h2 (la.1 ▸ h3) (lb.1 ▸ h4) (la.2 ▸ h5) (lb.2 ▸ h6)
  · have la := hl a (by rw [h1]; exact fun e => by cases e)
    have lb := hl b (by rw [h2]; exact fun e => by cases e)
    exact I.sepB a b p h1 h2 (la.1 ▸ h3) (lb.1 ▸ h4) (la.2 ▸ h5) (lb.2 ▸ h6)
/-- a cell that no name holds is written -/
theorem SI.poke (I : SI K Γ n σ H Z) {a : Addr} {o : HO} (hz : ¬ Z a) (hs : ∀ j, flag Γ j ≠ .frz → isL n j = true → σ[j]? ≠ some (some (.ref a))) : SI K Γ n σ (upd H a o) Z := by
  have k : ∀ b u, Z b → H b = some u → upd H a o b = some u := fun b u z e => by rw [upd_ne fun q : b = a => hz (by rw [← q]; exact z)]; exact e
  have m : ∀ {d v}, Rp K H Z d v → Rp K (upd H a o) Z d v := fun h => Rp.mono (fun _ h => h) k _ _ h
  have mL : ∀ {d v}, RpL K H Z d v → RpL K (upd H a o) Z d v := fun h => RpL.mono (fun _ h => h) k _ _ h
  refine ⟨I.len, fun i d hd => ?_, I.sep, I.sepB, fun p h => ?_⟩
  · obtain ⟨v, e, r⟩ := I.slot i d hd
    refine ⟨v, e, ?_⟩
    cases hf : flag Γ i with
    | frz => rw [hf] at r; exact m r
    | own =>
      rw [hf] at r
      show RpO K (upd H a o) Z d v
      cases d with
      | lst l =>
        obtain ⟨b, xs, rfl, nz, hb, r⟩ := r
        have ne : b ≠ a := fun q => hs i (by rw [hf]; exact fun e => by cases e) (isL_iff.mpr ⟨l, hd⟩) (q ▸ e)
        exact ⟨b, xs, rfl, nz, by rw [upd_ne ne]; exact hb, mL r⟩
      | _ => exact m r
    | brw =>
      rw [hf] at r
      show RpB K (upd H a o) Z d v
      cases d with
      | lst l =>
        obtain ⟨b, xs, rfl, hb, r⟩ := r
        have ne : b ≠ a := fun q => hs i (by rw [hf]; exact fun e => by cases e) (isL_iff.mpr ⟨l, hd⟩) (q ▸ e)
        exact ⟨b, xs, rfl, by rw [upd_ne ne]; exact hb, mL r⟩
      | _ => exact m r
  · by_cases e : p = a
    · subst e; exact absurd h hz
    · rw [upd_ne e]; exact I.zok p h
end

/-! ### targets -/
section
variable {Φ : Fns} {c : Cx0} {Γ : List Fg} {X : Cx} {k : Nat}
def tG (K : PySem.W.Frag) (Γ : List Fg) (t : Tg) : TG := fun v σ H Q => ∃ n Z d n', SI K Γ n σ H Z ∧ Rp K H Z d v ∧ asgD t d n = some n' ∧ ∀ σ', SI K Γ n' σ' H Z → (∀ j, j ∉ t.slots → σ'[j]? = σ[j]?) → σ'.length = σ.length → Q σ' H
theorem PG.mono {X : Cx} {e : Expr} {t t' : TG} (p : PG X e t) (h : ∀ v σ H Q, t' v σ H Q → t v σ H Q) : PG X e t' := ⟨fun pins s σ H v u Q I r q => p.run pins s σ H v u Q I r (h _ _ _ _ q)⟩
theorem PE.mono {X : Cx} {e : Expr} {t t' : TE} (p : PE X e t) (h : ∀ σ H Q, t' σ H Q → t σ H Q) : PE X e t' := ⟨fun pins s σ H Q I q => p.run pins s σ H Q I (h _ _ _ q)⟩
theorem PT.mono {X : Cx} {e : Expr} {t t' : TT} (p : PT X e t) (h : ∀ σ H Q, t' σ H Q → t σ H Q) : PT X e t' := ⟨fun pins s σ H Q I q => p.run pins s σ H Q I (h _ _ _ q)⟩
theorem asgL_len : ∀ {l : List Tg} {xs : List D} {n n' : Env}, asgL l xs n = some n' → l.length = xs.length
  | [], [], _, _, _ => rfl
  | [], _ :: _, _, _, h => by simp [asgL] at h
  | _ :: _, [], _, _, h => by simp [asgL] at h
  | t :: r, d :: s, n, n', h => by
    simp only [asgL] at h
    obtain ⟨m, _, h2⟩ := Option.bind_eq_some_iff.mp h
    simp [asgL_len h2]
def gsOk (K : PySem.W.Frag) (Γ : List Fg) (l : List Tg) (g : TGs) : Prop := ∀ n σ H Z, SI K Γ n σ H Z → ∀ ds vs n', RpL K H Z ds vs → asgL l ds n = some n' → ∀ Q : L2.St → Hp → Prop, (∀ σ', SI K Γ n' σ' H Z → (∀ j, j ∉ slotsL l → σ'[j]? = σ[j]?) → σ'.length = σ.length → Q σ' H) → g vs σ H Q
theorem each1 {e : Expr} {es : List Expr} {env : PySem.Env} (h : notStar e = true) : assignEach (e :: es) env = (false, assign e env) :: assignEach es env := by
  cases e <;> first | rfl | exact Bool.noConfusion h
theorem each_len : ∀ {l : List Tg} {es : List Expr} {env : PySem.Env}, chkTL c l es = true → (assignEach es env).length = l.length ∧ (assignEach es env).findIdx? (·.1) = none
  | [], [], _, _ => ⟨rfl, rfl⟩
  | [], _ :: _, _, h => by simp [chkTL] at h
  | _ :: _, [], _, h => by simp [chkTL] at h
  | t :: r, e :: s, env, h => by
    simp only [chkTL, Bool.and_eq_true] at h
    obtain ⟨h1, h2⟩ := each_len (env := env) h.2
    rw [each1 h.1.2]
    refine ⟨by simp [h1], ?_⟩
    rw [List.findIdx?_cons, h2]; rfl
mutual
theorem pg_chk (ok : XOk Φ c k X) : ∀ (t : Tg) (e : Expr), t.chk c e = true → (∀ j ∈ t.slots, flag Γ j = .frz) → PG X e (tG X.K Γ t)
  | .nm i, e, h, hΓ => by
    cases e <;> first | cases (show false = true from h) | skip
    rename_i x p
    simp only [Tg.chk, Bool.and_eq_true, beq_iff_eq] at h
    obtain ⟨⟨h1, h2⟩, _⟩ := h
    obtain ⟨l1, l2⟩ := ok.loc x h2
    refine PG.mono (pg_name (by rw [ok.N]; exact ok.nd) (by rw [ok.N]; exact h1) l1 l2) fun v σ H Q q => ?_
    obtain ⟨n, Z, d, n', I, r, ea, q⟩ := q
    simp only [asgD] at ea
    split at ea
    · rename_i hi
      cases ea
      refine q _ (I.setF (hΓ i (by simp [Tg.slots])) r hi) (fun j hj => ?_) (List.length_set ..)
      rw [List.getElem?_set_ne]
      exact fun e => hj (by simp [Tg.slots, e])
    · cases ea
  | .tp l, e, h, hΓ => by
    cases e <;> first | cases (show false = true from h) | skip
    rename_i es kk p
    have h : chkTL c l es = true := h
    obtain ⟨g, pg, hg⟩ := pgs_chk ok l es h (by simpa only [Tg.slots] using hΓ)
    obtain ⟨e1, e2⟩ := each_len (c := c) (env := X.env) h
    refine PG.mono (pg_tup ok.calm pg e1 e2) fun v σ H Q q => ?_
    obtain ⟨n, Z, d, n', I, r, ea, q⟩ := q
    simp only [asgD] at ea
    cases d with
    | tup ds =>
      simp only [Rp] at r
      obtain ⟨a, xs, rfl, t, r⟩ := r
      refine ⟨a, xs, rfl, t.sq, by rw [← r.len]; exact (asgL_len ea).symm, ?_⟩
      exact hg n σ H Z I ds xs n' r ea Q fun σ' I' k' l' => q σ' I' (by simpa only [Tg.slots] using k') l'
    | _ => cases ea
theorem pgs_chk (ok : XOk Φ c k X) : ∀ (l : List Tg) (es : List Expr), chkTL c l es = true → (∀ j ∈ slotsL l, flag Γ j = .frz) → ∃ g, PGs X es g ∧ gsOk X.K Γ l g
  | [], [], _, _ => ⟨gNil, pgs_nil, fun n σ H Z I ds vs n' r ea Q q => by
    cases ds with
    | nil =>
      cases (show some n = some n' from ea)
      exact ⟨r.inv0, q σ I (fun _ _ => rfl) rfl⟩
    | cons _ _ => cases (show none = some n' from ea)⟩
  | [], _ :: _, h, _ => by simp [chkTL] at h
  | _ :: _, [], h, _ => by simp [chkTL] at h
  | t :: r, e :: s, h, hΓ => by
    simp only [chkTL, Bool.and_eq_true] at h
    have p1 := pg_chk ok t e h.1.1 fun j hj => hΓ j (by simp [slotsL, hj])
    obtain ⟨g, p2, hg⟩ := pgs_chk ok r s h.2 fun j hj => hΓ j (by simp [slotsL, hj])
    refine ⟨gCons (tG X.K Γ t) g, pgs_cons p1 p2 (by rw [each1 h.1.2]; rfl), fun n σ H Z I ds vs n' rp ea Q q => ?_⟩
    cases ds with
    | nil => cases (show none = some n' from ea)
    | cons d ds =>
      simp only [asgL] at ea
      obtain ⟨m, ea1, ea2⟩ := Option.bind_eq_some_iff.mp ea
      obtain ⟨v, vs, rfl, r1, r2⟩ := rp.inv
      refine ⟨v, vs, rfl, n, Z, d, m, I, r1, ea1, fun σ1 I1 k1 l1 => ?_⟩
      refine hg m σ1 H Z I1 ds vs n' r2 ea2 Q fun σ' I' k' l' => q σ' I' (fun j hj => ?_) (l'.trans l1)
      simp only [slotsL, List.mem_append, not_or] at hj
      exact (k' j hj.2).trans (k1 j hj.1)
end
end
end Sc
namespace Sc
open PySem PySem.Spec PyProof.Rows L2
def tE (Φ : Fns) (c : Cx0) (Γ : List Fg) (K : PySem.W.Frag) (e : E) : TE := fun σ H Q => ∃ n Z d n', SI K Γ n σ H Z ∧ e.den Φ n = .ok d n' ∧ ∀ v H' Z', SI K Γ n' σ H' Z' → KN n n' → Fr (Adr e.wr n σ) H Z H' Z' → Val K Γ (e.md c Γ) (e.bs Γ) n' σ H H' Z' d v → Q v H'
def tW (Φ : Fns) (Γ : List Fg) (K : PySem.W.Frag) (e : E) : TT := fun σ H Q => ∃ n Z b n', SI K Γ n σ H Z ∧ toBl (e.den Φ n) = .ok b n' ∧ ∀ H' Z', SI K Γ n' σ H' Z' → KN n n' → Fr (Adr e.wr n σ) H Z H' Z' → Q b H'
/-- a comprehension's test -/
def tC (Φ : Fns) (Γ : List Fg) (K : PySem.W.Frag) (e : E) : TT := fun σ H Q => ∃ n Z b n', SI K Γ n σ H Z ∧ cndR e (e.den Φ n) n = .ok b n' ∧ ∀ H' Z', SI K Γ n' σ H' Z' → KN n n' → Fr (Adr e.wr n σ) H Z H' Z' → Q b H'
section
variable {Φ : Fns} {c : Cx0} {Γ : List Fg} {X : Cx} {k : Nat}
theorem GE.can {e : E} {a : Expr} (h : GE Φ c Γ X e a) : PE X a (tE Φ c Γ X.K e) := by
  obtain ⟨w, t, p, q⟩ := h
  refine PE.mono p fun σ H Q ⟨n, Z, d, n', I, ed, kq⟩ => q n σ H Z I d n' ed Q kq
theorem GW.can {e : E} {a : Expr} (h : GW Φ c Γ X e a) : PT X a (tW Φ Γ X.K e) := by
  obtain ⟨w, t, p, _, q⟩ := h
  refine PT.mono p fun σ H Q ⟨n, Z, d, n', I, ed, kq⟩ => q n σ H Z I d n' ed Q kq
theorem tc_no {e : E} (h : e.isNo = true) : PTs X [] (tC Φ Γ X.K e) := by
  refine ⟨fun pins s σ H Q I q => pts_nil.run pins s σ H Q I ?_⟩
  obtain ⟨n, Z, b, n', S, ed, kq⟩ := q
  cases e <;> first | cases (show false = true from h) | skip
  simp only [cndR, ER.ok.injEq] at ed
  obtain ⟨rfl, rfl⟩ := ed
  exact kq H Z S KN.refl Fr.refl
theorem tc_some {e : E} {f : Expr} (hn : e.isNo = false) (h : GW Φ c Γ X e f) : PTs X [f] (tC Φ Γ X.K e) := by
  refine pts_one (PT.mono h.can fun σ H Q ⟨n, Z, b, n', S, ed, kq⟩ => ⟨n, Z, b, n', S, ?_, kq⟩)
  cases e <;> first | exact ed | cases (show true = false from hn)

/-! ### what is gone through -/
def Yld (K : PySem.W.Frag) (H2 : Hp) (Z2 : AP1) (d : D) (x : V) (H3 : Hp) : Prop := (H3 = H2 ∧ Rp K H2 Z2 d x) ∨ ∃ l xs p, d = .tup l ∧ H2 p = none ∧ RpL K H2 Z2 l xs ∧ x = .ref p ∧ H3 = upd H2 p (.tup xs)
def Thru (K : PySem.W.Frag) (Γ : List Fg) (b : List Nat) (n : Env) (σ : L2.St) (H : Hp) (Z : AP1) (H2 : Hp) (Z2 : AP1) : Prop := ∃ M, (∀ j ∈ M, flag Γ j = .own) ∧ (∀ i ∈ b, i ∉ M) ∧ Fr (Adr M n σ) H Z H2 Z2 ∧ ZOk H2 Z2
structure WalkV (K : PySem.W.Frag) (Γ : List Fg) (b : List Nat) (n : Env) (σ : L2.St) (H : Hp) (Z : AP1) (J : It) (ds : List D) : Prop where
  go : ∀ i H2 Z2, Thru K Γ b n σ H Z H2 Z2 → i < ds.length → J.go i H2
  stop : ∀ H2 Z2, Thru K Γ b n σ H Z H2 Z2 → J.stop ds.length H2
  yld : ∀ i x H2 Z2 H3, Thru K Γ b n σ H Z H2 Z2 → i < ds.length → J.yld i H2 x H3 → ∃ d, ds[i]? = some d ∧ Yld K H2 Z2 d x H3
structure GI (Φ : Fns) (c : Cx0) (Γ : List Fg) (X : Cx) (e : E) (tg a : Expr) : Prop where
  wr : ∀ j ∈ e.wr, flag Γ j = .own
  pi : ∃ wi, PI X tg a wi ∧ ∀ n σ H Z, SI X.K Γ n σ H Z → ∀ x n' ds, e.den Φ n = .ok x n' → seqD x = some ds → ∀ Q : It → Hp → Prop,
    (∀ J H' Z', SI X.K Γ n' σ H' Z' → KN n n' → Fr (Adr e.wr n σ) H Z H' Z' → WalkV X.K Γ (e.bs Γ) n' σ H' Z' J ds → Q J H') → wi σ H Q
theorem Yld.si {K : PySem.W.Frag} {Γ : List Fg} {n : Env} {σ : L2.St} {H H' : Hp} {Z : AP1} {d : D} {x : V} (y : Yld K H Z d x H') (I : SI K Γ n σ H Z) : ∃ Z', SI K Γ n σ H' Z' ∧ Fr (fun _ => False) H Z H' Z' ∧ Rp K H' Z' d x := by
  rcases y with ⟨rfl, r⟩ | ⟨l, xs, p, rfl, hp, r, rfl, rfl⟩
  · exact ⟨Z, I, Fr.refl, r⟩
  · have f := fr_laidZ (W := fun _ => False) (Z := Z) (o := .tup xs) hp
    have I2 := I.fr f (fun _ h => h) (fun p h => by
      rcases h with h | h
      · exact f.there p (I.zok p h)
      · subst h; rw [upd_same]; simp)
    refine ⟨_, I2, f, ?_⟩
    simp only [Rp]
    exact ⟨_, _, rfl, .inl ⟨.inr rfl, upd_same⟩, r.fr f fun _ h => h.elim⟩
theorem WalkV.walk {K : PySem.W.Frag} {b : List Nat} {n : Env} {σ : L2.St} {H : Hp} {Z : AP1} {J : It} {ds : List D} (w : WalkV K Γ b n σ H Z J ds) : Walk J ds.length (fun H2 => ∃ Z2, Thru K Γ b n σ H Z H2 Z2) J.yld :=
  ⟨fun i H2 hi ⟨Z2, h⟩ => w.go i H2 Z2 h hi, fun H2 ⟨Z2, h⟩ => w.stop H2 Z2 h, fun _ _ _ _ _ _ y => y⟩

/-! ### the comprehension -/
mutual
theorem asg_keep : ∀ (t : Tg) {d : D} {a b : Env}, asgD t d a = some b → ∀ j, j ∉ t.slots → getN b j = getN a j
  | .nm i, d, a, b, h, j, hj => by
    simp only [asgD] at h
    split at h
    · cases h; exact getN_set fun e => hj (by simp [Tg.slots, e])
    · cases h
  | .tp l, d, a, b, h, j, hj => by
    simp only [asgD] at h
    cases d <;> first | cases h | skip
    exact asgL_keep l h j (by simpa only [Tg.slots] using hj)
theorem asgL_keep : ∀ (l : List Tg) {ds : List D} {a b : Env}, asgL l ds a = some b → ∀ j, j ∉ slotsL l → getN b j = getN a j
  | [], ds, a, b, h, j, hj => by
    cases ds with
    | nil => cases h; rfl
    | cons _ _ => cases (show none = some b from h)
  | t :: r, ds, a, b, h, j, hj => by
    cases ds with
    | nil => cases (show none = some b from h)
    | cons d s =>
      simp only [asgL] at h
      obtain ⟨m, h1, h2⟩ := Option.bind_eq_some_iff.mp h
      simp only [slotsL, List.mem_append, not_or] at hj
      exact (asgL_keep r h2 j hj.2).trans (asg_keep t h1 j hj.1)
end
theorem inFl_idem : ∀ (ow : List Nat) {G : List Fg}, (∀ j ∈ ow, flag G j = .frz) → inFl G ow = G
  | [], _, _ => rfl
  | v :: r, G, hG => by
    rw [inFl, inFl_idem r fun j hj => hG j (List.mem_cons_of_mem _ hj)]
    have q := hG v List.mem_cons_self
    refine List.ext_getElem? fun j => ?_
    rw [List.getElem?_set]
    by_cases e : v = j
    · subst e
      unfold flag at q
      rw [List.getD_eq_getElem?_getD] at q
      by_cases hl : v < G.length
      · rw [List.getElem?_eq_getElem hl] at q ⊢
        simp only [Option.getD_some] at q
        simp [hl, q]
      · simp [hl]
    · rw [if_neg e]
theorem inFl2 {own : List Nat} {Γ : List Fg} : inFl (inFl Γ own) own = inFl Γ own := inFl_idem own fun j hj => by rw [flag_in, if_pos hj]
theorem lc_len {asg : D → Env → Option Env} {cond : Env → ER Bool} {elt : Env → ER D} {wp : Env → Env} : ∀ {ds : List D} {n n' : Env} {xs : List D}, lcGo asg cond elt wp ds n = .ok xs n' → xs.length ≤ big
  | [], n, n', xs, h => by cases h; exact Nat.zero_le _
  | d :: r, n, n', xs, h => by
    simp only [lcGo] at h
    split at h
    · cases h
    · obtain ⟨b, n2, e1, h⟩ := ER.bind_eq h
      cases b with
      | false => exact lc_len (show lcGo asg cond elt wp r n2 = _ from h)
      | true =>
        obtain ⟨x, n3, e2, h⟩ := ER.bind_eq (show (elt n2).bind _ = _ from h)
        obtain ⟨ys, n4, e3, h⟩ := ER.bind_eq h
        split at h
        · rename_i hz
          cases h
          exact hz
        · cases h
structure LcP (K : PySem.W.Frag) (Γ' : List Fg) (own : List Nat) (n1 : Env) (σ : L2.St) (H1 : Hp) (Z1 : AP1) (w : List Nat) (D0 : Addr) (go : List D → Env → ER (List D)) (ds : List D) (n2 : Env) (xs : List D) (i : Nat) (H : Hp) (m : Env) (Z : AP1) (acc : List V) (ac rest : List D) : Prop where
  at0 : H D0 = some (.lst acc)
  rp : RpL K H Z ac acc
  nz : ¬ Z D0
  si : SI K Γ' (wipeN m own) (L2.wipe σ own) H Z
  kn : ∀ j, j ∉ own → isL m j = isL n1 j
  fr : Fr (Adr w n1 σ) H1 Z1 H Z
  go : go (ds.drop i) m = .ok rest n2
  eq : ac ++ rest = xs
theorem adr_back {M own : List Nat} {m n1 : Env} {σ σ2 : L2.St} {p : Addr} (hM : ∀ j ∈ M, j ∉ own) (hk : ∀ j, j ∉ own → isL m j = isL n1 j) (hs : ∀ j, j ∉ own → σ2[j]? = σ[j]?) (h : Adr M m σ2 p) : Adr M n1 σ p := by
  obtain ⟨j, hj, a, b⟩ := h
  exact ⟨j, hj, (hk j (hM j hj)).symm.trans a, (hs j (hM j hj)).symm.trans b⟩
theorem getN_mrg_in {n m : Env} {i : Nat} : ∀ {w : List Nat}, i ∈ w → i < n.length → getN (mrg w n m) i = getN m i
  | [], h, _ => by simp at h
  | v :: r, h, hl => by
    rw [mrg]
    by_cases e : i = v
    · subst e
      rw [getN_set_eq]
      · rfl
      · have : ∀ r : List Nat, (mrg r n m).length = n.length := fun r => by
          induction r with
          | nil => rfl
          | cons a b ih => rw [mrg, List.length_set, ih]
        rw [this]; exact hl
    · rw [getN_set e]
      exact getN_mrg_in ((List.mem_cons.mp h).resolve_left e) hl
theorem mrg_len {n m : Env} : ∀ {w : List Nat}, (mrg w n m).length = n.length
  | [] => rfl
  | v :: r => by rw [mrg, List.length_set, mrg_len]
theorem blk_of {N : List Str} {sc blk : Scope} {own : List Nat} (h : blkB N sc blk own = true) : ∃ ow : List (Str × Nat), ow.map (·.2) = own ∧ BlkOk N sc blk ow := by
  unfold blkB at h
  simp only [Bool.and_eq_true, List.all_eq_true, Bool.or_eq_true, beq_iff_eq, decide_eq_true_eq, bne_iff_ne, ne_eq, Bool.not_eq_true', List.contains_eq_mem, decide_eq_false_iff_not] at h
  obtain ⟨⟨⟨⟨h1, h2⟩, h3⟩, h4⟩, h5⟩ := h
  refine ⟨own.map fun i => (N.getD i "", i), by rw [List.map_map]; exact List.map_id' own, ⟨h1, fun y hy => h2 y hy, fun p hp => ?_, fun y hy e => (h4 y hy).resolve_left (fun q => q e), fun y hy e => ?_⟩⟩
  · obtain ⟨i, hi, rfl⟩ := List.mem_map.mp hp
    have := h3 i hi
    show N[i]? = some (N.getD i "")
    rw [List.getD_eq_getElem?_getD, List.getElem?_eq_getElem this]; rfl
  · rcases h5 y hy with q | q
    · exact absurd e (by rintro (e | e); exact q.1 e; exact q.2 e)
    · rcases q with q | q
      · refine .inl ?_
        obtain ⟨i, hi, e2⟩ := List.mem_filterMap.mp q
        refine List.mem_map.mpr ⟨(N.getD i "", i), List.mem_map.mpr ⟨i, hi, rfl⟩, ?_⟩
        show N.getD i "" = y.1
        rw [List.getD_eq_getElem?_getD, e2]; rfl
      · exact .inr q
theorem folded {i : Expr} {env : PySem.Env} (h : notSet i = true) : ∀ x, foldedSetIterable i env x = pure x := by
  cases i <;> first | (exact fun _ => rfl) | exact Bool.noConfusion h
theorem lc_all (ok : XOk Φ c k X) {c' : Cx0} {elt it d : E} {tg : Tg} {own : List Nat} {l i t : Expr} {fs : List Expr} {blk : Scope} (hi : GI Φ c Γ X it t i) (hs : notSet i = true) (hb : blkB c.N c.sc blk own = true) (hsl : ∀ j ∈ tg.slots, j ∈ own)
    (hg : ∀ (s : Shared) (H : Hp) (C : Addr) (cl : List (Str × Addr)) (fp : List Addr), PG (X.blk s H blk (compEnvC blk cl C X.env) fp) t (tG X.K (inFl Γ own) tg))
    (ht : ∀ (s : Shared) (H : Hp) (C : Addr) (cl : List (Str × Addr)) (fp : List Addr), PTs (X.blk s H blk (compEnvC blk cl C X.env) fp) fs (tC Φ (inFl Γ own) X.K d))
    (he : ∀ (s : Shared) (H : Hp) (C : Addr) (cl : List (Str × Addr)) (fp : List Addr), PE (X.blk s H blk (compEnvC blk cl C X.env) fp) l (tE Φ c' (inFl Γ own) X.K elt))
    (wd : ∀ j ∈ d.wr, flag (inFl Γ own) j = .own) (we : ∀ j ∈ elt.wr, flag (inFl Γ own) j = .own) (hm : elt.md c' (inFl Γ own) ≠ .brw) (dj : disj (it.bs Γ) (d.wr ++ elt.wr) = true) (dow : disj own (d.wr ++ elt.wr) = true) :
    ∃ ow wi, PI X t i wi ∧ BlkOk X.N X.env.scope blk ow ∧ (∀ j ∈ (E.lc elt tg it d own).wr, flag Γ j = .own) ∧ ∀ n σ H Z, SI X.K Γ n σ H Z → ∀ dd n', (E.lc elt tg it d own).den Φ n = .ok dd n' → ∀ Q : VK,
      (∀ v H' Z', SI X.K Γ n' σ H' Z' → KN n n' → Fr (Adr (E.lc elt tg it d own).wr n σ) H Z H' Z' → Val X.K Γ .own [] n' σ H H' Z' dd v → Q v H') → tLc wi (tG X.K (inFl Γ own) tg) (tC Φ (inFl Γ own) X.K d) (tE Φ c' (inFl Γ own) X.K elt) (ow.map (·.2)) σ H Q := by
  obtain ⟨ow, eo, bok⟩ := blk_of hb
  obtain ⟨wi0, wi, pi, qi⟩ := hi
  have hn : ∀ j ∈ d.wr ++ elt.wr, j ∉ own := fun j hj hjo => disj_out dow j hjo hj
  have hw : ∀ j ∈ d.wr ++ elt.wr, flag Γ j = .own := fun j hj => by
    have q := wr_app wd we j hj
    rw [flag_in, if_neg (hn j hj)] at q
    exact q
  refine ⟨ow, wi, pi, by rw [ok.N, ok.sc]; exact bok, by simp only [E.wr]; exact wr_app wi0 hw, fun n σ H Z I dd n' e Q kq => ?_⟩
  simp only [E.den] at e
  obtain ⟨x, n1, e1, e⟩ := ER.bind_eq e
  obtain ⟨ds, n0, e2, e⟩ := ER.bind_eq e
  obtain ⟨e2', en⟩ := lift_eq e2
  subst en
  obtain ⟨xs, n2, e3, e⟩ := ER.bind_eq e
  cases e
  refine qi n σ H Z I x n1 ds e1 e2' _ fun J H1 Z1 I1 k1 f1 wv => fun D0 hD => ?_
  rw [eo]
  have hD1 : ∀ p, Adr (d.wr ++ elt.wr) n1 σ p → p ≠ D0 := fun p w e => by
    obtain ⟨_, ys, q⟩ := I1.adr hw w
    rw [e, hD] at q; cases q
  have hslot : ∀ j, flag Γ j ≠ .frz → isL n1 j = true → σ[j]? ≠ some (some (.ref D0)) := fun j hf hl hp => by
    obtain ⟨l, el⟩ := isL_iff.mp hl
    obtain ⟨v, ev, r⟩ := I1.slot j _ el
    rw [hp] at ev
    have ev := Option.some.inj (Option.some.inj ev)
    subst ev
    have r := RpF.b r
    obtain ⟨a, ys, ea, ha, _⟩ := r
    have ea : D0 = a := by injection ea
    rw [← ea, hD] at ha; cases ha
  have thru : ∀ H2 Z2, Fr (Adr (d.wr ++ elt.wr) n1 σ) H1 Z1 H2 Z2 → ZOk H2 Z2 → Thru X.K Γ (it.bs Γ) n1 σ H1 Z1 H2 Z2 := fun H2 Z2 f z => ⟨_, hw, disj_out dj, f, z⟩
  let go := lcGo (asgD tg) (fun m => cndR d (d.den Φ m) m) (fun m => elt.den Φ m) (fun m => wipeN m own)
  have e3 : go ds n1 = .ok xs n2 := e3
  have hbig : xs.length ≤ big := lc_len e3
  refine lc_it wv.walk (fun i H => ∃ m Z acc ac rest, LcP X.K (inFl Γ own) own n1 σ H1 Z1 (d.wr ++ elt.wr) D0 go ds n2 xs i H m Z acc ac rest) ?_ ?_ ?_ ?_
  · have f0 := fr_laid (W := fun _ => False) (Z := Z1) (o := HO.lst []) hD
    have I2 := I1.fr f0 (fun _ h => h) fun p h => f0.there p (I1.zok p h)
    refine ⟨n1, Z1, [], [], xs, ⟨upd_same, RpL.nil, fun z => I1.zok _ z hD, I2.wipe own, fun _ _ => rfl, f0.none, by rw [List.drop_zero]; exact e3, rfl⟩⟩
  · rintro i H _ ⟨m, Z, acc, ac, rest, L⟩
    exact ⟨Z, thru _ _ L.fr L.si.zok⟩
  · rintro i xv Hi H' hlt ⟨m, Zi, acc, ac, rest, L⟩ y
    obtain ⟨di, edi, yl⟩ := wv.yld i xv Hi Zi H' (thru _ _ L.fr L.si.zok) hlt y
    obtain ⟨Z', I', f', rp'⟩ := yl.si L.si
    have hgo := L.go
    have edrop : ds.drop i = di :: ds.drop (i + 1) := by
      rw [List.drop_eq_getElem_cons hlt]
      rw [List.getElem?_eq_getElem hlt] at edi
      cases edi; rfl
    rw [edrop] at hgo
    have hgo : lcGo _ _ _ _ _ _ = _ := hgo
    simp only [lcGo] at hgo
    split at hgo
    · cases hgo
    rename_i m1 easg
    obtain ⟨b, m2, ec, hgo⟩ := ER.bind_eq hgo
    have hD' : H' D0 = some (.lst acc) := f'.keep _ _ L.at0 fun h => h
    have nz' : ¬ Z' D0 := fun z => by
      rcases f'.new _ z with z | z | z
      · exact L.nz z
      · exact z
      · rw [L.at0] at z; cases z
    have acc' : RpL X.K H' Z' ac acc := L.rp.fr f' fun _ h => h.elim
    refine ⟨_, Z', di, m1, I', rp', easg, fun σ2 I2 hs2 hl2 => ?_⟩
    have hs2o : ∀ j, j ∉ own → σ2[j]? = σ[j]? := fun j hj => (hs2 j fun h => hj (hsl j h)).trans (wipe_at hj)
    have hw2 : L2.wipe σ2 own = L2.wipe σ own := by
      refine List.ext_getElem? fun j => ?_
      have key : ∀ {τ : L2.St} {j : Nat} {ow : List Nat}, j ∈ ow → (L2.wipe τ ow)[j]? = if j < τ.length then some none else none := by
        intro τ j ow
        induction ow with
        | nil => intro h; simp at h
        | cons v r ih =>
          intro h
          rw [L2.wipe, List.getElem?_set, L2.wipe_length]
          by_cases e : v = j
          · subst e; simp
          · rw [if_neg e]
            exact ih ((List.mem_cons.mp h).resolve_left fun q => e q.symm)
      by_cases hj : j ∈ own
      · rw [key hj, key hj, hl2, wipe_length]
      · rw [wipe_at hj, wipe_at hj, hs2o j hj]
    refine ⟨hw2, _, Z', b, m2, I2, ec, fun H3 Z3 I3 k3 f3 => ?_⟩
    have km1 : ∀ j, j ∉ own → isL m1 j = isL n1 j := by
      intro j hj
      have e1 := asg_keep tg easg j fun h => hj (hsl j h)
      rw [getN_wipe, if_neg hj] at e1
      rw [← L.kn j hj]
      unfold isL; rw [e1]
    have a1 : ∀ p, Adr d.wr m1 σ2 p → Adr (d.wr ++ elt.wr) n1 σ p := fun p w => (adr_back (fun j hj => hn j (List.mem_append_left _ hj)) km1 hs2o w).mono fun j hj => List.mem_append_left _ hj
    have km2 : ∀ j, j ∉ own → isL m2 j = isL n1 j := fun j hj => (k3 j).trans (km1 j hj)
    have a2 : ∀ p, Adr elt.wr m2 σ2 p → Adr (d.wr ++ elt.wr) n1 σ p := fun p w => (adr_back (fun j hj => hn j (List.mem_append_right _ hj)) km2 hs2o w).mono fun j hj => List.mem_append_right _ hj
    have F1 : Fr (Adr (d.wr ++ elt.wr) n1 σ) H1 Z1 H' Z' := L.fr.trans f' (fun p w => .inl w) fun p w => w.elim
    have F3 : Fr (Adr (d.wr ++ elt.wr) n1 σ) H1 Z1 H3 Z3 := F1.trans f3 (fun p w => .inl w) fun p w => .inl (a1 p w)
    have hD3 : H3 D0 = some (.lst acc) := f3.keep _ _ hD' fun w => hD1 _ (a1 _ w) rfl
    have nz3 : ¬ Z3 D0 := fun z => by
      rcases f3.new _ z with z | z | z
      · exact nz' z
      · exact hD1 _ (a1 _ z) rfl
      · rw [hD'] at z; cases z
    have acc3 : RpL X.K H3 Z3 ac acc := acc'.fr f3 fun p w => (I2.adr wd w).1
    cases b with
    | false =>
      dsimp only
      rw [if_neg Bool.false_ne_true]
      have I4 := I3.wipe own
      rw [inFl2, hw2] at I4
      exact ⟨m2, Z3, acc, ac, rest, ⟨hD3, acc3, nz3, I4, km2, F3, hgo, L.eq⟩⟩
    | true =>
      dsimp only
      rw [if_pos rfl]
      obtain ⟨xd, m3, ee, hgo⟩ := ER.bind_eq (show (elt.den Φ m2).bind _ = _ from hgo)
      obtain ⟨rest', m4, eg, hgo⟩ := ER.bind_eq hgo
      split at hgo
      · rename_i hz
        cases hgo
        refine ⟨_, Z3, xd, m3, I3, ee, fun yv H4 Z4 I4 k4 f4 vv => ?_⟩
        obtain ⟨Z5, I5, f5, rp5, _, z5⟩ := vv.eat I4 I3 k4 f4 hm
        have hD4 : H4 D0 = some (.lst acc) := f5.keep _ _ hD3 fun w => hD1 _ (a2 _ w) rfl
        have nz5 : ¬ Z5 D0 := fun z => by
          rcases f5.new _ z with z | z | z
          · exact nz3 z
          · exact hD1 _ (a2 _ z) rfl
          · rw [hD3] at z; cases z
        have acc5 : RpL X.K H4 Z5 ac acc := acc3.fr f5 fun p w => (I3.adr we w).1
        have km3 : ∀ j, j ∉ own → isL m3 j = isL n1 j := fun j hj => (k4 j).trans (km2 j hj)
        have hlen : acc.length < sizeLine := by
          have q := L.eq
          rw [← q] at hbig
          rw [← acc5.len, ← big_eq]
          simp only [List.length_append, List.length_cons] at hbig
          omega
        refine ⟨acc, hD4, hlen, m3, Z5, acc ++ [yv], ac ++ [xd], rest', ?_⟩
        have I6 := I5.wipe own
        rw [inFl2, hw2] at I6
        have I7 : SI X.K (inFl Γ own) (wipeN m3 own) (L2.wipe σ own) (upd H4 D0 (.lst (acc ++ [yv]))) Z5 := I6.poke nz5 fun j hf hl hp => by
          obtain ⟨hj, hl⟩ := isL_wipe hl
          rw [flag_in, if_neg hj] at hf
          rw [wipe_at hj] at hp
          exact hslot j hf ((km3 j hj).symm.trans hl) hp
        have kz : ∀ a o, Z5 a → H4 a = some o → upd H4 D0 (.lst (acc ++ [yv])) a = some o := fun a o z e => by rw [upd_ne fun q : a = D0 => nz5 (by rw [← q]; exact z)]; exact e
        refine ⟨upd_same, RpL.mono (fun _ h => h) kz _ _ (acc5.app (.cons rp5 RpL.nil)), nz5, I7, km3, ?_, eg, ?_⟩
        · have F5 : Fr (Adr (d.wr ++ elt.wr) n1 σ) H1 Z1 H4 Z5 := F3.trans f5 (fun p w => .inl w) fun p w => .inl (a2 p w)
          refine F5.trans (W2 := fun p => p = D0) ⟨fun _ h => h, fun a o e ne => by rw [upd_ne ne]; exact e, fun _ h => .inl h, fun a h => ?_⟩ (fun p w => .inl w) fun p w => .inr (by rw [w]; exact hD)
          by_cases e : a = D0
          · rw [e, upd_same]; simp
          · rw [upd_ne e]; exact h
        · rw [List.append_assoc]; exact L.eq
      · cases hgo
  · rintro Hn ⟨m, Zn, acc, ac, rest, L⟩
    have hgo := L.go
    rw [List.drop_length] at hgo
    have hgo : lcGo _ _ _ _ [] m = _ := hgo
    simp only [lcGo, ER.ok.injEq] at hgo
    obtain ⟨er, em⟩ := hgo
    subst er em
    have hxs : ac = xs := by have := L.eq; rwa [List.append_nil] at this
    subst hxs
    have hl : m.length = n1.length := by
      have q := L.si.len
      rw [wipeN_len, wipe_length, ← I1.len] at q
      exact q
    have kn : KN n1 (mrg (d.wr ++ elt.wr) n1 m) := fun j => by
      by_cases hj : j ∈ d.wr ++ elt.wr
      · by_cases hlt : j < n1.length
        · rw [← L.kn j (hn j hj)]
          unfold isL; rw [getN_mrg_in hj hlt]
        · have z : ∀ q : Env, q.length = n1.length → isL q j = false := fun q hq => by
            unfold isL getN
            rw [List.getElem?_eq_none (by omega)]; rfl
          rw [z _ mrg_len, z _ rfl]
      · unfold isL; rw [getN_mrg hj]
    have I2 : SI X.K Γ (mrg (d.wr ++ elt.wr) n1 m) σ Hn Zn := by
      refine I1.after L.fr hw mrg_len (fun i hi => getN_mrg hi) kn (fun i hi dd hd => ?_) L.si.zok
      have hlt : i < n1.length := by
        by_cases h : i < n1.length
        · exact h
        · unfold getN at hd
          rw [List.getElem?_eq_none (by rw [mrg_len]; omega)] at hd
          cases hd
      rw [getN_mrg_in hi hlt] at hd
      obtain ⟨v, ev, r⟩ := L.si.slot i dd (by rw [getN_wipe, if_neg (hn i hi)]; exact hd)
      rw [wipe_at (hn i hi)] at ev
      rw [flag_in, if_neg (hn i hi)] at r
      exact ⟨v, ev, r⟩
    refine kq _ Hn Zn I2 (k1.trans kn) ?_ ?_
    · simp only [E.wr]; exact f1.seq k1 L.fr
    · refine Val.fresh I2 I (k1.trans kn) L.nz L.at0 ?_ L.rp
      cases e : H D0 with
      | none => rfl
      | some o => exact absurd hD (f1.there _ (by rw [e]; simp))
theorem ge_lc (ok : XOk Φ c k X) {c' : Cx0} {elt it d : E} {tg : Tg} {own : List Nat} {l i t : Expr} {fs : List Expr} {blk : Scope} {p : Pos} (hi : GI Φ c Γ X it t i) (hs : notSet i = true) (hb : blkB c.N c.sc blk own = true) (hsl : ∀ j ∈ tg.slots, j ∈ own)
    (hg : ∀ (s : Shared) (H : Hp) (C : Addr) (cl : List (Str × Addr)) (fp : List Addr), PG (X.blk s H blk (compEnvC blk cl C X.env) fp) t (tG X.K (inFl Γ own) tg))
    (ht : ∀ (s : Shared) (H : Hp) (C : Addr) (cl : List (Str × Addr)) (fp : List Addr), PTs (X.blk s H blk (compEnvC blk cl C X.env) fp) fs (tC Φ (inFl Γ own) X.K d))
    (he : ∀ (s : Shared) (H : Hp) (C : Addr) (cl : List (Str × Addr)) (fp : List Addr), PE (X.blk s H blk (compEnvC blk cl C X.env) fp) l (tE Φ c' (inFl Γ own) X.K elt))
    (wd : ∀ j ∈ d.wr, flag (inFl Γ own) j = .own) (we : ∀ j ∈ elt.wr, flag (inFl Γ own) j = .own) (hm : elt.md c' (inFl Γ own) ≠ .brw) (dj : disj (it.bs Γ) (d.wr ++ elt.wr) = true) (dow : disj own (d.wr ++ elt.wr) = true) :
    GE Φ c Γ X (.lc elt tg it d own) (.ListComp l [⟨t, i, fs, 0⟩] blk p) := by
  obtain ⟨ow, wi, pi, bok, hw, sem⟩ := lc_all ok hi hs hb hsl hg ht he wd we hm dj dow
  exact ⟨hw, _, pe_lc (own := ow) ok.calm (by rw [ok.N]; exact ok.nd) pi bok hg ht he (folded hs), sem⟩
end
end Sc
namespace PySem
open Sem (wp)
theorem scZipNoLen : typeLookup (.type "zip") "__len__" = pure none := am_miss_of_fast (by decide +kernel)
theorem scZipNoHint : typeLookup (.type "zip") "__length_hint__" = pure none := am_miss_of_fast (by decide +kernel)
/-- the cells of a zip of two lists ahead of its turn i -/
def ScZs (z TI TO i1 i2 l1 l2 : Addr) (xs ys : Array Value) (i : Nat) (h : Heap) : Prop :=
  IsPair h TI (.ref i1) (.ref i2) ∧ h.IsListIter i1 l1 i ∧ h.IsListIter i2 l2 i ∧ h.IsList l1 xs ∧ h.IsList l2 ys ∧
  ((IsZip h z TI TO .none ∧ ∃ a b, IsPair h TO a b) ∨ ∃ T f oT, IsZipHeld h z TI TO T f ∧ h.get? T = some oT ∧ T ≠ z ∧ T ≠ i1 ∧ T ≠ i2)
section
variable {prog : Program} {w : World} {A : Around} {s : Shared} {z TI TO i1 i2 l1 l2 : Addr} {xs ys : Array Value}
theorem ScZs.isZip {i : Nat} {h : Heap} (st : ScZs z TI TO i1 i2 l1 l2 xs ys i h) : ∃ o, h.get? z = some o ∧ o.cls = .type "zip" := by
  obtain ⟨_, _, _, _, _, hz⟩ := st
  rcases hz with ⟨hz, _⟩ | ⟨T, f, oT, hz, _⟩
  · exact ⟨_, hz, rfl⟩
  · exact ⟨_, hz, rfl⟩
theorem ScZs.keep {i : Nat} {h h' : Heap} (st : ScZs z TI TO i1 i2 l1 l2 xs ys i h) (k : ∀ b o, h.get? b = some o → (∀ n c, o.data = .seq n c → o.cls = .type "list" → b = l1 ∨ b = l2) → h'.get? b = some o) (kT : ∀ T o, h.get? T = some o → ∃ o', h'.get? T = some o') : ScZs z TI TO i1 i2 l1 l2 xs ys i h' := by
  obtain ⟨hTI, h1, h2, hl1, hl2, hz⟩ := st
  refine ⟨k _ _ hTI (fun _ _ _ e => absurd (Value.type.inj e) (by decide)), h1.at fun o e => k _ _ e fun n c d _ => ?_, h2.at fun o e => k _ _ e fun n c d _ => ?_, hl1.at fun o e => k _ _ e fun _ _ _ _ => .inl rfl, hl2.at fun o e => k _ _ e fun _ _ _ _ => .inr rfl, ?_⟩
  · obtain ⟨o2, e2, _, d2⟩ := h1
    rw [e] at e2; cases e2
    rw [d2] at d; cases d
  · obtain ⟨o2, e2, _, d2⟩ := h2
    rw [e] at e2; cases e2
    rw [d2] at d; cases d
  · rcases hz with ⟨hz, a, b, hTO⟩ | ⟨T, f, oT, hz, hT, r1, r2, r3⟩
    · exact .inl ⟨k _ _ hz (fun _ _ d => by cases d), a, b, k _ _ hTO (fun _ _ _ e => absurd (Value.type.inj e) (by decide))⟩
    · obtain ⟨oT', hT'⟩ := kT T oT hT
      exact .inr ⟨T, f, oT', k _ _ hz (fun _ _ d => by cases d), hT', r1, r2, r3⟩
theorem scZipNext {Q : Option Value → Shared → Prop} {E : Value → Shared → Prop} {i : Nat} (D : ZipApart z TI TO i1 i2 l1 l2) (st : ScZs z TI TO i1 i2 l1 l2 xs ys i s.heap) {x y : Value} (hx : xs[i]? = some x) (hy : ys[i]? = some y)
    (hQ : ∀ h', ScZs z TI TO i1 i2 l1 l2 xs ys (i + 1) h' → IsPair h' s.heap.objs.size x y → h'.objs.size = s.heap.objs.size + 1 → (∀ c o, c ≠ z → c ≠ TO → c ≠ i1 → c ≠ i2 → s.heap.get? c = some o → h'.get? c = some o) → Q (some (.ref s.heap.objs.size)) { s with heap := h' }) :
    wpAny (model prog w) A (pyNext (.ref z)) Q E s := by
  obtain ⟨hTI, h1, h2, hl1, hl2, hz⟩ := st
  have lt : ∀ {c o}, s.heap.get? c = some o → s.heap.objs.size ≠ c := fun e => Nat.ne_of_gt (Heap.lt_size e)
  have n1 : s.heap.objs.size ≠ i1 := let ⟨_, e, _⟩ := h1; lt e
  have n2 : s.heap.objs.size ≠ i2 := let ⟨_, e, _⟩ := h2; lt e
  rcases hz with ⟨hz, a, b, hTO⟩ | ⟨T, f, oT, hz, hT, r1, r2, r3⟩
  · refine wpAny_pyNext_zip_item D hz hTI hTO h1 h2 hl1 hl2 hx hy fun h' a1 a2 a3 a4 a5 a6 hk => hQ h' ⟨hk _ _ D.TIz D.TITO D.TIi1 D.TIi2 hTI, a3, a4, hl1.at fun o e => hk _ o D.l1z D.l1TO D.l1i1 D.l1i2 e, hl2.at fun o e => hk _ o D.l2z D.l2TO D.l2i1 D.l2i2 e, .inr ⟨_, false, _, a1, a5, lt hz, n1, n2⟩⟩ a5 a6 hk
  · refine wpAny_pyNext_zip_item_held D hz hT hTI h1 h2 hl1 hl2 hx hy fun h' a1 a3 a4 a5 a6 hk => hQ h' ⟨hk _ _ D.TIz D.TIi1 D.TIi2 hTI, a3, a4, hl1.at fun o e => hk _ o D.l1z D.l1i1 D.l1i2 e, hl2.at fun o e => hk _ o D.l2z D.l2i1 D.l2i2 e, .inr ⟨T, true, oT, a1, hk _ _ r1 r2 r3 hT, r1, r2, r3⟩⟩ a5 a6 fun c o c1 _ c3 c4 e => hk c o c1 c3 c4 e
theorem scZipDone {Q : Option Value → Shared → Prop} {E : Value → Shared → Prop} {i : Nat} (hh : A.handled = none) (D : ZipApart z TI TO i1 i2 l1 l2) (st : ScZs z TI TO i1 i2 l1 l2 xs ys i s.heap) (he : xs[i]? = none ∨ ys[i]? = none)
    (hQ : ∀ h', (∀ c o, c ≠ z → c ≠ TO → c ≠ i1 → c ≠ i2 → s.heap.get? c = some o → h'.get? c = some o) → Q none { s with heap := h' }) : wpAny (model prog w) A (pyNext (.ref z)) Q E s := by
  obtain ⟨hTI, h1, h2, hl1, hl2, hz⟩ := st
  rcases hz with ⟨hz, a, b, hTO⟩ | ⟨T, f, oT, hz, hT, r1, r2, r3⟩
  · exact wpAny_pyNext_zip_end hh D hz hTI hTO h1 h2 hl1 hl2 he fun h' hk => hQ h' hk
  · exact wpAny_pyNext_zip_end_held hh D hz hT hTI h1 h2 hl1 hl2 he fun h' hk => hQ h' fun c o c1 _ c3 c4 e => hk c o c1 c3 c4 e
theorem scZipLoop {R : Result → Shared → Prop} (hh : A.handled = none) (D : ZipApart z TI TO i1 i2 l1 l2) (S M : Addr) (hM : z < M ∧ TI < M ∧ TO < M ∧ i1 < M ∧ i2 < M ∧ l1 < M ∧ l2 < M ∧ S < M) (hS : S ≠ z ∧ S ≠ TI ∧ S ≠ TO ∧ S ≠ i1 ∧ S ≠ i2 ∧ S ≠ l1 ∧ S ≠ l2) (res : Value) (hn : min xs.size ys.size ≤ sizeLine) :
    ∀ (k i : Nat) (s : Shared) (acc : Array Value) (c : Nat), min xs.size ys.size - i = k → i ≤ min xs.size ys.size → ScZs z TI TO i1 i2 l1 l2 xs ys i s.heap → s.heap.get? S = some { cls := .type "list", dict := none, data := .seq acc c, slots := #[] } → s.heap.objs.size = M + i →
    acc.toList = (List.range i).map (fun j => Value.ref (M + j)) → (∀ j x y, j < i → xs[j]? = some x → ys[j]? = some y → IsPair s.heap (M + j) x y) →
    (∀ h' acc' c', (∀ b o, b < M → b ≠ z → b ≠ TO → b ≠ i1 → b ≠ i2 → b ≠ S → s.heap.get? b = some o → h'.get? b = some o) → h'.get? S = some { cls := .type "list", dict := none, data := .seq acc' c', slots := #[] } → acc'.toList = (List.range (min xs.size ys.size)).map (fun j => Value.ref (M + j)) →
      (∀ j x y, j < min xs.size ys.size → xs[j]? = some x → ys[j]? = some y → IsPair h' (M + j) x y) → R (.ok (.ret res)) { s with heap := h' }) →
    codeAny (model prog w) A (.builtin "list.extend.loop" ⟨[.ref S, .ref z, res], []⟩) R s := by
  obtain ⟨m1, m2, m3, m4, m5, m6, m7, m8⟩ := hM
  obtain ⟨s1, s2, s3, s4, s5, s6, s7⟩ := hS
  intro k
  induction k with
  | zero =>
    intro i s acc c hk hi st hSc hsz hacc hP hR
    have hin : i = min xs.size ys.size := by omega
    refine codeAny_builtin F.entry_extend_loop ?_
    rw [Around.under_plainId F.plain_extend_loop _]
    show wpAny _ A.in1 (pyNext (.ref z) >>= _) _ _ s
    refine wpAny_bind (scZipDone (A := A.in1) hh D st ?_ fun h' kp => ?_)
    · rcases Nat.le_total xs.size ys.size with h | h
      · exact .inl (Array.getElem?_eq_none (by omega))
      · exact .inr (Array.getElem?_eq_none (by omega))
    subst hin
    exact wpAny_pure (hR h' acc c (fun b o _ b1 b2 b3 b4 _ e => kp b o b1 b2 b3 b4 e) (kp _ _ s1 s3 s4 s5 hSc) hacc fun j x y hj hx hy => kp _ _ (Nat.ne_of_gt (Nat.lt_of_lt_of_le m1 (Nat.le_add_right _ _))) (Nat.ne_of_gt (Nat.lt_of_lt_of_le m3 (Nat.le_add_right _ _))) (Nat.ne_of_gt (Nat.lt_of_lt_of_le m4 (Nat.le_add_right _ _))) (Nat.ne_of_gt (Nat.lt_of_lt_of_le m5 (Nat.le_add_right _ _))) (hP j x y hj hx hy))
  | succ k ih =>
    intro i s acc c hk hi st hSc hsz hacc hP hR
    have hlt : i < min xs.size ys.size := by omega
    have hx : xs[i]? = some xs[i] := Array.getElem?_eq_getElem (by omega)
    have hy : ys[i]? = some ys[i] := Array.getElem?_eq_getElem (by omega)
    refine codeAny_builtin F.entry_extend_loop ?_
    rw [Around.under_plainId F.plain_extend_loop _]
    show wpAny _ A.in1 (pyNext (.ref z) >>= _) _ _ s
    refine wpAny_bind (scZipNext (A := A.in1) D st hx hy fun h' st' hT hsz' kp => ?_)
    have hSc' := kp _ _ s1 s3 s4 s5 hSc
    have hal : acc.size = i := by rw [← Array.length_toList, hacc]; simp
    show wpAny _ A.in1 (updateSeq S (·.push (Value.ref s.heap.objs.size)) >>= _) _ _ _
    refine wpAny_bind ?_
    have up : ∀ b o, b ≠ S → h'.get? b = some o → (h'.update S (Obj.mapSeq (·.push (Value.ref s.heap.objs.size)))).get? b = some o := fun b o hb e => (Heap.get?_update_other _ _ (Ne.symm hb)).trans e
    refine wpAny_updateSeq hSc' rfl (wpAny_pure ⟨plainId_quiet F.plain_extend_loop _, ih (i + 1) _ (acc.push (.ref s.heap.objs.size)) _ (by omega) hlt (st'.keep (fun b o e ns => ?_) fun T o e => ?_) (Heap.get?_update_self _ hSc' rfl) ?_ ?_ (fun j x y hj hx' hy' => ?_) fun h'' acc' c' kp2 hS2 ha2 hP2 => ?_⟩) (by omega) (by show (acc.push _).size ≤ sizeLine + 1; rw [Array.size_push]; omega)
    · refine up b o (fun eb => ?_) e
      subst eb
      rw [hSc'] at e; cases e
      rcases ns _ _ rfl rfl with q | q
      · exact s6 q
      · exact s7 q
    · by_cases e2 : T = S
      · subst e2; exact ⟨_, Heap.get?_update_self _ hSc' rfl⟩
      · exact ⟨o, up T o e2 e⟩
    · show (h'.update S _).objs.size = M + (i + 1)
      have : (h'.update S (Obj.mapSeq (·.push (Value.ref s.heap.objs.size)))).objs.size = h'.objs.size := Heap.size_update ..
      omega
    · rw [Array.toList_push, hacc, List.range_succ, List.map_append, hsz]; rfl
    · have nS : M + j ≠ S := Nat.ne_of_gt (Nat.lt_of_lt_of_le m8 (Nat.le_add_right _ _))
      by_cases e : j = i
      · subst e
        rw [hx] at hx'; cases hx'
        rw [hy] at hy'; cases hy'
        rw [← hsz] at nS ⊢
        exact up _ _ nS hT
      · exact up _ _ nS (kp _ _ (Nat.ne_of_gt (Nat.lt_of_lt_of_le m1 (Nat.le_add_right _ _))) (Nat.ne_of_gt (Nat.lt_of_lt_of_le m3 (Nat.le_add_right _ _))) (Nat.ne_of_gt (Nat.lt_of_lt_of_le m4 (Nat.le_add_right _ _))) (Nat.ne_of_gt (Nat.lt_of_lt_of_le m5 (Nat.le_add_right _ _))) (hP j x y (by omega) hx' hy'))
    · exact hR h'' acc' c' (fun b o b0 b1 b2 b3 b4 b5 e => kp2 b o b0 b1 b2 b3 b4 b5 (up b o b5 (kp b o b1 b2 b3 b4 e))) hS2 ha2 hP2
end
section
variable {prog : Program} {w : World} {A : Around} {E : Value → Shared → Prop} {s : Shared} {z TI TO i1 i2 l1 l2 : Addr} {xs ys : Array Value}
theorem scZipExtend {R : Result → Shared → Prop} (hh : A.handled = none) (D : ZipApart z TI TO i1 i2 l1 l2) (st : ScZs z TI TO i1 i2 l1 l2 xs ys 0 s.heap) (S : Addr) (hM : z < S ∧ TI < S ∧ TO < S ∧ i1 < S ∧ i2 < S ∧ l1 < S ∧ l2 < S) (hsz : s.heap.objs.size = S + 1) (res : Value) (hn : min xs.size ys.size ≤ sizeLine) (c₀ : Nat)
    (hS : s.heap.get? S = some { cls := .type "list", data := .seq #[] c₀ })
    (hR : ∀ h' acc' c', (∀ b o, b < S → b ≠ z → b ≠ TO → b ≠ i1 → b ≠ i2 → s.heap.get? b = some o → h'.get? b = some o) → h'.get? S = some { cls := .type "list", dict := none, data := .seq acc' c', slots := #[] } → acc'.toList = (List.range (min xs.size ys.size)).map (fun j => Value.ref (S + 1 + j)) →
      (∀ j x y, j < min xs.size ys.size → xs[j]? = some x → ys[j]? = some y → IsPair h' (S + 1 + j) x y) → R (.ok (.ret res)) { s with heap := h' }) :
    wpAny (model prog w) A.in1 (Builtin.List.listExtendWith (.ref S) (.ref z) res) (fun fin s' => match fin with
      | .done f => R (.ok f) s'
      | .again c' => c'.quiet = true ∧ codeAny (model prog w) A c' R s') (fun e s' => R (.error e) s') s := by
  obtain ⟨m1, m2, m3, m4, m5, m6, m7⟩ := hM
  have hTy : ∀ {s' : Shared}, ScZs z TI TO i1 i2 l1 l2 xs ys 0 s'.heap → s'.TypeIs (.ref z) "zip" := fun st => let ⟨o, e, c⟩ := st.isZip; ⟨o, e, c⟩
  have hSz : S ≠ z := Nat.ne_of_gt m1
  have keep : ∀ (h' : Heap), (∀ b o, b ≠ S → s.heap.get? b = some o → h'.get? b = some o) → (∃ o, h'.get? S = some o) → ScZs z TI TO i1 i2 l1 l2 xs ys 0 h' := fun h' k hSo => st.keep (fun b o e ns => k b o (fun eb => by
      subst eb
      rw [hS] at e; cases e
      rcases ns _ _ rfl rfl with q | q
      · exact Nat.ne_of_gt m6 q
      · exact Nat.ne_of_gt m7 q) e) fun T o e => by
    by_cases e2 : T = S
    · rw [e2]; exact hSo
    · exact ⟨o, k T o e2 e⟩
  have loop : ∀ (h : Heap) (c₁ : Nat), (∀ b o, b ≠ S → s.heap.get? b = some o → h.get? b = some o) → h.objs.size = S + 1 → h.get? S = some { cls := .type "list", data := .seq #[] c₁ } → codeAny (model prog w) A (.builtin "list.extend.loop" ⟨[.ref S, .ref z, res], []⟩) R { s with heap := h } := fun h c₁ k hz hS₁ => by
    refine scZipLoop hh D S (S + 1) ⟨Nat.lt_succ_of_lt m1, Nat.lt_succ_of_lt m2, Nat.lt_succ_of_lt m3, Nat.lt_succ_of_lt m4, Nat.lt_succ_of_lt m5, Nat.lt_succ_of_lt m6, Nat.lt_succ_of_lt m7, Nat.lt_succ_self _⟩ ⟨hSz, Nat.ne_of_gt m2, Nat.ne_of_gt m3, Nat.ne_of_gt m4, Nat.ne_of_gt m5, Nat.ne_of_gt m6, Nat.ne_of_gt m7⟩ res hn _ 0 _ #[] c₁ rfl (Nat.zero_le _) (keep h k ⟨_, hS₁⟩) hS₁ hz rfl (fun j _ _ hj => absurd hj (Nat.not_lt_zero _)) fun h' acc' c' kp hS' ha hP => ?_
    exact hR h' acc' c' (fun b o b0 b1 b2 b3 b4 e => kp b o (Nat.lt_succ_of_lt b0) b1 b2 b3 b4 (Nat.ne_of_lt b0) (k b o (Nat.ne_of_lt b0) e)) hS' ha hP
  unfold Builtin.List.listExtendWith
  refine wpAny_bind (wpAny_typeOf (T := "zip") (hTy st) ?_)
  have h1 : Builtin.List.listSameRef (.ref S) (.ref z) = false := by simp [Builtin.List.listSameRef, hSz]
  have h2 : (Value.type "zip" == Value.type "list") = false := by decide
  have h3 : (Value.type "zip" == Value.type "tuple") = false := by decide
  simp only [h1, h2, h3, Bool.or_false, Bool.false_eq_true, if_false]
  have self : ∀ {Q : Value → Shared → Prop} {E : Value → Shared → Prop}, Q (.ref z) s → wpAny (model prog w) A.in1 (pyIter (.ref z)) Q E s := fun q => by
    obtain ⟨_, _, _, _, _, hz⟩ := st
    rcases hz with ⟨hz, _⟩ | ⟨T, f, oT, hz, _⟩
    · exact wpAny_pyIter_zip hz q
    · exact wpAny_pyIter_slot ⟨_, hz, rfl⟩ F.slot_zip_iter (wpAny_call_entry F.slot_zip_iter ⟨_, hz, rfl⟩ F.entry_zip_iter (by
        show wpAny _ _ (ret (.ref z)) _ _ s
        exact wpAny_pure ⟨_, rfl, "zip", _, ⟨_, hz, rfl⟩, F.slot_zip_next.lookup, q⟩) (F.args_zip_iter_1 _))
  refine wpAny_bind (self ?_)
  refine wpAny_bind (wpAny_holding ?_)
  unfold Builtin.List.listLengthHint
  refine wpAny_bind (wpAny_specialOf (hTy st) scZipNoLen ?_)
  refine wpAny_bind (m := specialOf (Value.ref z) (Str.ofString "__length_hint__")) (wpAny_specialOf (hTy st) scZipNoHint ?_)
  refine wpAny_pure ?_
  refine wpAny_ite_split (fun _ => ?_) (fun _ => wpAny_pure ⟨plainId_quiet F.plain_extend_loop _, loop _ c₀ (fun _ _ _ e => e) hsz hS⟩)
  refine wpAny_bind (wpAny_rule ?_)
  refine wpAny_bind (m := updateSeq S (·.push .none) >>= fun _ => updateSeq S (·.pop)) ?_
  refine wpAny_bind (wpAny_updateSeq hS rfl ?_)
  have g2 := Heap.get?_update_self (Obj.mapSeq (·.push Value.none)) hS rfl
  refine wpAny_updateSeq (hz := by seq_fits) g2 rfl ?_
  have g3 := Heap.get?_update_self (Obj.mapSeq (·.pop)) g2 rfl
  refine wpAny_pure ⟨plainId_quiet F.plain_extend_loop _, loop _ _ (fun b o hb e => (Heap.get?_update_other _ _ (Ne.symm hb)).trans ((Heap.get?_update_other _ _ (Ne.symm hb)).trans e)) ?_ g3⟩
  have z1 : ((s.heap.update S (Obj.mapSeq (·.push Value.none))).update S (Obj.mapSeq (·.pop))).objs.size = s.heap.objs.size := (Heap.size_update ..).trans (Heap.size_update ..)
  exact z1.trans hsz
theorem scListZip {Q : Value → Shared → Prop} (hh : A.handled = none) (D : ZipApart z TI TO i1 i2 l1 l2) (st : ScZs z TI TO i1 i2 l1 l2 xs ys 0 s.heap) (hM : z < s.heap.objs.size ∧ TI < s.heap.objs.size ∧ TO < s.heap.objs.size ∧ i1 < s.heap.objs.size ∧ i2 < s.heap.objs.size ∧ l1 < s.heap.objs.size ∧ l2 < s.heap.objs.size) (hn : min xs.size ys.size ≤ sizeLine)
    (hQ : ∀ h' acc' c', (∀ b o, b < s.heap.objs.size → b ≠ z → b ≠ TO → b ≠ i1 → b ≠ i2 → s.heap.get? b = some o → h'.get? b = some o) → h'.get? s.heap.objs.size = some { cls := .type "list", dict := none, data := .seq acc' c', slots := #[] } → acc'.toList = (List.range (min xs.size ys.size)).map (fun j => Value.ref (s.heap.objs.size + 1 + j)) →
      (∀ j x y, j < min xs.size ys.size → xs[j]? = some x → ys[j]? = some y → IsPair h' (s.heap.objs.size + 1 + j) x y) → Q (.ref s.heap.objs.size) { s with heap := h' }) : wpAny (model prog w) A (call (.type "list") [.ref z]) Q E s := by
  refine callType_codes (Q₁ := fun obj s₁ => obj = .ref s.heap.objs.size ∧ s₁ = { s with heap := s.heap.push { cls := .type "list", data := .seq #[] } }) F.called_list (F.typeCall_list_1 _) F.entry_list_init (code_list_new _ ⟨rfl, rfl⟩) fun obj s₁ h₁ => ?_
  obtain ⟨rfl, rfl⟩ := h₁
  have hS : (s.heap.push { cls := .type "list", data := .seq #[] }).get? s.heap.objs.size = some { cls := .type "list", data := .seq #[] } := Heap.get?_push_size _ rfl
  refine ⟨⟨_, hS, rfl⟩, F.args_list_init_2 _ _, ?_⟩
  have e1 : (s.heap.push { cls := .type "list", data := .seq #[] }).objs.size = s.heap.objs.size + 1 := Heap.size_push ..
  refine wpAny_bind (m := Builtin.List.listItems (.ref s.heap.objs.size)) ?_
  unfold Builtin.List.listItems
  refine wpAny_bind (wpAny_seqItems hS rfl (wpAny_pure ?_))
  refine wpAny_bind (m := updateSeq s.heap.objs.size (fun _ => #[])) (wpAny_updateSeq hS rfl ?_)
  have g2 := Heap.get?_update_self (Obj.mapSeq (fun _ => (#[] : Array Value))) hS rfl
  refine wpAny_bind (wpAny_letGo ?_)
  have oth : ∀ b o, b ≠ s.heap.objs.size → s.heap.get? b = some o → ((s.heap.push { cls := .type "list", data := .seq #[] }).update s.heap.objs.size (Obj.mapSeq (fun _ => (#[] : Array Value)))).get? b = some o := fun b o hb e => (Heap.get?_update_other _ _ (Ne.symm hb)).trans (Heap.get?_push_of_some _ e)
  refine scZipExtend (A := A.in1) hh D (st.keep (fun b o e _ => oth b o (Nat.ne_of_lt (Heap.lt_size e)) e) fun T o e => ⟨o, oth T o (Nat.ne_of_lt (Heap.lt_size e)) e⟩) _ hM ((Heap.size_update ..).trans e1) .none hn _ g2 fun h' acc' c' kp hS' ha hP => ?_
  exact ⟨rfl, hQ h' acc' c' (fun b o b0 b1 b2 b3 b4 e => kp b o b0 b1 b2 b3 b4 (oth b o (Nat.ne_of_lt b0) e)) hS' ha hP⟩
end
end PySem
namespace Sc
open PySem PySem.Spec PyProof.Rows L2
/-! ### list(zip(a, b)) -/
/-- pairs, one behind another, from p on -/
def putP (H : Hp) (p : Nat) : List (V × V) → Hp
  | [] => H
  | q :: r => putP (upd H p (.tup [q.1, q.2])) (p + 1) r
theorem putP_low : ∀ (l : List (V × V)) (H : Hp) (p b : Nat), b < p → putP H p l b = H b
  | [], _, _, _, _ => rfl
  | q :: r, H, p, b, h => by
    rw [putP, putP_low r _ _ _ (Nat.lt_succ_of_lt h), upd_ne (Nat.ne_of_lt h)]
theorem putP_hi : ∀ (l : List (V × V)) (H : Hp) (p b : Nat), p + l.length ≤ b → putP H p l b = H b
  | [], _, _, _, _ => rfl
  | q :: r, H, p, b, h => by
    simp only [List.length_cons] at h
    have ne : b ≠ p := by omega
    rw [putP, putP_hi r _ _ _ (by omega), upd_ne ne]
theorem putP_at : ∀ (l : List (V × V)) (H : Hp) (p j b : Nat) (q : V × V), b = p + j → l[j]? = some q → putP H p l b = some (.tup [q.1, q.2])
  | [], _, _, _, _, _, _, h => by simp at h
  | q0 :: r, H, p, 0, b, q, e, h => by
    simp at h; subst h
    have e : b = p := e
    subst e
    rw [putP, putP_low r _ _ _ (Nat.lt_succ_self _), upd_same]
  | q0 :: r, H, p, j + 1, b, q, e, h => by
    rw [putP]
    exact putP_at r (upd H p (.tup [q0.1, q0.2])) (p + 1) j b q (by omega) (by simpa using h)
section
variable {X : Cx} {pins : List (Addr × Obj)} {σ : L2.St} {H : Hp} {s : Shared}
theorem laid_zip (I : Inv X pins σ H s) {h' : Heap} {S : Nat} {l : List (V × V)} {acc : Array Value} {c : Nat} (hS0 : s.heap.objs.size ≤ S) (hz : l.length ≤ sizeLine) (hk : ∀ b o, s.heap.get? b = some o → h'.get? b = some o)
    (hS : h'.get? S = some { cls := .type "list", dict := none, data := .seq acc c, slots := #[] }) (ha : acc.toList = (List.range l.length).map fun j => Value.ref (S + 1 + j : Nat)) (hP : ∀ j q, l[j]? = some q → ∃ x y, RelV q.1 x ∧ RelV q.2 y ∧ IsPair h' (S + 1 + j : Nat) x y) :
    Inv X pins σ (putP (upd H S (.lst ((List.range l.length).map fun j => V.ref (S + 1 + j : Nat)))) (S + 1) l) { s with heap := h' } := by
  generalize hH' : putP (upd H S (.lst ((List.range l.length).map fun j => V.ref (S + 1 + j : Nat)))) (S + 1) l = H'
  have off : ∀ b : Nat, b < s.heap.objs.size → H' b = H b := fun b hb => by
    rw [← hH', putP_low _ _ _ _ (by omega), upd_ne (Nat.ne_of_lt (Nat.lt_of_lt_of_le hb hS0))]
  have low : ∀ (b : Addr) u, H b = some u → b < s.heap.objs.size := fun b u e => by
    by_cases h : b < s.heap.objs.size
    · exact h
    · rw [I.hok.fresh (Nat.not_lt.mp h)] at e; cases e
  have kp : ∀ (b : Addr) u, H b = some u → H' b = some u := fun b u e => by rw [off b (low b u e)]; exact e
  refine I.call' (ch := []) rfl ⟨fun b o q _ _ _ => hk b o q, fun b o q _ _ _ => ⟨o.slots, hk b o q⟩, fun b o q n _ => by rw [off b (Heap.lt_size q)]; exact n, fun b o q _ => ⟨o, hk b o q⟩, fun b xs q => kp b _ q, fun b o u q => kp b _ q, fun b ps q => ⟨#[], by rw [kp b _ q]; simp⟩⟩ ?_ I.bare fun b z => by simp at z
  intro (b : Nat) u q
  by_cases hb : b < s.heap.objs.size
  · rw [off b hb] at q
    exact (I.hok b u q).stay (fun d v _ y => hk d v y) (fun d y => kp d _ y) fun d xs y => kp d _ y
  have hn : H b = none := I.hok.fresh (Nat.not_lt.mp hb)
  by_cases hbS : b = S
  · subst hbS
    rw [← hH', putP_low _ _ _ _ (Nat.lt_succ_self _), upd_same] at q
    cases q
    refine ⟨by rw [List.length_map, List.length_range]; exact hz, acc.toList, c, ?_, by rw [Array.toArray_toList]; exact hS⟩
    rw [ha]
    have vr : ∀ r : List Nat, Vals (r.map fun j => V.ref (b + 1 + j : Nat)) (r.map fun j => Value.ref (b + 1 + j : Nat)) := fun r => by
      induction r with
      | nil => exact .nil
      | cons a r ih => exact .cons rfl ih
    exact vr _
  by_cases h2 : b < S + 1
  · rw [← hH', putP_low _ _ _ _ h2, upd_ne hbS, hn] at q; cases q
  by_cases h3 : b < S + 1 + l.length
  · obtain ⟨j, hj, rfl⟩ : ∃ j, j < l.length ∧ b = S + 1 + j := ⟨b - (S + 1), by omega, by omega⟩
    have hq : l[j]? = some l[j] := List.getElem?_eq_getElem hj
    rw [← hH', putP_at _ _ _ j _ _ rfl hq] at q
    cases q
    obtain ⟨x, y, r1, r2, hp⟩ := hP j _ hq
    exact ⟨by show 2 ≤ sizeLine; decide, [x, y], .cons r1 (.cons r2 .nil), ⟨_, hp, rfl, _, rfl⟩⟩
  · rw [← hH', putP_hi _ _ _ _ (Nat.not_lt.mp h3), upd_ne hbS, hn] at q; cases q
end
section
variable {X : Cx} {e e2 : Expr} {ta : TA} {p p2 pos pos2 : Pos}
def tLz (K : PySem.W.Frag) (ta : TA) : TE := fun σ H Q => ta σ H fun vs H1 => ∃ a1 a2 xs ys, vs = [.ref a1, .ref a2] ∧ SqL K H1 a1 xs ∧ SqL K H1 a2 ys ∧
  ∀ S : Nat, (∀ j : Nat, S ≤ j → H1 j = none) → Q (V.ref S) (putP (upd H1 S (.lst ((List.range (xs.zip ys).length).map fun j => V.ref (S + 1 + j : Nat)))) (S + 1) (xs.zip ys))
theorem pe_lz (hc : X.calm = true) (hg : Gl X "list") (hm : X.mg "list" = none) (hg2 : Gl X "zip") (hm2 : X.mg "zip" = none) (ha : PA X [e, e2] ta) (hs : starEach [e, e2] X.env = (false, eval e X.env) :: starEach [e2] X.env) (hpl : (backTo pos2 (starEach [e2] X.env)).any (·.1) = false) :
    PE X (.Call (.Name "list" p) [.Call (.Name "zip" p2) [e, e2] [] pos2] [] pos) (tLz X.K ta) := by
  refine ⟨fun pins s σ H Q I h => ?_⟩
  refine wpAny_Call_Name_kw (ld_blt I hg hm (boot_bi .list) ?_)
  refine PyProof.Rows.callWith_type1 (args_cons ?_ rfl) rfl rfl
  refine Call_ (ld_blt I hg2 hm2 PyProof.Rows.boot_zip (PyProof.Rows.callWith_type1 (thn (ha.run pos2 pins s σ H _ I h) fun us s1 ⟨vs, H1, I1, r1, q1⟩ => ?_) hs hpl))
  obtain ⟨a1, a2, xs, ys, ex, hq1, hq2, q⟩ := q1
  subst ex
  cases r1 with
  | cons r rr =>
    cases rr with
    | cons r' rr =>
      cases rr
      cases r
      cases r'
      obtain ⟨its, rv, p1, z1⟩ := I1.list hq1
      obtain ⟨its2, rv2, p2, z2⟩ := I1.list hq2
      have l1 := rv.length
      have l2 := rv2.length
      refine call_zip_2 p1.isList p2.isList fun h' hz hTI hTO h1 h2 hsz hk => args_nil ?_
      have D := PySem.W.ktu_apart s1.heap.objs.size a1 a2 p1.lt p2.lt
      refine scListZip (s := { s1 with heap := h' }) (I1.ok.hd hc) D ⟨hTI, h1, h2, p1.isList.at fun o e => hk _ o e, p2.isList.at fun o e => hk _ o e, .inl ⟨hz, _, _, hTO⟩⟩ ?_ ?_ fun h'' acc c kp hS hacc hP => ?_
      · have q1 : a1 < s1.heap.objs.size := p1.lt
        have q2 : a2 < s1.heap.objs.size := p2.lt
        have lt4 : s1.heap.objs.size + 4 < h'.objs.size := by rw [hsz]; exact Nat.lt_succ_self _
        have up : ∀ m : Nat, m ≤ s1.heap.objs.size + 4 → m < h'.objs.size := fun m h => Nat.lt_of_le_of_lt h lt4
        exact ⟨lt4, up _ (Nat.add_le_add_left (by decide) _), up _ (Nat.add_le_add_left (by decide) _), up _ (Nat.le_add_right _ _), up _ (Nat.add_le_add_left (by decide) _), up _ (Nat.le_of_lt (Nat.lt_of_lt_of_le q1 (Nat.le_add_right _ _))), up _ (Nat.le_of_lt (Nat.lt_of_lt_of_le q2 (Nat.le_add_right _ _)))⟩
      · simp only [List.size_toArray]; omega
      · have hlen : (xs.zip ys).length = min its.toArray.size its2.toArray.size := by rw [List.length_zip, List.size_toArray, List.size_toArray, l1, l2]
        have hSs : s1.heap.objs.size ≤ h'.objs.size := by rw [hsz]; omega
        have J := laid_zip I1 (h' := h'') (S := h'.objs.size) (l := xs.zip ys) hSs (by rw [hlen]; simp only [List.size_toArray]; omega) (fun b o eb => ?_) hS (by rw [hlen]; exact hacc) fun j qq hj => ?_
        · exact ⟨V.ref h'.objs.size, _, J, rfl, q _ fun j hj => I1.hok.fresh (Nat.le_trans hSs hj)⟩
        · have hb : b < s1.heap.objs.size := Heap.lt_size eb
          have nn : ∀ m : Nat, b ≠ s1.heap.objs.size + m := fun m => Nat.ne_of_lt (Nat.lt_of_lt_of_le hb (Nat.le_add_right _ _))
          exact kp b o (Nat.lt_of_lt_of_le hb hSs) (nn 4) (nn 3) (nn 0) (nn 1) (hk b o eb)
        · have hjl : j < (xs.zip ys).length := (List.getElem?_eq_some_iff.mp hj).1
          obtain ⟨x, y⟩ := qq
          have hz2 := List.getElem?_zip_eq_some.mp hj
          obtain ⟨u, hu, ru⟩ := rv.get hz2.1
          obtain ⟨u2, hu2, ru2⟩ := rv2.get hz2.2
          exact ⟨u, u2, ru, ru2, hP j u u2 (by rw [← hlen]; exact hjl) (by simpa using hu) (by simpa using hu2)⟩
end
end Sc
namespace Sc
open PySem PySem.Spec PyProof.Rows L2
theorem zipD_len : ∀ l m : List D, (zipD l m).length = min l.length m.length
  | [], _ => by simp [zipD]
  | _ :: _, [] => by simp [zipD]
  | a :: r, b :: s => by simp only [zipD, List.length_cons, zipD_len r s]; omega
theorem zipD_get : ∀ {l m : List D} {i : Nat} {d : D}, (zipD l m)[i]? = some d → ∃ a b, l[i]? = some a ∧ m[i]? = some b ∧ d = .tup [a, b]
  | [], _, _, _, h => by simp [zipD] at h
  | _ :: _, [], _, _, h => by simp [zipD] at h
  | a :: r, b :: s, 0, d, h => by
    simp [zipD] at h
    exact ⟨a, b, rfl, rfl, h.symm⟩
  | a :: r, b :: s, i + 1, d, h => by
    obtain ⟨x, y, h1, h2, h3⟩ := zipD_get (l := r) (m := s) (i := i) (by simpa [zipD] using h)
    exact ⟨x, y, by simpa using h1, by simpa using h2, h3⟩
theorem zipD_at : ∀ {l m : List D} {i : Nat} {a b : D}, l[i]? = some a → m[i]? = some b → (zipD l m)[i]? = some (.tup [a, b])
  | [], _, _, _, _, h, _ => by simp at h
  | _ :: _, [], _, _, _, _, h => by simp at h
  | x :: r, y :: s, 0, a, b, h, k => by
    simp at h k; subst h k; rfl
  | x :: r, y :: s, i + 1, a, b, h, k => by
    have := zipD_at (l := r) (m := s) (i := i) (by simpa using h) (by simpa using k)
    simpa [zipD] using this
theorem enmD_len : ∀ (l : List D) (k : Nat), (enmD k l).length = l.length
  | [], _ => rfl
  | a :: r, k => by simp only [enmD, List.length_cons, enmD_len r]
theorem enmD_get : ∀ {l : List D} {k i : Nat}, (enmD k l)[i]? = (l[i]?).map fun d => .tup [.int ((k + i : Nat) : Int), d]
  | [], _, _ => rfl
  | a :: r, k, 0 => rfl
  | a :: r, k, i + 1 => by
    have e : k + 1 + i = k + (i + 1) := by omega
    simp only [enmD, List.getElem?_cons_succ, enmD_get (l := r), e]
section
variable {K : PySem.W.Frag} {H : Hp} {Z : AP1}
theorem RpL.of_get : ∀ {l : List D} {xs : List V}, l.length = xs.length → (∀ (i : Nat) d, l[i]? = some d → ∃ x, xs[i]? = some x ∧ Rp K H Z d x) → RpL K H Z l xs
  | [], xs, h, _ => by rw [List.eq_nil_of_length_eq_zero h.symm]; exact RpL.nil
  | d :: r, [], h, _ => by simp at h
  | d :: r, x :: xs, h, g => by
    obtain ⟨y, hy, ry⟩ := g 0 d rfl
    simp at hy; subst hy
    exact .cons ry (RpL.of_get (by simpa using h) fun i d h => by simpa using g (i + 1) d (by simpa using h))
end
section
variable {Φ : Fns} {c : Cx0} {Γ : List Fg} {X : Cx} {k : Nat}
theorem lzD_ok {x y d : D} (h : lzD x y = some d) : ∃ l m, x = .lst l ∧ y = .lst m ∧ d = .lst (zipD l m) := by
  cases x <;> cases y <;> simp only [lzD, reduceCtorEq, Option.some.injEq] at h
  exact ⟨_, _, rfl, rfl, h.symm⟩
theorem ge_lz (ok : XOk Φ c k X) {a b : E} {l r : Expr} {p p2 pos pos2 : Pos} (hg1 : glB c.sc "list" = true) (hg2 : glB c.sc "zip" = true) (ha : GE Φ c Γ X a l) (hb : GE Φ c Γ X b r) (dj : disj (a.bs Γ) b.wr = true) (s1 : notStar l = true) (s2 : notStar r = true) :
    GE Φ c Γ X (.lz a b) (.Call (.Name "list" p) [.Call (.Name "zip" p2) [l, r] [] pos2] [] pos) := by
  obtain ⟨wa, ta, pa, qa⟩ := ha
  obtain ⟨wb, tb, pb, qb⟩ := hb
  have pA : PA X [l, r] (tCons ta (tCons tb tNil)) := pa_cons pa (pa_cons pb pa_nil (star1 s2)) (star1 s1)
  refine ⟨by simp only [E.wr]; exact wr_app wa wb, _, pe_lz ok.calm (gl_of ok hg1) (ok.bn _ (by decide)) (gl_of ok hg2) (ok.bn _ (by decide)) pA (star1 s1) (by rw [star1 s2]; rfl), fun n σ H Z I d n' e Q kq => ?_⟩
  simp only [E.den] at e
  obtain ⟨x, n1, e1, e⟩ := ER.bind_eq e
  obtain ⟨y, n2, e2, e⟩ := ER.bind_eq e
  obtain ⟨e3, en⟩ := lift_eq e
  subst en
  obtain ⟨ld, md, rfl, rfl, rfl⟩ := lzD_ok e3
  · refine ge2 qa qb wb dj I e1 e2 (ea := l) (eb := r) fun vx vy H2 Z2 I2 kn f rx ry _ => ?_
    obtain ⟨a1, xs, rfl, hx, rx⟩ := rpb_lst rx
    obtain ⟨a2, ys, rfl, hy, ry⟩ := rpb_lst ry
    refine ⟨a1, a2, xs, ys, rfl, SqL.of hx, SqL.of hy, fun S hS => ?_⟩
    generalize hH' : putP (upd H2 S (.lst ((List.range (xs.zip ys).length).map fun j => V.ref (S + 1 + j : Nat)))) (S + 1) (xs.zip ys) = H'
    have low : ∀ p : Nat, H2 p ≠ none → p < S := fun p h => Nat.not_le.mp fun q => h (hS p q)
    have keep : ∀ (p : Addr) o, H2 p = some o → H' p = some o := fun p o e => by
      have hp := low p (by rw [e]; simp)
      rw [← hH', putP_low _ _ _ _ (Nat.lt_succ_of_lt hp), upd_ne (Nat.ne_of_lt hp)]
      exact e
    have hat : ∀ (j : Nat) (q : V × V), (xs.zip ys)[j]? = some q → H' (S + 1 + j : Nat) = some (.tup [q.1, q.2]) := fun j q h => by rw [← hH']; exact putP_at _ _ _ j _ _ rfl h
    have f3 : Fr (fun _ => False) H2 Z2 H' (fun q => Z2 q ∨ ∃ j : Nat, j < (xs.zip ys).length ∧ q = (S + 1 + j : Nat)) :=
      ⟨fun _ h => .inl h, fun p o e _ => keep p o e, fun p h => h.elim .inl fun ⟨j, hj, e⟩ => .inr (.inr (by rw [e]; exact hS _ (by omega))), fun p h => by
        cases e : H2 p with
        | none => exact absurd e h
        | some o => rw [keep p o e]; simp⟩
    have hz : ZOk H' (fun q => Z2 q ∨ ∃ j : Nat, j < (xs.zip ys).length ∧ q = (S + 1 + j : Nat)) := fun p h => by
      rcases h with h | ⟨j, hj, e⟩
      · exact f3.there p (I2.zok p h)
      · rw [e, hat j _ (List.getElem?_eq_getElem hj)]; simp
    have I3 := I2.fr f3 (fun _ h => h) hz
    have hlen := rx.len
    have hlen2 := ry.len
    have rl : RpL X.K H' (fun q => Z2 q ∨ ∃ j : Nat, j < (xs.zip ys).length ∧ q = (S + 1 + j : Nat)) (zipD ld md) ((List.range (xs.zip ys).length).map fun j => V.ref (S + 1 + j : Nat)) := by
      refine RpL.of_get (by rw [zipD_len, List.length_map, List.length_range, List.length_zip, hlen, hlen2]) fun i d hd => ?_
      obtain ⟨da, db, h1, h2, rfl⟩ := zipD_get hd
      obtain ⟨u, hu, ru⟩ := rx.get h1
      obtain ⟨u2, hu2, ru2⟩ := ry.get h2
      have hzip : (xs.zip ys)[i]? = some (u, u2) := List.getElem?_zip_eq_some.mpr ⟨hu, hu2⟩
      have hil := (List.getElem?_eq_some_iff.mp hzip).1
      refine ⟨V.ref (S + 1 + i : Nat), by rw [List.getElem?_map, List.getElem?_range hil]; rfl, ?_⟩
      simp only [Rp]
      exact ⟨_, _, rfl, .inl ⟨.inr ⟨i, hil, rfl⟩, hat i _ hzip⟩, .cons (ru.fr f3 fun _ h => h.elim) (.cons (ru2.fr f3 fun _ h => h.elim) RpL.nil)⟩
    have hSn : H2 S = none := hS S (Nat.le_refl _)
    have hH0 : H S = none := by
      cases e : H S with
      | none => rfl
      | some o => exact absurd hSn (f.there _ (by rw [e]; simp))
    refine kq _ H' _ I3 kn ?_ (Val.fresh I3 I kn (fun z => ?_) ?_ hH0 rl)
    · simp only [E.wr]; exact f.trans f3 (fun p w => .inl w) fun p w => w.elim
    · rcases z with z | ⟨j, hj, e⟩
      · exact I2.zok _ z hSn
      · exact absurd (show S = S + 1 + j from e) (by omega)
    · rw [← hH', putP_low _ _ _ _ (Nat.lt_succ_self _), upd_same]

/-! ### iteration sources -/
theorem pi_any {X : Cx} {tg l : Expr} {tl : TE} (hl : PE X l tl) : PI X tg l (fun σ H R => tl σ H fun x H1 => ∃ a xs, x = .ref a ∧ ((SqL X.K H1 a xs ∧ R (Itl X.K a) H1) ∨ (SqT X.K H1 a xs ∧ R (Itt X.K a) H1))) := by
  refine ⟨fun pins s σ H R I h => thn (hl.run pins s σ H _ I h) fun v s1 ⟨x, H1, I1, r1, q1⟩ => ?_⟩
  obtain ⟨a, xs, rfl, q1⟩ := q1
  cases r1
  rcases q1 with ⟨hq, q⟩ | ⟨hq, q⟩
  · obtain ⟨its, rv, p, hz⟩ := I1.list hq
    exact wpAny_pyIter_list p.isList (pi_one I1 _ (turn_list a _) ⟨_, Heap.get?_push_size _ rfl, rfl, rfl⟩ q)
  · obtain ⟨its, rv, p, hz⟩ := I1.tuple hq
    exact wpAny_pyIter_tuple (show s1.heap.IsTuple a its.toArray from p) (pi_one I1 _ (turn_tuple a _) ⟨_, Heap.get?_push_size _ rfl, rfl, rfl⟩ q)
/-- a list, a tuple, still there -/
theorem seq_at {K : PySem.W.Frag} {H : Hp} {Z : AP1} {x : D} {ds : List D} {v : V} (e : seqD x = some ds) (h : RpB K H Z x v) : ∃ a xs b, v = .ref a ∧ SqK K H b a xs ∧ RpL K H Z ds xs ∧ (b = true ↔ ∃ l, x = .lst l) := by
  rcases seq_cases e with rfl | rfl
  · obtain ⟨a, xs, rfl, t, r⟩ := rpb_lst h
    exact ⟨a, xs, true, rfl, SqL.of t, r, ⟨fun _ => ⟨_, rfl⟩, fun _ => rfl⟩⟩
  · obtain ⟨a, xs, rfl, t, r⟩ := rpb_tup h
    exact ⟨a, xs, false, rfl, t.sq, r, ⟨fun e => (by cases e), fun ⟨_, e⟩ => (by cases e)⟩⟩
/-- where it is read again later, it is the same kind at the same place -/
theorem seq_again {K : PySem.W.Frag} {H H2 : Hp} {Z Z2 : AP1} {x : D} {ds : List D} {a : Addr} {b : Bool} (e : seqD x = some ds) (hb : b = true ↔ ∃ l, x = .lst l) (h : RpB K H2 Z2 x (.ref a)) : ∃ xs, SqK K H2 b a xs ∧ RpL K H2 Z2 ds xs := by
  obtain ⟨a2, xs, b2, e2, h1, h2, h3⟩ := seq_at e h
  have e2 : a = a2 := by injection e2
  subst e2
  have : b = b2 := by
    cases b <;> cases b2 <;> simp_all
  subst this
  exact ⟨xs, h1, h2⟩
theorem gi_val {e : E} {tg a : Expr} (h : GE Φ c Γ X e a) : GI Φ c Γ X e tg a := by
  obtain ⟨w, t, p, q⟩ := h
  refine ⟨w, _, pi_any p, fun n σ H Z I x n' ds e1 e2 Q kq => q n σ H Z I x n' e1 _ fun v H' Z' I' kn f vv => ?_⟩
  obtain ⟨a, xs, b, rfl, hs, hr, hb⟩ := seq_at e2 vv.rb
  have again : ∀ {H2 Z2}, Thru X.K Γ (e.bs Γ) n' σ H' Z' H2 Z2 → ∃ xs, SqK X.K H2 b a xs ∧ RpL X.K H2 Z2 ds xs := fun ⟨M, hM, ho, hf, _⟩ => seq_again (H := H') (Z := Z') e2 hb (vv.kp M _ _ hM ho hf)
  refine ⟨a, xs, rfl, ?_⟩
  cases b with
  | true =>
    refine .inl ⟨hs, kq _ H' Z' I' kn f ⟨fun i H2 Z2 th hi => ?_, fun H2 Z2 th => ?_, fun i x H2 Z2 H3 th hi y => ?_⟩⟩
    · obtain ⟨ys, h1, h2⟩ := again th
      obtain ⟨z, hz, _⟩ := h2.get (List.getElem?_eq_getElem hi)
      exact ⟨ys, z, h1, hz⟩
    · obtain ⟨ys, h1, h2⟩ := again th
      exact ⟨ys, h1, Nat.le_of_eq h2.len.symm⟩
    · obtain ⟨ys, h1, h2⟩ := again th
      obtain ⟨z, hz, rz⟩ := h2.get (List.getElem?_eq_getElem hi)
      have := y.2 ys h1
      rw [hz] at this
      cases this
      exact ⟨_, List.getElem?_eq_getElem hi, .inl ⟨y.1, rz⟩⟩
  | false =>
    refine .inr ⟨hs, kq _ H' Z' I' kn f ⟨fun i H2 Z2 th hi => ?_, fun H2 Z2 th => ?_, fun i x H2 Z2 H3 th hi y => ?_⟩⟩
    · obtain ⟨ys, h1, h2⟩ := again th
      obtain ⟨z, hz, _⟩ := h2.get (List.getElem?_eq_getElem hi)
      exact ⟨ys, z, h1, hz⟩
    · obtain ⟨ys, h1, h2⟩ := again th
      exact ⟨ys, h1, Nat.le_of_eq h2.len.symm⟩
    · obtain ⟨ys, h1, h2⟩ := again th
      obtain ⟨z, hz, rz⟩ := h2.get (List.getElem?_eq_getElem hi)
      have := y.2 ys h1
      rw [hz] at this
      cases this
      exact ⟨_, List.getElem?_eq_getElem hi, .inl ⟨y.1, rz⟩⟩
theorem gi_enm (ok : XOk Φ c k X) {e : E} {a : Expr} {p pos tpos : Pos} {elts : List Expr} {kk : Nat} (hg : glB c.sc "enumerate" = true) (h : GE Φ c Γ X e a) (hs : notStar a = true) : GI Φ c Γ X (.enm e) (.Tuple elts kk tpos) (.Call (.Name "enumerate" p) [a] [] pos) := by
  obtain ⟨w, t, pe, q⟩ := h
  refine ⟨by simp only [E.wr]; exact w, _, pi_enumA (gl_of ok hg) (ok.bn _ (by decide)) (pa_cons pe pa_nil (star1 hs)) (star1 hs), fun n σ H Z I x n' ds e1 e2 Q kq => ?_⟩
  simp only [E.den] at e1
  obtain ⟨x0, n1, e3, e1⟩ := ER.bind_eq e1
  obtain ⟨l, n2, e4, e1⟩ := ER.bind_eq e1
  obtain ⟨e5, en⟩ := lift_eq e4
  subst en
  cases e1
  cases e2
  refine q n σ H Z I x0 _ e3 _ fun v H' Z' I' kn f vv => ?_
  obtain ⟨a, xs, b, rfl, hs, hr, hb⟩ := seq_at e5 vv.rb
  have again : ∀ {H2 Z2}, Thru X.K Γ (e.bs Γ) n' σ H' Z' H2 Z2 → ∃ xs, SqK X.K H2 b a xs ∧ RpL X.K H2 Z2 l xs := fun ⟨M, hM, ho, hf, _⟩ => seq_again (H := H') (Z := Z') e5 hb (vv.kp M _ _ hM ho hf)
  refine ⟨b, a, xs, rfl, hs, kq _ H' Z' I' kn (by simp only [E.wr]; exact f) ⟨fun i H2 Z2 th hi => ?_, fun H2 Z2 th => ?_, fun i x H2 Z2 H3 th hi y => ?_⟩⟩
  · obtain ⟨ys, h1, h2⟩ := again th
    rw [enmD_len] at hi
    obtain ⟨z, hz, _⟩ := h2.get (List.getElem?_eq_getElem hi)
    exact ⟨ys, z, h1, hz⟩
  · obtain ⟨ys, h1, h2⟩ := again th
    exact ⟨ys, h1, by rw [enmD_len]; exact h2.len.symm⟩
  · obtain ⟨ys, h1, h2⟩ := again th
    rw [enmD_len] at hi
    obtain ⟨z, hz, rz⟩ := h2.get (List.getElem?_eq_getElem hi)
    obtain ⟨T, u, rfl, hT, rfl, hu⟩ := y
    have := hu ys h1
    rw [hz] at this
    cases this
    refine ⟨.tup [.int ((0 + i : Nat) : Int), l[i]], by rw [enmD_get, List.getElem?_eq_getElem hi]; rfl, .inr ⟨_, _, T, rfl, hT, .cons (by simp only [Rp]; rw [Nat.zero_add]) (.cons rz RpL.nil), rfl, rfl⟩⟩
theorem gi_zip (ok : XOk Φ c k X) {a b : E} {l r : Expr} {p pos tpos : Pos} {elts : List Expr} {kk : Nat} (hg : glB c.sc "zip" = true) (ha : GE Φ c Γ X a l) (hb : GE Φ c Γ X b r) (dj : disj (a.bs Γ) b.wr = true) (s1 : notStar l = true) (s2 : notStar r = true) :
    GI Φ c Γ X (.zip a b) (.Tuple elts kk tpos) (.Call (.Name "zip" p) [l, r] [] pos) := by
  obtain ⟨wa, ta, pa, qa⟩ := ha
  obtain ⟨wb, tb, pb, qb⟩ := hb
  have pA : PA X [l, r] (tCons ta (tCons tb tNil)) := pa_cons pa (pa_cons pb pa_nil (star1 s2)) (star1 s1)
  refine ⟨by simp only [E.wr]; exact wr_app wa wb, _, pi_zipK (gl_of ok hg) (ok.bn _ (by decide)) pA (star1 s1) (by rw [star1 s2]; rfl), fun n σ H Z I x n' ds e1 e2 Q kq => ?_⟩
  simp only [E.den] at e1
  obtain ⟨x1, n1, e3, e1⟩ := ER.bind_eq e1
  obtain ⟨x2, n2, e4, e1⟩ := ER.bind_eq e1
  obtain ⟨l1, n3, e5, e1⟩ := ER.bind_eq e1
  obtain ⟨e6, en⟩ := lift_eq e5
  subst en
  obtain ⟨l2, n4, e7, e1⟩ := ER.bind_eq e1
  obtain ⟨e8, en⟩ := lift_eq e7
  subst en
  cases e1
  cases e2
  refine qa n σ H Z I x1 n1 e3 _ fun v1 H1 Z1 I1 k1 f1 vv1 => qb n1 σ H1 Z1 I1 x2 _ e4 _ fun v2 H2 Z2 I2 k2 f2 vv2 => ?_
  obtain ⟨a1, xs, b1, rfl, hs1, hr1, hb1⟩ := seq_at e6 (vv1.kp b.wr H2 Z2 wb (disj_out dj) f2)
  obtain ⟨a2, ys, b2, rfl, hs2, hr2, hb2⟩ := seq_at e8 vv2.rb
  have again : ∀ {H3 Z3}, Thru X.K Γ (a.bs Γ ++ b.bs Γ) n' σ H2 Z2 H3 Z3 → (∃ xs, SqK X.K H3 b1 a1 xs ∧ RpL X.K H3 Z3 l1 xs) ∧ ∃ ys, SqK X.K H3 b2 a2 ys ∧ RpL X.K H3 Z3 l2 ys := fun ⟨M, hM, ho, hf, _⟩ => by
    refine ⟨seq_again (H := H2) (Z := Z2) e6 hb1 (vv1.kp (b.wr ++ M) _ _ (wr_app wb hM) (fun i hi => ?_) (f2.seq k2 hf)), seq_again (H := H2) (Z := Z2) e8 hb2 (vv2.kp M _ _ hM (fun i hi => ho i (List.mem_append_right _ hi)) hf)⟩
    rw [List.mem_append, not_or]
    exact ⟨disj_out dj i hi, ho i (List.mem_append_left _ hi)⟩
  refine ⟨b1, b2, a1, a2, xs, ys, rfl, hs1, hs2, kq _ H2 Z2 I2 (k1.trans k2) (by simp only [E.wr]; exact f1.seq k1 f2) ⟨fun i H3 Z3 th hi => ?_, fun H3 Z3 th => ?_, fun i x H3 Z3 H4 th hi y => ?_⟩⟩
  · obtain ⟨⟨ys1, h1, h2⟩, ys2, h3, h4⟩ := again th
    rw [zipD_len] at hi
    obtain ⟨z, hz, _⟩ := h2.get (List.getElem?_eq_getElem (show i < l1.length by omega))
    obtain ⟨z2, hz2, _⟩ := h4.get (List.getElem?_eq_getElem (show i < l2.length by omega))
    exact ⟨ys1, ys2, z, z2, h1, h3, hz, hz2⟩
  · obtain ⟨⟨ys1, h1, h2⟩, ys2, h3, h4⟩ := again th
    exact ⟨ys1, ys2, h1, h3, by rw [zipD_len, h2.len, h4.len]⟩
  · obtain ⟨⟨ys1, h1, h2⟩, ys2, h3, h4⟩ := again th
    rw [zipD_len] at hi
    have ea := List.getElem?_eq_getElem (show i < l1.length by omega)
    have eb := List.getElem?_eq_getElem (show i < l2.length by omega)
    obtain ⟨z, hz, rz⟩ := h2.get ea
    obtain ⟨z2, hz2, rz2⟩ := h4.get eb
    obtain ⟨T, u, u2, rfl, hT, rfl, hu, hu2⟩ := y
    have q1 := hu ys1 h1
    rw [hz] at q1
    cases q1
    have q2 := hu2 ys2 h3
    rw [hz2] at q2
    cases q2
    exact ⟨_, zipD_at ea eb, .inr ⟨_, _, T, rfl, hT, .cons rz (.cons rz2 RpL.nil), rfl, rfl⟩⟩
theorem gi_rev (ok : XOk Φ c k X) {e : E} {tg a : Expr} {p pos : Pos} (hg : glB c.sc "reversed" = true) (h : GE Φ c Γ X e a) (hs : notStar a = true) : GI Φ c Γ X (.rev e) tg (.Call (.Name "reversed" p) [a] [] pos) := by
  obtain ⟨w, t, pe, q⟩ := h
  refine ⟨by simp only [E.wr]; exact w, _, RT.pi_revA (gl_of ok hg) (ok.bn _ (by decide)) pe (star1 hs), fun n σ H Z I x n' ds e1 e2 Q kq => ?_⟩
  simp only [E.den] at e1
  obtain ⟨x0, n1, e3, e1⟩ := ER.bind_eq e1
  obtain ⟨l, n2, e4, e1⟩ := ER.bind_eq e1
  obtain ⟨e5, en⟩ := lift_eq e4
  subst en
  cases e1
  cases e2
  refine q n σ H Z I x0 _ e3 _ fun v H' Z' I' kn f vv => ?_
  obtain ⟨a, xs, b, rfl, hs, hr, hb⟩ := seq_at e5 vv.rb
  have hl := hr.len
  have again : ∀ {H2 Z2}, Thru X.K Γ (e.bs Γ) n' σ H' Z' H2 Z2 → ∃ xs, SqK X.K H2 b a xs ∧ RpL X.K H2 Z2 l xs := fun ⟨M, hM, ho, hf, _⟩ => seq_again (H := H') (Z := Z') e5 hb (vv.kp M _ _ hM ho hf)
  have rv : ∀ {i : Nat}, i < l.length → l.reverse[i]? = l[xs.length - 1 - i]? := fun hi => by rw [List.getElem?_reverse hi, hl]
  refine ⟨a, xs, rfl, ?_⟩
  cases b with
  | true =>
    refine .inl ⟨hs, kq _ H' Z' I' kn (by simp only [E.wr]; exact f) ⟨fun i H2 Z2 th hi => ?_, fun H2 Z2 th => ?_, fun i x H2 Z2 H3 th hi y => ?_⟩⟩
    · obtain ⟨ys, h1, h2⟩ := again th
      rw [List.length_reverse] at hi
      obtain ⟨z, hz, _⟩ := h2.get (List.getElem?_eq_getElem (show xs.length - 1 - i < l.length by omega))
      exact ⟨by omega, ys, z, h1, hz⟩
    · show xs.length ≤ _
      rw [List.length_reverse, hl]; exact Nat.le_refl _
    · obtain ⟨ys, h1, h2⟩ := again th
      rw [List.length_reverse] at hi
      have ei := List.getElem?_eq_getElem (show xs.length - 1 - i < l.length by omega)
      obtain ⟨z, hz, rz⟩ := h2.get ei
      have := y.2 ys h1
      rw [hz] at this
      cases this
      exact ⟨_, (rv hi).trans ei, .inl ⟨y.1, rz⟩⟩
  | false =>
    refine .inr ⟨hs, kq _ H' Z' I' kn (by simp only [E.wr]; exact f) ⟨fun i H2 Z2 th hi => ?_, fun H2 Z2 th => ?_, fun i x H2 Z2 H3 th hi y => ?_⟩⟩
    · obtain ⟨ys, h1, h2⟩ := again th
      rw [List.length_reverse] at hi
      obtain ⟨z, hz, _⟩ := h2.get (List.getElem?_eq_getElem (show xs.length - 1 - i < l.length by omega))
      exact ⟨by omega, ys, z, h1, hz⟩
    · show xs.length ≤ _
      rw [List.length_reverse, hl]; exact Nat.le_refl _
    · obtain ⟨ys, h1, h2⟩ := again th
      rw [List.length_reverse] at hi
      have ei := List.getElem?_eq_getElem (show xs.length - 1 - i < l.length by omega)
      obtain ⟨z, hz, rz⟩ := h2.get ei
      have := y.2 ys h1
      rw [hz] at this
      cases this
      exact ⟨_, (rv hi).trans ei, .inl ⟨y.1, rz⟩⟩
theorem walkR {K : PySem.W.Frag} {b : List Nat} {n : Env} {σ : L2.St} {H : Hp} {Z : AP1} {i : Int} {m : Nat} : WalkV K Γ b n σ H Z (Itr i m) ((List.range m).map fun k : Nat => D.int (i + (k : Int))) := by
  have hl : ((List.range m).map fun k : Nat => D.int (i + (k : Int))).length = m := by simp
  refine ⟨fun j H2 Z2 th hj => by rw [hl] at hj; exact hj, fun H2 Z2 th => by rw [hl]; exact Nat.le_refl _, fun j x H2 Z2 H3 th hj y => ?_⟩
  rw [hl] at hj
  refine ⟨.int (i + (j : Int)), by rw [List.getElem?_map, List.getElem?_range hj]; rfl, .inl ⟨y.1, by simp only [Rp]; exact y.2⟩⟩
theorem rngD_ok {x y : D} {l : List D} (h : rngD x y = some l) : ∃ i j : Int, x = .int i ∧ y = .int j ∧ (-(2 ^ 62) ≤ i ∧ i < 2 ^ 62 ∧ -(2 ^ 62) ≤ j ∧ j < 2 ^ 62) ∧ (j - i).toNat ≤ 2 ^ 24 ∧ l = (List.range (j - i).toNat).map fun k : Nat => D.int (i + (k : Int)) := by
  unfold rngD at h
  split at h
  · rename_i i j
    split at h
    · rename_i hz
      cases h
      refine ⟨i, j, rfl, rfl, ?_, hz.2.2, rfl⟩
      have h1 : i.natAbs < 2 ^ 60 := hz.1
      have h2 : j.natAbs < 2 ^ 60 := hz.2.1
      omega
    · cases h
  · cases h
theorem gi_rng1 (ok : XOk Φ c k X) {e : E} {tg a : Expr} {p pos : Pos} (hg : glB c.sc "range" = true) (h : GE Φ c Γ X e a) (hs : notStar a = true) : GI Φ c Γ X (.rng .no e) tg (.Call (.Name "range" p) [a] [] pos) := by
  obtain ⟨w, t, pe, q⟩ := h
  refine ⟨by simp only [E.wr, List.nil_append]; exact w, _, pi_range1 (gl_of ok hg) (ok.bn _ (by decide)) (pa_cons pe pa_nil (star1 hs)) (star1 hs), fun n σ H Z I x n' ds e1 e2 Q kq => ?_⟩
  simp only [E.den, optR, ER.bind_ok] at e1
  obtain ⟨y, n1, e3, e1⟩ := ER.bind_eq e1
  obtain ⟨e4, en⟩ := lift_eq e1
  subst en
  obtain ⟨l, e5, rfl⟩ := Option.map_eq_some_iff.mp e4
  cases e2
  obtain ⟨i, j, ei, rfl, hb, _, rfl⟩ := rngD_ok e5
  cases ei
  refine q n σ H Z I _ _ e3 _ fun v H' Z' I' kn f vv => ⟨j, by rw [rpb_int vv.rb], hb.2.2.1, hb.2.2.2, ?_⟩
  refine kq _ H' Z' I' kn (by simp only [E.wr, List.nil_append]; exact f) ?_
  have := walkR (K := X.K) (Γ := Γ) (b := (E.rng .no e).bs Γ) (n := n1) (σ := σ) (H := H') (Z := Z') (i := 0) (m := (j - 0).toNat)
  simpa using this
theorem gi_rng2 (ok : XOk Φ c k X) {e0 e : E} {tg a0 a : Expr} {p pos : Pos} (hn : e0.isNo = false) (hg : glB c.sc "range" = true) (h0 : GE Φ c Γ X e0 a0) (h : GE Φ c Γ X e a) (hs0 : notStar a0 = true) (hs : notStar a = true) : GI Φ c Γ X (.rng e0 e) tg (.Call (.Name "range" p) [a0, a] [] pos) := by
  obtain ⟨w0, t0, pe0, q0⟩ := h0
  obtain ⟨w, t, pe, q⟩ := h
  refine ⟨by simp only [E.wr]; exact wr_app w0 w, _, pi_range2 (gl_of ok hg) (ok.bn _ (by decide)) (pa_cons pe0 (pa_cons pe pa_nil (star1 hs)) (star1 hs0)) (by rw [star1 hs0, star1 hs]; rfl) (star1 hs), fun n σ H Z I x n' ds e1 e2 Q kq => ?_⟩
  simp only [E.den] at e1
  obtain ⟨x0, n0, e0', e1⟩ := ER.bind_eq e1
  obtain ⟨i0, e0'', rfl⟩ := opt_ok hn e0'
  obtain ⟨y, n1, e3, e1⟩ := ER.bind_eq e1
  obtain ⟨e4, en⟩ := lift_eq e1
  subst en
  obtain ⟨l, e5, rfl⟩ := Option.map_eq_some_iff.mp e4
  cases e2
  obtain ⟨i, j, ei, rfl, hb, _, rfl⟩ := rngD_ok e5
  cases ei
  refine q0 n σ H Z I _ n0 e0'' _ fun v0 H0 Z0 I0 k0 f0 vv0 => q n0 σ H0 Z0 I0 _ _ e3 _ fun v H' Z' I' kn f vv => ⟨i0, j, by rw [rpb_int vv.rb, rpb_int vv0.rb], hb, ?_⟩
  exact kq _ H' Z' I' (k0.trans kn) (by simp only [E.wr]; exact f0.seq k0 f) walkR
/-- a range as it is written -/
structure GR (Φ : Fns) (c : Cx0) (Γ : List Fg) (X : Cx) (e0 e : E) (a : Expr) : Prop where
  wr : ∀ j ∈ e0.wr ++ e.wr, flag Γ j = .own
  pr : ∃ t, PRg X a t ∧ ∀ n σ H Z, SI X.K Γ n σ H Z → ∀ x n0, optR e0 (e0.den Φ n) n = .ok x n0 → ∀ y n', e.den Φ n0 = .ok y n' → ∀ l, rngD (nz x) y = some l → ∀ Q : Int → Int → Hp → Prop,
    (∀ i j H' Z', SI X.K Γ n' σ H' Z' → KN n n' → Fr (Adr (e0.wr ++ e.wr) n σ) H Z H' Z' → nz x = .int i → y = .int j → Q i j H') → t σ H Q
theorem gr1 (ok : XOk Φ c k X) {e : E} {a : Expr} {p pos : Pos} (hg : glB c.sc "range" = true) (h : GE Φ c Γ X e a) (hs : notStar a = true) : GR Φ c Γ X .no e (.Call (.Name "range" p) [a] [] pos) := by
  obtain ⟨w, t, pe, q⟩ := h
  refine ⟨by simp only [E.wr, List.nil_append]; exact w, _, prg_1 (gl_of ok hg) (ok.bn _ (by decide)) pe (star1 hs), fun n σ H Z I x n0 e0 y n' e1 l el Q kq => ?_⟩
  simp only [optR, ER.ok.injEq] at e0
  obtain ⟨rfl, rfl⟩ := e0
  obtain ⟨i, j, ei, rfl, hb, _, rfl⟩ := rngD_ok el
  refine q n σ H Z I _ _ e1 _ fun v H' Z' I' kn f vv => ⟨j, rpb_int vv.rb, kq 0 j H' Z' I' kn ?_ rfl rfl⟩
  simp only [E.wr, List.nil_append]; exact f
theorem gr2 (ok : XOk Φ c k X) {e0 e : E} {a0 a : Expr} {p pos : Pos} (hn : e0.isNo = false) (hg : glB c.sc "range" = true) (h0 : GE Φ c Γ X e0 a0) (h : GE Φ c Γ X e a) (hs0 : notStar a0 = true) (hs : notStar a = true) : GR Φ c Γ X e0 e (.Call (.Name "range" p) [a0, a] [] pos) := by
  obtain ⟨w0, t0, pe0, q0⟩ := h0
  obtain ⟨w, t, pe, q⟩ := h
  refine ⟨wr_app w0 w, _, prg_2 (gl_of ok hg) (ok.bn _ (by decide)) pe0 pe (star1 hs0) (star1 hs) (by rw [star1 hs]; rfl), fun n σ H Z I x n0 e0' y n' e1 l el Q kq => ?_⟩
  obtain ⟨i0, e0'', rfl⟩ := opt_ok hn e0'
  obtain ⟨i, j, ei, rfl, hb, _, rfl⟩ := rngD_ok el
  cases ei
  refine q0 n σ H Z I _ n0 e0'' _ fun v0 H0 Z0 I0 k0 f0 vv0 => q n0 σ H0 Z0 I0 _ _ e1 _ fun v H' Z' I' kn f vv => ⟨i0, j, ?_, rpb_int vv.rb, kq i0 j H' Z' I' (k0.trans kn) (f0.seq k0 f) rfl rfl⟩
  exact rpb_int (vv0.rb)
theorem rl_rg {K : PySem.W.Frag} {H : Hp} {Z : AP1} {i j : Int} : RpL K H Z ((List.range (j - i).toNat).map fun k : Nat => D.int (i + (k : Int))) (rgV i j) := by
  unfold rgV
  refine RpL.of_get (by simp) fun m d hd => ?_
  rw [List.getElem?_map] at hd
  obtain ⟨x, hx, rfl⟩ := Option.map_eq_some_iff.mp hd
  exact ⟨.int (i + (x : Nat)), by rw [List.getElem?_map, hx]; rfl, by simp only [Rp]⟩
theorem ge_tr (ok : XOk Φ c k X) {e0 e : E} {a : Expr} {p pos : Pos} (hg : glB c.sc "tuple" = true) (h : GR Φ c Γ X e0 e a) (hs : notStar a = true) : GE Φ c Γ X (.tr e0 e) (.Call (.Name "tuple" p) [a] [] pos) := by
  obtain ⟨w, t, pr, q⟩ := h
  refine ⟨by simp only [E.wr]; exact w, _, pe_tupRg ok.calm (gl_of ok hg) (ok.bn _ (by decide)) pr (star1 hs), fun n σ H Z I d n' e1 Q kq => ?_⟩
  simp only [E.den] at e1
  obtain ⟨x, n0, e2, e1⟩ := ER.bind_eq e1
  obtain ⟨y, n1, e3, e1⟩ := ER.bind_eq e1
  obtain ⟨e4, en⟩ := lift_eq e1
  subst en
  obtain ⟨l, e5, rfl⟩ := Option.map_eq_some_iff.mp e4
  refine q n σ H Z I x n0 e2 y _ e3 l e5 _ fun i j H' Z' I' kn f ex ey => ?_
  obtain ⟨i2, j2, ei, ej, hb, hbig, rfl⟩ := rngD_ok e5
  rw [ex] at ei; cases ei
  rw [ey] at ej; cases ej
  refine ⟨⟨hb.1, hb.2.1, hb.2.2.1, hb.2.2.2, hbig⟩, fun r hr => ?_⟩
  simp only [E.wr] at kq
  exact made_end I I' kn f (adr_some I w) kq _ _ _ (.tup rfl hr rl_rg)
theorem gi_rvr (ok : XOk Φ c k X) {e0 e : E} {tg a : Expr} {p pos : Pos} (hg : glB c.sc "reversed" = true) (h : GR Φ c Γ X e0 e a) (hs : notStar a = true) : GI Φ c Γ X (.rvr e0 e) tg (.Call (.Name "reversed" p) [a] [] pos) := by
  obtain ⟨w, t, pr, q⟩ := h
  refine ⟨by simp only [E.wr]; exact w, _, pi_revR (gl_of ok hg) (ok.bn _ (by decide)) pr (star1 hs), fun n σ H Z I x n' ds e1 e2 Q kq => ?_⟩
  simp only [E.den] at e1
  obtain ⟨x0, n0, e3, e1⟩ := ER.bind_eq e1
  obtain ⟨y, n1, e4, e1⟩ := ER.bind_eq e1
  obtain ⟨e5, en⟩ := lift_eq e1
  subst en
  obtain ⟨l, e6, rfl⟩ := Option.map_eq_some_iff.mp e5
  cases e2
  refine q n σ H Z I x0 n0 e3 y _ e4 l e6 _ fun i j H' Z' I' kn f ex ey => ?_
  obtain ⟨i2, j2, ei, ej, hb, hbig, rfl⟩ := rngD_ok e6
  rw [ex] at ei; cases ei
  rw [ey] at ej; cases ej
  refine ⟨hb.1, hb.2.1, hb.2.2.1, hb.2.2.2, kq _ H' Z' I' kn (by simp only [E.wr]; exact f) ?_⟩
  have hl : ((List.range (j - i).toNat).map fun k : Nat => D.int (i + (k : Int))).reverse.length = (j - i).toNat := by simp
  refine ⟨fun m H2 Z2 th hm => by rw [hl] at hm; exact hm, fun H2 Z2 th => by rw [hl]; exact Nat.le_refl _, fun m v H2 Z2 H3 th hm y => ?_⟩
  rw [hl] at hm
  refine ⟨.int (i + (((j - i).toNat : Nat) : Int) - 1 + (m : Nat) * (-1)), ?_, .inl ⟨y.1, by simp only [Rp]; exact y.2⟩⟩
  rw [List.getElem?_reverse (by simpa using hm), List.getElem?_map, List.length_map, List.length_range, List.getElem?_range (by omega)]
  show some (D.int _) = _
  congr 2
  omega
end
end Sc
namespace Sc
open PySem PySem.Spec PyProof.Rows L2
theorem zip3D_len : ∀ l m q : List D, (zip3D l m q).length = min (min l.length m.length) q.length
  | [], _, _ => by simp [zip3D]
  | _ :: _, [], _ => by simp [zip3D]
  | _ :: _, _ :: _, [] => by simp [zip3D]
  | a :: r, b :: s, d :: t => by simp only [zip3D, List.length_cons, zip3D_len r s t]; omega
theorem zip3D_at : ∀ {l m q : List D} {i : Nat} {a b d : D}, l[i]? = some a → m[i]? = some b → q[i]? = some d → (zip3D l m q)[i]? = some (.tup [a, b, d])
  | [], _, _, _, _, _, _, h, _, _ => by simp at h
  | _ :: _, [], _, _, _, _, _, _, k, _ => by simp at k
  | _ :: _, _ :: _, [], _, _, _, _, _, _, j => by simp at j
  | x :: r, y :: s, z :: t, 0, a, b, d, h, k, j => by
    simp at h k j
    subst h k j
    rfl
  | x :: r, y :: s, z :: t, i + 1, a, b, d, h, k, j => by
    have := zip3D_at (l := r) (m := s) (q := t) (i := i) (by simpa using h) (by simpa using k) (by simpa using j)
    simpa [zip3D] using this
section
variable {Φ : Fns} {c : Cx0} {Γ : List Fg} {X : Cx} {k : Nat}
theorem gi_zp3 (ok : XOk Φ c k X) {a b g : E} {l r s : Expr} {p pos tpos : Pos} {elts : List Expr} {kk : Nat} (hg : glB c.sc "zip" = true) (ha : GE Φ c Γ X a l) (hb : GE Φ c Γ X b r) (hd : GE Φ c Γ X g s) (dj : disj (a.bs Γ) (b.wr ++ g.wr) = true) (dj2 : disj (b.bs Γ) g.wr = true) (s1 : notStar l = true) (s2 : notStar r = true) (s3 : notStar s = true) :
    GI Φ c Γ X (.zp3 a b g) (.Tuple elts kk tpos) (.Call (.Name "zip" p) [l, r, s] [] pos) := by
  obtain ⟨wa, ta, pa, qa⟩ := ha
  obtain ⟨wb, tb, pb, qb⟩ := hb
  obtain ⟨wd, td, pd, qd⟩ := hd
  have pA : PA X [l, r, s] (tCons ta (tCons tb (tCons td tNil))) := pa_cons pa (pa_cons pb (pa_cons pd pa_nil (star1 s3)) (star1 s2)) (star1 s1)
  refine ⟨by simp only [E.wr]; exact wr_app wa (wr_app wb wd), _, pi_zip3 (gl_of ok hg) (ok.bn _ (by decide)) pA (star1 s1) (by rw [star1 s2, star1 s3]; rfl), fun n σ H Z I x n' ds e1 e2 Q kq => ?_⟩
  simp only [E.den] at e1
  obtain ⟨x1, n1, e3, e1⟩ := ER.bind_eq e1
  obtain ⟨x2, n2, e4, e1⟩ := ER.bind_eq e1
  obtain ⟨x3, n3, e5, e1⟩ := ER.bind_eq e1
  obtain ⟨l1, n4, h1, e1⟩ := ER.bind_eq e1
  obtain ⟨e6, en⟩ := lift_eq h1
  subst en
  obtain ⟨l2, n5, h2, e1⟩ := ER.bind_eq e1
  obtain ⟨e7, en⟩ := lift_eq h2
  subst en
  obtain ⟨l3, n6, h3, e1⟩ := ER.bind_eq e1
  obtain ⟨e8, en⟩ := lift_eq h3
  subst en
  cases e1
  cases e2
  refine qa n σ H Z I x1 n1 e3 _ fun v1 H1 Z1 I1 k1 f1 vv1 => qb n1 σ H1 Z1 I1 x2 n2 e4 _ fun v2 H2 Z2 I2 k2 f2 vv2 => qd n2 σ H2 Z2 I2 x3 _ e5 _ fun v3 H3 Z3 I3 k3 f3 vv3 => ?_
  obtain ⟨a1, xs, b1, rfl, hs1, hr1, hb1⟩ := seq_at e6 (vv1.kp (b.wr ++ g.wr) H3 Z3 (wr_app wb wd) (disj_out dj) (f2.seq k2 f3))
  obtain ⟨a2, ys, b2, rfl, hs2, hr2, hb2⟩ := seq_at e7 (vv2.kp g.wr H3 Z3 wd (disj_out dj2) f3)
  obtain ⟨a3, us, b3, rfl, hs3, hr3, hb3⟩ := seq_at e8 vv3.rb
  have again : ∀ {H4 Z4}, Thru X.K Γ (a.bs Γ ++ (b.bs Γ ++ g.bs Γ)) n' σ H3 Z3 H4 Z4 → (∃ xs, SqK X.K H4 b1 a1 xs ∧ RpL X.K H4 Z4 l1 xs) ∧ (∃ ys, SqK X.K H4 b2 a2 ys ∧ RpL X.K H4 Z4 l2 ys) ∧ ∃ us, SqK X.K H4 b3 a3 us ∧ RpL X.K H4 Z4 l3 us := fun ⟨M, hM, ho, hf, _⟩ => by
    refine ⟨seq_again (H := H3) (Z := Z3) e6 hb1 (vv1.kp ((b.wr ++ g.wr) ++ M) _ _ (wr_app (wr_app wb wd) hM) (fun i hi => ?_) ((f2.seq k2 f3).seq (k2.trans k3) hf)), seq_again (H := H3) (Z := Z3) e7 hb2 (vv2.kp (g.wr ++ M) _ _ (wr_app wd hM) (fun i hi => ?_) (f3.seq k3 hf)), seq_again (H := H3) (Z := Z3) e8 hb3 (vv3.kp M _ _ hM (fun i hi => ho i (List.mem_append_right _ (List.mem_append_right _ hi))) hf)⟩
    · rw [List.mem_append, not_or]
      exact ⟨disj_out dj i hi, ho i (List.mem_append_left _ hi)⟩
    · rw [List.mem_append, not_or]
      exact ⟨disj_out dj2 i hi, ho i (List.mem_append_right _ (List.mem_append_left _ hi))⟩
  refine ⟨b1, b2, b3, a1, a2, a3, xs, ys, us, rfl, hs1, hs2, hs3, kq _ H3 Z3 I3 (k1.trans (k2.trans k3)) (by simp only [E.wr]; exact f1.seq k1 (f2.seq k2 f3)) ⟨fun i H4 Z4 th hi => ?_, fun H4 Z4 th => ?_, fun i x H4 Z4 H5 th hi y => ?_⟩⟩
  · obtain ⟨⟨ys1, h1, h2⟩, ⟨ys2, h3, h4⟩, ys3, h5, h6⟩ := again th
    rw [zip3D_len] at hi
    obtain ⟨z, hz, _⟩ := h2.get (List.getElem?_eq_getElem (show i < l1.length by omega))
    obtain ⟨z2, hz2, _⟩ := h4.get (List.getElem?_eq_getElem (show i < l2.length by omega))
    obtain ⟨z3, hz3, _⟩ := h6.get (List.getElem?_eq_getElem (show i < l3.length by omega))
    exact ⟨ys1, ys2, ys3, z, z2, z3, h1, h3, h5, hz, hz2, hz3⟩
  · obtain ⟨⟨ys1, h1, h2⟩, ⟨ys2, h3, h4⟩, ys3, h5, h6⟩ := again th
    exact ⟨ys1, ys2, ys3, h1, h3, h5, by rw [zip3D_len, h2.len, h4.len, h6.len]⟩
  · obtain ⟨⟨ys1, h1, h2⟩, ⟨ys2, h3, h4⟩, ys3, h5, h6⟩ := again th
    rw [zip3D_len] at hi
    have ea := List.getElem?_eq_getElem (show i < l1.length by omega)
    have eb := List.getElem?_eq_getElem (show i < l2.length by omega)
    have ec := List.getElem?_eq_getElem (show i < l3.length by omega)
    obtain ⟨z, hz, rz⟩ := h2.get ea
    obtain ⟨z2, hz2, rz2⟩ := h4.get eb
    obtain ⟨z3, hz3, rz3⟩ := h6.get ec
    obtain ⟨T, u, u2, u3, rfl, hT, rfl, hu, hu2, hu3⟩ := y
    have q1 := hu ys1 h1
    rw [hz] at q1
    cases q1
    have q2 := hu2 ys2 h3
    rw [hz2] at q2
    cases q2
    have q3 := hu3 ys3 h5
    rw [hz3] at q3
    cases q3
    exact ⟨_, zip3D_at ea eb ec, .inr ⟨_, _, T, rfl, hT, .cons rz (.cons rz2 (.cons rz3 RpL.nil)), rfl, rfl⟩⟩
theorem rdnD_ok {y : D} {l : List D} (h : rdnD y = some l) : ∃ i : Int, y = .int i ∧ i.natAbs < 2 ^ 60 ∧ l = (List.range i.toNat).map fun k : Nat => .int (i - (k : Int)) := by
  unfold rdnD at h
  split at h
  · rename_i i
    split at h
    · rename_i hz
      cases h
      exact ⟨i, rfl, hz.1, rfl⟩
    · cases h
  · cases h
theorem gi_rdn (ok : XOk Φ c k X) {e : E} {tg a : Expr} {p pos p1 p2 p3 : Pos} {j1 j2 : Nat} (hg : glB c.sc "range" = true) (h : GE Φ c Γ X e a) (hs : notStar a = true) : GI Φ c Γ X (.rdn e) tg (.Call (.Name "range" p) [a, .Constant (.int 0) j1 p1, .UnaryOp .USub (.Constant (.int 1) j2 p2) p3] [] pos) := by
  obtain ⟨w, t, pe, q⟩ := h
  obtain ⟨wb, tb, pb, qb⟩ := ge_cst (Γ := Γ) (d := .int 0) (a := .Constant (.int 0) j1 p1) ok rfl
  obtain ⟨wd, td, pd, qd⟩ := ge_neg (p := p3) (ge_cst (Γ := Γ) (d := .int 1) (a := .Constant (.int 1) j2 p2) ok rfl)
  have pA : PA X [a, .Constant (.int 0) j1 p1, .UnaryOp .USub (.Constant (.int 1) j2 p2) p3] (tCons t (tCons tb (tCons td tNil))) := pa_cons pe (pa_cons pb (pa_cons pd pa_nil (star1 rfl)) (star1 rfl)) (star1 hs)
  refine ⟨by simp only [E.wr]; exact w, _, pi_range3 (gl_of ok hg) (ok.bn _ (by decide)) pA (star1 hs) (by rw [star1 rfl, star1 rfl]; rfl), fun n σ H Z I x n' ds e1 e2 Q kq => ?_⟩
  simp only [E.den] at e1
  obtain ⟨y, n1, e3, e1⟩ := ER.bind_eq e1
  obtain ⟨e4, en⟩ := lift_eq e1
  subst en
  obtain ⟨l, e5, rfl⟩ := Option.map_eq_some_iff.mp e4
  cases e2
  obtain ⟨i, rfl, hb, rfl⟩ := rdnD_ok e5
  refine q n σ H Z I _ _ e3 _ fun v H1 Z1 I1 k1 f1 vv => qb n1 σ H1 Z1 I1 (.int 0) n1 rfl _ fun v2 H2 Z2 I2 k2 f2 vv2 => qd n1 σ H2 Z2 I2 (.int (-1)) n1 rfl _ fun v3 H3 Z3 I3 k3 f3 vv3 => ?_
  have q1 := vv.kp [] H3 Z3 (fun _ h => by cases h) (fun _ _ h => by cases h) ((f2.mono (fun p w => w.nil.elim)).trans (f3.mono (fun p w => w.nil.elim)) (fun p w => .inl w) (fun p w => .inl w))
  have e1 : v = .int i := rpb_int q1
  have e2 : v2 = .int 0 := rpb_int (vv2.kp [] H3 Z3 (fun _ h => by cases h) (fun _ _ h => by cases h) (f3.mono (fun p w => w.nil.elim)))
  have e3 : v3 = .int (-1) := rpb_int vv3.rb
  refine ⟨i, 0, -1, i.toNat, by rw [e1, e2, e3], ?_, ?_⟩
  · have := RgC.neg (i := i) (j := 0) (by omega) (by omega) (by decide) (by decide)
    rwa [Int.sub_zero] at this
  · refine kq _ H3 Z3 I3 (k1.trans (k2.trans k3)) ?_ ?_
    · simp only [E.wr]
      exact (f1.trans (f2.mono (W' := Adr e.wr n σ) (fun p w => w.nil.elim)) (fun p w => .inl w) (fun p w => .inl w)).trans (f3.mono (W' := Adr e.wr n σ) (fun p w => w.nil.elim)) (fun p w => .inl w) (fun p w => .inl w)
    have hl : ((List.range i.toNat).map fun k : Nat => D.int (i - (k : Int))).length = i.toNat := by simp
    refine ⟨fun m H2 Z2 th hm => by rw [hl] at hm; exact hm, fun H2 Z2 th => by rw [hl]; exact Nat.le_refl _, fun m v H2 Z2 H3 th hm y => ?_⟩
    rw [hl] at hm
    refine ⟨.int (i + (m : Nat) * (-1)), ?_, .inl ⟨y.1, by simp only [Rp]; exact y.2⟩⟩
    rw [List.getElem?_map, List.getElem?_range hm]
    show some (D.int _) = _
    congr 2
    omega
theorem asZ3_inv {a : Expr} {q : Z3K} (h : asZ3 a = some q) : ∃ p p2, a = .Call (.Name q.x p2) [q.l, q.r, q.s] [] p := by
  unfold asZ3 at h
  split at h
  · cases h; exact ⟨_, _, rfl⟩
  · cases h
theorem asRd_inv {a : Expr} {q : RdK} (h : asRd a = some q) : ∃ p p2 p3 p4 p5 j1 j2, a = .Call (.Name q.x p2) [q.l, .Constant (.int 0) j1 p3, .UnaryOp .USub (.Constant (.int 1) j2 p4) p5] [] p := by
  unfold asRd at h
  split at h
  · cases h; exact ⟨_, _, _, _, _, _, _, rfl⟩
  · cases h
end
end Sc
namespace Sc
open PySem PySem.Spec PyProof.Rows L2
/-! ### comprehensions of two fors, the second over a range -/
structure FreeW (J : It) (ds : List D) : Prop where
  go : ∀ i H, i < ds.length → J.go i H
  stop : ∀ H, J.stop ds.length H
  yld : ∀ i x H H', i < ds.length → J.yld i H x H' → H' = H ∧ ∃ k : Int, ds[i]? = some (.int k) ∧ x = .int k
theorem freeR {i : Int} {m : Nat} : FreeW (Itr i m) ((List.range m).map fun k : Nat => D.int (i + (k : Int))) := by
  have hl : ((List.range m).map fun k : Nat => D.int (i + (k : Int))).length = m := by simp
  refine ⟨fun j H hj => by rw [hl] at hj; exact hj, fun H => by rw [hl]; exact Nat.le_refl _, fun j x H H' hj y => ?_⟩
  rw [hl] at hj
  refine ⟨y.1, i + (j : Int), ?_, y.2⟩
  rw [List.getElem?_map, List.getElem?_range hj]; rfl
def tI (Φ : Fns) (Γ : List Fg) (K : PySem.W.Frag) (e : E) : TI := fun σ H Q => ∃ n Z x n' ds, SI K Γ n σ H Z ∧ e.den Φ n = .ok x n' ∧ seqD x = some ds ∧ ∀ J H' Z', SI K Γ n' σ H' Z' → KN n n' → Fr (Adr e.wr n σ) H Z H' Z' → FreeW J ds → Q J H'
section
variable {Φ : Fns} {c : Cx0} {Γ : List Fg} {X : Cx} {k : Nat}
theorem pi_mono {tg a : Expr} {wi wi' : TI} (p : PI X tg a wi) (h : ∀ σ H Q, wi' σ H Q → wi σ H Q) : PI X tg a wi' := ⟨fun pins s σ H R I q => p.run pins s σ H R I (h _ _ _ q)⟩
theorem gf_rng1 (ok : XOk Φ c k X) {e : E} {tg a : Expr} {p pos : Pos} (hg : glB c.sc "range" = true) (h : GE Φ c Γ X e a) (hs : notStar a = true) : PI X tg (.Call (.Name "range" p) [a] [] pos) (tI Φ Γ X.K (.rng .no e)) := by
  obtain ⟨w, t, pe, q⟩ := h
  refine pi_mono (pi_range1 (gl_of ok hg) (ok.bn _ (by decide)) (pa_cons pe pa_nil (star1 hs)) (star1 hs)) fun σ H Q ⟨n, Z, x, n', ds, I, e1, e2, kq⟩ => ?_
  simp only [E.den, optR, ER.bind_ok] at e1
  obtain ⟨y, n1, e3, e1⟩ := ER.bind_eq e1
  obtain ⟨e4, en⟩ := lift_eq e1
  subst en
  obtain ⟨l, e5, rfl⟩ := Option.map_eq_some_iff.mp e4
  cases e2
  obtain ⟨i, j, ei, rfl, hb, _, rfl⟩ := rngD_ok e5
  cases ei
  refine q n σ H Z I _ _ e3 _ fun v H' Z' I' kn f vv => ⟨j, by rw [rpb_int vv.rb], hb.2.2.1, hb.2.2.2, ?_⟩
  refine kq _ H' Z' I' kn (by simp only [E.wr, List.nil_append]; exact f) ?_
  have := freeR (i := 0) (m := (j - 0).toNat)
  simpa using this
theorem gf_rng2 (ok : XOk Φ c k X) {e0 e : E} {tg a0 a : Expr} {p pos : Pos} (hn : e0.isNo = false) (hg : glB c.sc "range" = true) (h0 : GE Φ c Γ X e0 a0) (h : GE Φ c Γ X e a) (hs0 : notStar a0 = true) (hs : notStar a = true) : PI X tg (.Call (.Name "range" p) [a0, a] [] pos) (tI Φ Γ X.K (.rng e0 e)) := by
  obtain ⟨w0, t0, pe0, q0⟩ := h0
  obtain ⟨w, t, pe, q⟩ := h
  refine pi_mono (pi_range2 (gl_of ok hg) (ok.bn _ (by decide)) (pa_cons pe0 (pa_cons pe pa_nil (star1 hs)) (star1 hs0)) (by rw [star1 hs0, star1 hs]; rfl) (star1 hs)) fun σ H Q ⟨n, Z, x, n', ds, I, e1, e2, kq⟩ => ?_
  simp only [E.den] at e1
  obtain ⟨x0, n0, e0', e1⟩ := ER.bind_eq e1
  obtain ⟨i0, e0'', rfl⟩ := opt_ok hn e0'
  obtain ⟨y, n1, e3, e1⟩ := ER.bind_eq e1
  obtain ⟨e4, en⟩ := lift_eq e1
  subst en
  obtain ⟨l, e5, rfl⟩ := Option.map_eq_some_iff.mp e4
  cases e2
  obtain ⟨i, j, ei, rfl, hb, _, rfl⟩ := rngD_ok e5
  cases ei
  refine q0 n σ H Z I _ n0 e0'' _ fun v0 H0 Z0 I0 k0 f0 vv0 => q n0 σ H0 Z0 I0 _ _ e3 _ fun v H' Z' I' kn f vv => ⟨i0, j, by rw [rpb_int vv.rb, rpb_int vv0.rb], hb, ?_⟩
  exact kq _ H' Z' I' (k0.trans kn) (by simp only [E.wr]; exact f0.seq k0 f) freeR
/-- turns -/
theorem it_turns {J : It} {n : Nat} {St : V → Hp → (Hp → Prop) → Prop} {H0 : Hp} {Qd : Hp → Prop} (Pv : Nat → Hp → Prop) (h0 : Pv 0 H0) (go : ∀ i H, i < n → Pv i H → J.go i H) (stop : ∀ H, Pv n H → J.stop n H)
    (hs : ∀ i x H H', i < n → Pv i H → J.yld i H x H' → St x H' (Pv (i + 1))) (hd : ∀ H, Pv n H → Qd H) :
    ∃ W : Nat → Nat → Hp → Prop, (∃ m, W 0 m H0) ∧ ∀ i m H, W i m H → (J.stop i H ∧ Qd H) ∨ (J.go i H ∧ ∃ Nx : Hp → Prop, (∀ H', Nx H' → ∃ m', m' < m ∧ W (i + 1) m' H') ∧ ∀ x H', J.yld i H x H' → St x H' Nx) := by
  refine ⟨fun i m H => m = n - i ∧ i ≤ n ∧ Pv i H, ⟨n, by simp, Nat.zero_le _, h0⟩, ?_⟩
  rintro i m H ⟨rfl, hi, p⟩
  by_cases hlt : i < n
  · exact .inr ⟨go i H hlt p, Pv (i + 1), fun H' p' => ⟨n - (i + 1), by omega, rfl, hlt, p'⟩, fun x H' y => hs i x H H' hlt p y⟩
  · have e : i = n := by omega
    subst e
    exact .inl ⟨stop H p, hd H p⟩
theorem wipe_eq {own sl : List Nat} {σ σ2 : L2.St} (hsl : ∀ j ∈ sl, j ∈ own) (hs : ∀ j, j ∉ sl → σ2[j]? = (L2.wipe σ own)[j]?) (hl : σ2.length = (L2.wipe σ own).length) : L2.wipe σ2 own = L2.wipe σ own := by
  refine List.ext_getElem? fun j => ?_
  have key : ∀ {τ : L2.St} {j : Nat} {ow : List Nat}, j ∈ ow → (L2.wipe τ ow)[j]? = if j < τ.length then some none else none := by
    intro τ j ow
    induction ow with
    | nil => intro h; simp at h
    | cons v r ih =>
      intro h
      rw [L2.wipe, List.getElem?_set, L2.wipe_length]
      by_cases e : v = j
      · subst e; simp
      · rw [if_neg e]
        exact ih ((List.mem_cons.mp h).resolve_left fun q => e q.symm)
  by_cases hj : j ∈ own
  · rw [key hj, key hj, hl, wipe_length]
  · have e1 : σ2[j]? = (L2.wipe σ own)[j]? := hs j fun h => hj (hsl j h)
    rw [wipe_at hj, e1]
theorem frz_in {own : List Nat} {Γ : List Fg} : ∀ j ∈ own, flag (inFl Γ own) j = .frz := fun j hj => by rw [flag_in, if_pos hj]
theorem inFl_sub {own own1 : List Nat} {Γ : List Fg} (h : ∀ j ∈ own1, j ∈ own) : inFl (inFl Γ own) own1 = inFl Γ own := inFl_idem own1 fun j hj => frz_in j (h j hj)
theorem lc2_len {asg : D → Env → Option Env} {src : Env → ER (List D)} {asg1 : D → Env → Option Env} {cond : Env → ER Bool} {elt : Env → ER D} {wp wp1 : Env → Env} : ∀ {ds : List D} {n n' : Env} {xs : List D}, lc2Go asg src asg1 cond elt wp wp1 ds n = .ok xs n' → xs.length ≤ big
  | [], n, n', xs, h => by cases h; exact Nat.zero_le _
  | d :: r, n, n', xs, h => by
    simp only [lc2Go] at h
    split at h
    · cases h
    · obtain ⟨es, n2, e1, h⟩ := ER.bind_eq h
      obtain ⟨ys, n3, e2, h⟩ := ER.bind_eq h
      obtain ⟨zs, n4, e3, h⟩ := ER.bind_eq h
      split at h
      · rename_i hz
        cases h
        rw [List.length_append]; exact hz
      · cases h
theorem wipeN_at {n : Env} {j : Nat} : ∀ {own : List Nat}, (wipeN n own)[j]? = if j ∈ own then (if j < n.length then some none else none) else n[j]?
  | [] => by simp [wipeN]
  | v :: r => by
    rw [wipeN, List.getElem?_set, wipeN_len, wipeN_at (own := r)]
    by_cases e : v = j
    · subst e; simp
    · rw [if_neg e]
      have : (j ∈ v :: r) = (j ∈ r) := by simp only [List.mem_cons, show ¬ j = v from fun h => e h.symm, false_or]
      simp only [this]
theorem wipe_get {n : L2.St} {j : Nat} : ∀ {own : List Nat}, (L2.wipe n own)[j]? = if j ∈ own then (if j < n.length then some none else none) else n[j]?
  | [] => by simp [L2.wipe]
  | v :: r => by
    rw [L2.wipe, List.getElem?_set, wipe_length, wipe_get (own := r)]
    by_cases e : v = j
    · subst e; simp
    · rw [if_neg e]
      have : (j ∈ v :: r) = (j ∈ r) := by simp only [List.mem_cons, show ¬ j = v from fun h => e h.symm, false_or]
      simp only [this]
theorem wipeN2 {own own1 : List Nat} {n : Env} (h : ∀ j ∈ own1, j ∈ own) : wipeN (wipeN n own1) own = wipeN n own := by
  refine List.ext_getElem? fun j => ?_
  rw [wipeN_at, wipeN_at, wipeN_at, wipeN_len]
  by_cases hj : j ∈ own
  · rw [if_pos hj, if_pos hj]
  · rw [if_neg hj, if_neg hj, if_neg fun q => hj (h j q)]
theorem wipe2 {own own1 : List Nat} {n : L2.St} (h : ∀ j ∈ own1, j ∈ own) : L2.wipe (L2.wipe n own1) own = L2.wipe n own := by
  refine List.ext_getElem? fun j => ?_
  rw [wipe_get, wipe_get, wipe_get, wipe_length]
  by_cases hj : j ∈ own
  · rw [if_pos hj, if_pos hj]
  · rw [if_neg hj, if_neg hj, if_neg fun q => hj (h j q)]
structure L2P (K : PySem.W.Frag) (Γ' : List Fg) (own : List Nat) (σ : L2.St) (H1 : Hp) (Z1 : AP1) (D0 : Addr) (H : Hp) (m : Env) (Z : AP1) (acc : List V) (ac : List D) : Prop where
  at0 : H D0 = some (.lst acc)
  rp : RpL K H Z ac acc
  nz : ¬ Z D0
  si : SI K Γ' (wipeN m own) (L2.wipe σ own) H Z
  fr : Fr (fun p => p = D0) H1 Z1 H Z
theorem Fr.f {M : List Nat} {n : Env} {σ : L2.St} {H H' : Hp} {Z Z' : AP1} (hM : M = []) (f : Fr (Adr M n σ) H Z H' Z') : Fr (fun _ => False) H Z H' Z' := by
  subst hM
  exact f.mono fun p w => (Adr.nil w).elim
theorem lc2_all (ok : XOk Φ c k X) {c' : Cx0} {elt it it1 d : E} {tg tg1 : Tg} {own own1 : List Nat} {l i t i1 t1 : Expr} {fs : List Expr} {blk : Scope} {p : Pos} (hi : GI Φ c Γ X it t i) (hs : notSet i = true) (hb : blkB c.N c.sc blk own = true) (hv : ∀ j ∈ own1, j ∈ own)
    (hsl : ∀ j ∈ tg.slots, j ∈ own) (hd1 : ∀ j ∈ tg.slots, j ∉ own1) (hsl1 : ∀ j ∈ tg1.slots, j ∈ own1) (hs1 : notSet i1 = true)
    (hg : ∀ (s : Shared) (H : Hp) (C : Addr) (cl : List (Str × Addr)) (fp : List Addr), PG (X.blk s H blk (compEnvC blk cl C X.env) fp) t (tG X.K (inFl Γ own) tg))
    (hg1 : ∀ (s : Shared) (H : Hp) (C : Addr) (cl : List (Str × Addr)) (fp : List Addr), PG (X.blk s H blk (compEnvC blk cl C X.env) fp) t1 (tG X.K (inFl Γ own) tg1))
    (hi1 : ∀ (s : Shared) (H : Hp) (C : Addr) (cl : List (Str × Addr)) (fp : List Addr), PI (X.blk s H blk (compEnvC blk cl C X.env) fp) t1 i1 (tI Φ (inFl Γ own) X.K it1))
    (ht : ∀ (s : Shared) (H : Hp) (C : Addr) (cl : List (Str × Addr)) (fp : List Addr), PTs (X.blk s H blk (compEnvC blk cl C X.env) fp) fs (Sc.tC Φ (inFl Γ own) X.K d))
    (he : ∀ (s : Shared) (H : Hp) (C : Addr) (cl : List (Str × Addr)) (fp : List Addr), PE (X.blk s H blk (compEnvC blk cl C X.env) fp) l (tE Φ c' (inFl Γ own) X.K elt))
    (hm : elt.md c' (inFl Γ own) ≠ .brw) (w1 : it1.wr = []) (w2 : d.wr = []) (w3 : elt.wr = []) :
    ∃ ow wi, PI X t i wi ∧ BlkOk X.N X.env.scope blk ow ∧ (∀ i ∈ own1, i ∈ ow.map (·.2)) ∧ (∀ j ∈ (E.lc2 elt tg it tg1 it1 d own own1).wr, flag Γ j = .own) ∧ ∀ n σ H Z, SI X.K Γ n σ H Z → ∀ dd n', (E.lc2 elt tg it tg1 it1 d own own1).den Φ n = .ok dd n' → ∀ Q : VK,
      (∀ v H' Z', SI X.K Γ n' σ H' Z' → KN n n' → Fr (Adr (E.lc2 elt tg it tg1 it1 d own own1).wr n σ) H Z H' Z' → Val X.K Γ .own [] n' σ H H' Z' dd v → Q v H') → tLc2 wi (tG X.K (inFl Γ own) tg) tYes (tI Φ (inFl Γ own) X.K it1) (tG X.K (inFl Γ own) tg1) (Sc.tC Φ (inFl Γ own) X.K d) (tE Φ c' (inFl Γ own) X.K elt) (ow.map (·.2)) own1 σ H Q := by
  obtain ⟨ow, eo, bok⟩ := blk_of hb
  obtain ⟨wi0, wi, pi, qi⟩ := hi
  refine ⟨ow, wi, pi, by rw [ok.N, ok.sc]; exact bok, by rw [eo]; exact hv, by simp only [E.wr]; exact wi0, fun n σ H Z I dd n' e Q kq => ?_⟩
  simp only [E.den] at e
  obtain ⟨x, n1, e1, e⟩ := ER.bind_eq e
  obtain ⟨ds, n0, e2, e⟩ := ER.bind_eq e
  obtain ⟨e2', en⟩ := lift_eq e2
  subst en
  obtain ⟨xs, n2, e3, e⟩ := ER.bind_eq e
  cases e
  refine qi n σ H Z I x _ ds e1 e2' _ fun J H1 Z1 I1 k1 f1 wv => fun D0 hD => ?_
  rw [eo]
  let go := lc2Go (asgD tg) (fun m => (it1.den Φ m).bind fun y m => lift (seqD y) m) (asgD tg1) (fun m => cndR d (d.den Φ m) m) (fun m => elt.den Φ m) (fun m => wipeN m own) (fun m => wipeN m own1)
  have e3 : go ds n' = .ok xs n2 := e3
  have hbig : xs.length ≤ big := lc2_len e3
  -- D0 stands in no slot that a list is kept in
  have off : ∀ j, flag Γ j ≠ .frz → isL n' j = true → σ[j]? ≠ some (some (.ref D0)) := fun j hf hl hp => by
    obtain ⟨l, el⟩ := isL_iff.mp hl
    obtain ⟨v, ev, r⟩ := I1.slot j _ el
    rw [hp] at ev
    have ev := Option.some.inj (Option.some.inj ev)
    subst ev
    have r := RpF.b r
    obtain ⟨a, ys, ea, ha, _⟩ := r
    have ea : D0 = a := by injection ea
    rw [← ea, hD] at ha; cases ha
  have thru : ∀ H2 Z2, Fr (fun p => p = D0) H1 Z1 H2 Z2 → ZOk H2 Z2 → Thru X.K Γ (it.bs Γ) n' σ H1 Z1 H2 Z2 := fun H2 Z2 f z => ⟨[], (fun j hj => by simp at hj), (fun i hi => by simp), f.mono fun p w => .inr (by rw [w]; exact hD), z⟩
  refine it_turns (J := J) (n := ds.length) (fun i H => ∃ m Z acc ac rest, L2P X.K (inFl Γ own) own σ H1 Z1 D0 H m Z acc ac ∧ (∀ j, j ∉ own → isL m j = isL n' j) ∧ go (ds.drop i) m = .ok rest n2 ∧ ac ++ rest = xs) ?_ ?_ ?_ ?_ ?_
  · have f0 := fr_laid (W := fun _ => False) (Z := Z1) (o := HO.lst []) hD
    have I2 := I1.fr f0 (fun _ h => h) fun p h => f0.there p (I1.zok p h)
    exact ⟨n', Z1, [], [], xs, ⟨upd_same, RpL.nil, fun z => I1.zok _ z hD, I2.wipe own, f0.mono fun p w => w.elim⟩, fun _ _ => rfl, by rw [List.drop_zero]; exact e3, rfl⟩
  · rintro i H hlt ⟨m, Z, acc, ac, rest, L, _⟩
    exact wv.go i H Z (thru _ _ L.fr L.si.zok) hlt
  · rintro H ⟨m, Z, acc, ac, rest, L, _⟩
    exact wv.stop H Z (thru _ _ L.fr L.si.zok)
  · rintro i xv Hi H' hlt ⟨m, Zi, acc, ac, rest, L, kn, hgo, eqx⟩ y
    obtain ⟨di, edi, yl⟩ := wv.yld i xv Hi Zi H' (thru _ _ L.fr L.si.zok) hlt y
    obtain ⟨Z', I', f', rp'⟩ := yl.si L.si
    have edrop : ds.drop i = di :: ds.drop (i + 1) := by
      rw [List.drop_eq_getElem_cons hlt]
      rw [List.getElem?_eq_getElem hlt] at edi
      cases edi; rfl
    rw [edrop] at hgo
    have hgo : lc2Go _ _ _ _ _ _ _ _ _ = _ := hgo
    simp only [lc2Go] at hgo
    split at hgo
    · cases hgo
    rename_i m1 easg
    obtain ⟨es, m2, esrc, hgo⟩ := ER.bind_eq hgo
    obtain ⟨ys, m3, eys, hgo⟩ := ER.bind_eq hgo
    obtain ⟨zs, m4, ezs, hgo⟩ := ER.bind_eq hgo
    split at hgo
    case isFalse => cases hgo
    cases hgo
    obtain ⟨x1, m2', ed1, esrc⟩ := ER.bind_eq esrc
    obtain ⟨esq, em2⟩ := lift_eq esrc
    subst em2
    have hD' : H' D0 = some (.lst acc) := f'.keep _ _ L.at0 fun h => h
    have nz' : ¬ Z' D0 := fun z => by
      rcases f'.new _ z with z | z | z
      · exact L.nz z
      · exact z
      · rw [L.at0] at z; cases z
    have acc' : RpL X.K H' Z' ac acc := L.rp.fr f' fun _ h => h.elim
    have F1 : Fr (fun p => p = D0) H1 Z1 H' Z' := L.fr.trans f' (fun p w => .inl w) fun p w => w.elim
    refine ⟨_, Z', di, m1, I', rp', easg, fun σ2 I2 hs2 hl2 => ?_⟩
    have hw2 : L2.wipe σ2 own = L2.wipe σ own := wipe_eq hsl hs2 hl2
    have km1 : ∀ j, j ∉ own → isL m1 j = isL n' j := by
      intro j hj
      have e1 := asg_keep tg easg j fun h => hj (hsl j h)
      rw [getN_wipe, if_neg hj] at e1
      rw [← kn j hj]
      unfold isL; rw [e1]
    refine ⟨hw2, ?_⟩
    unfold tYes
    dsimp only
    rw [if_pos rfl]
    refine ⟨m1, Z', x1, m2', es, I2, ed1, esq, fun J1 H4 Z4 I4 k4 f4 fw => ?_⟩
    have f4 := Fr.f w1 f4
    have hD4 : H4 D0 = some (.lst acc) := f4.keep _ _ hD' fun h => h
    have nz4 : ¬ Z4 D0 := fun z => by
      rcases f4.new _ z with z | z | z
      · exact nz' z
      · exact z
      · rw [hD'] at z; cases z
    have F4 : Fr (fun p => p = D0) H1 Z1 H4 Z4 := F1.trans f4 (fun p w => .inl w) fun p w => w.elim
    have km2 : ∀ j, j ∉ own → isL m2' j = isL n' j := fun j hj => (k4 j).trans (km1 j hj)
    have I4w := I4.wipe own1
    rw [inFl_sub hv] at I4w
    refine it_turns (J := J1) (n := es.length) (fun jj H => ∃ m Z acc2 ac2 rest2, H D0 = some (.lst acc2) ∧ RpL X.K H Z (ac ++ ac2) acc2 ∧ ¬ Z D0 ∧ SI X.K (inFl Γ own) (wipeN m own1) (L2.wipe σ2 own1) H Z ∧ Fr (fun p => p = D0) H1 Z1 H Z ∧ (∀ j, j ∉ own → isL m j = isL n' j) ∧
      lcGo (asgD tg1) (fun m => cndR d (d.den Φ m) m) (fun m => elt.den Φ m) (fun m => wipeN m own1) (es.drop jj) m = .ok rest2 m3 ∧ ac2 ++ rest2 = ys) ?_ ?_ ?_ ?_ ?_
    · exact ⟨m2', Z4, acc, [], ys, hD4, by rw [List.append_nil]; exact acc'.fr f4 fun _ h => h.elim, nz4, I4w, F4, km2, by rw [List.drop_zero]; exact eys, rfl⟩
    · exact fun jj H hj _ => fw.go jj H hj
    · exact fun H _ => fw.stop H
    · rintro jj xw Hj Hj' hjl ⟨mj, Zj, acc2, ac2, rest2, q1, q2, q3, q4, q5, q6, q7, q8⟩ yj
      obtain ⟨rfl, kk, ekk, rfl⟩ := fw.yld jj xw Hj Hj' hjl yj
      have edrop2 : es.drop jj = .int kk :: es.drop (jj + 1) := by
        rw [List.drop_eq_getElem_cons hjl]
        rw [List.getElem?_eq_getElem hjl] at ekk
        rw [Option.some.inj ekk]
      rw [edrop2] at q7
      simp only [lcGo] at q7
      split at q7
      · cases q7
      rename_i mm1 easg1
      obtain ⟨b, mm2, ec, q7⟩ := ER.bind_eq q7
      refine ⟨_, Zj, .int kk, mm1, q4, by simp only [Rp], easg1, fun σ3 I5 hs3 hl3 => ?_⟩
      have hw3 : L2.wipe σ3 own1 = L2.wipe σ2 own1 := wipe_eq hsl1 hs3 hl3
      have kmm1 : ∀ j, j ∉ own → isL mm1 j = isL n' j := by
        intro j hj
        have hj1 : j ∉ own1 := fun h => hj (hv j h)
        have e1 := asg_keep tg1 easg1 j fun h => hj1 (hsl1 j h)
        rw [getN_wipe, if_neg hj1] at e1
        rw [← q6 j hj]
        unfold isL; rw [e1]
      refine ⟨hw3, mm1, Zj, b, mm2, I5, ec, fun H5 Z5 I6 k6 f6 => ?_⟩
      have f6 := Fr.f w2 f6
      have hD5 : H5 D0 = some (.lst acc2) := f6.keep _ _ q1 fun h => h
      have nz5 : ¬ Z5 D0 := fun z => by
        rcases f6.new _ z with z | z | z
        · exact q3 z
        · exact z
        · rw [q1] at z; cases z
      have F5 : Fr (fun p => p = D0) H1 Z1 H5 Z5 := q5.trans f6 (fun p w => .inl w) fun p w => w.elim
      have kmm2 : ∀ j, j ∉ own → isL mm2 j = isL n' j := fun j hj => (k6 j).trans (kmm1 j hj)
      have acc5 : RpL X.K H5 Z5 (ac ++ ac2) acc2 := q2.fr f6 fun _ h => h.elim
      cases b with
      | false =>
        dsimp only
        rw [if_neg Bool.false_ne_true]
        have I7 := I6.wipe own1
        rw [inFl_sub hv, hw3] at I7
        exact ⟨mm2, Z5, acc2, ac2, rest2, hD5, acc5, nz5, I7, F5, kmm2, q7, q8⟩
      | true =>
        dsimp only
        rw [if_pos rfl]
        obtain ⟨xd, mm3, ee, q7⟩ := ER.bind_eq (show (elt.den Φ mm2).bind _ = _ from q7)
        obtain ⟨rest', mm4, eg, q7⟩ := ER.bind_eq q7
        split at q7
        case isFalse => cases q7
        cases q7
        refine ⟨_, Z5, xd, mm3, I6, ee, fun yv H7 Z7 I7 k7 f7 vv => ?_⟩
        obtain ⟨Z8, I8, f8, rp8, _, _⟩ := vv.eat I7 I6 k7 f7 hm
        have f8 := Fr.f w3 f8
        have hD7 : H7 D0 = some (.lst acc2) := f8.keep _ _ hD5 fun h => h
        have nz8 : ¬ Z8 D0 := fun z => by
          rcases f8.new _ z with z | z | z
          · exact nz5 z
          · exact z
          · rw [hD5] at z; cases z
        have acc8 : RpL X.K H7 Z8 (ac ++ ac2) acc2 := acc5.fr f8 fun _ h => h.elim
        have kmm3 : ∀ j, j ∉ own → isL mm3 j = isL n' j := fun j hj => (k7 j).trans (kmm2 j hj)
        have hlen : acc2.length < sizeLine := by
          have l1 := acc8.len
          have l2 : xs.length = (ac ++ (ys ++ zs)).length := by rw [eqx]
          rw [← q8] at l2
          simp only [List.length_append, List.length_cons] at l1 l2
          rw [← big_eq]
          omega
        refine ⟨acc2, hD7, hlen, mm3, Z8, acc2 ++ [yv], ac2 ++ [xd], rest', upd_same, ?_, nz8, ?_, ?_, kmm3, eg, by rw [List.append_assoc]; exact q8⟩
        · have kz : ∀ a o, Z8 a → H7 a = some o → upd H7 D0 (.lst (acc2 ++ [yv])) a = some o := fun a o z e => by rw [upd_ne fun q : a = D0 => nz8 (by rw [← q]; exact z)]; exact e
          rw [← List.append_assoc]
          exact RpL.mono (fun _ h => h) kz _ _ (acc8.app (.cons rp8 RpL.nil))
        · have I9 := I8.wipe own1
          rw [inFl_sub hv, hw3] at I9
          refine I9.poke nz8 fun j hf hl hp => ?_
          obtain ⟨hj1, hl⟩ := isL_wipe hl
          have hj : j ∉ own := fun h => by rw [frz_in j h] at hf; exact hf rfl
          rw [flag_in, if_neg hj] at hf
          rw [wipe_at hj1] at hp
          have e2 : (L2.wipe σ2 own)[j]? = (L2.wipe σ own)[j]? := by rw [hw2]
          rw [wipe_at hj, wipe_at hj] at e2
          rw [e2] at hp
          exact off j hf ((kmm3 j hj).symm.trans hl) hp
        · have F8 : Fr (fun p => p = D0) H1 Z1 H7 Z8 := F5.trans f8 (fun p w => .inl w) fun p w => w.elim
          refine F8.trans (W2 := fun p => p = D0) ⟨fun _ h => h, fun a o e ne => by rw [upd_ne ne]; exact e, fun _ h => .inl h, fun a h => ?_⟩ (fun p w => .inl w) fun p w => .inl w
          by_cases e : a = D0
          · rw [e, upd_same]; simp
          · rw [upd_ne e]; exact h
    · rintro Hn ⟨mj, Zj, acc2, ac2, rest2, q1, q2, q3, q4, q5, q6, q7, q8⟩
      rw [List.drop_length] at q7
      simp only [lcGo, ER.ok.injEq] at q7
      obtain ⟨er, em⟩ := q7
      subst er em
      rw [List.append_nil] at q8
      subst q8
      have q9 := q4.wipe own
      rw [inFl2, wipeN2 hv, wipe2 hv, hw2] at q9
      exact ⟨mj, Zj, acc2, ac ++ ac2, zs, ⟨q1, q2, q3, q9, q5⟩, q6, ezs, by rw [List.append_assoc]; exact eqx⟩
  · rintro Hn ⟨m, Zn, acc, ac, rest, L, kn, hgo, eqx⟩
    rw [List.drop_length] at hgo
    have hgo : lc2Go _ _ _ _ _ _ _ [] m = _ := hgo
    simp only [lc2Go, ER.ok.injEq] at hgo
    obtain ⟨er, em⟩ := hgo
    subst er em
    have hxs : ac = xs := by rwa [List.append_nil] at eqx
    subst hxs
    have f0 : Fr (fun _ => False) H1 Z1 Hn Zn := L.fr.mono fun p w => .inr (by rw [w]; exact hD)
    have I2 : SI X.K Γ n' σ Hn Zn := I1.fr f0 (fun _ h => h) L.si.zok
    refine kq _ Hn Zn I2 k1 ?_ ?_
    · simp only [E.wr]; exact f1.trans f0 (fun p w => .inl w) fun p w => w.elim
    · refine Val.fresh I2 I k1 L.nz L.at0 ?_ L.rp
      cases e : H D0 with
      | none => rfl
      | some o => exact absurd hD (f1.there _ (by rw [e]; simp))
theorem ge_lc2 (ok : XOk Φ c k X) {c' : Cx0} {elt it it1 d : E} {tg tg1 : Tg} {own own1 : List Nat} {l i t i1 t1 : Expr} {fs : List Expr} {blk : Scope} {p : Pos} (hi : GI Φ c Γ X it t i) (hs : notSet i = true) (hb : blkB c.N c.sc blk own = true) (hv : ∀ j ∈ own1, j ∈ own)
    (hsl : ∀ j ∈ tg.slots, j ∈ own) (hd1 : ∀ j ∈ tg.slots, j ∉ own1) (hsl1 : ∀ j ∈ tg1.slots, j ∈ own1) (hs1 : notSet i1 = true)
    (hg : ∀ (s : Shared) (H : Hp) (C : Addr) (cl : List (Str × Addr)) (fp : List Addr), PG (X.blk s H blk (compEnvC blk cl C X.env) fp) t (tG X.K (inFl Γ own) tg))
    (hg1 : ∀ (s : Shared) (H : Hp) (C : Addr) (cl : List (Str × Addr)) (fp : List Addr), PG (X.blk s H blk (compEnvC blk cl C X.env) fp) t1 (tG X.K (inFl Γ own) tg1))
    (hi1 : ∀ (s : Shared) (H : Hp) (C : Addr) (cl : List (Str × Addr)) (fp : List Addr), PI (X.blk s H blk (compEnvC blk cl C X.env) fp) t1 i1 (tI Φ (inFl Γ own) X.K it1))
    (ht : ∀ (s : Shared) (H : Hp) (C : Addr) (cl : List (Str × Addr)) (fp : List Addr), PTs (X.blk s H blk (compEnvC blk cl C X.env) fp) fs (Sc.tC Φ (inFl Γ own) X.K d))
    (he : ∀ (s : Shared) (H : Hp) (C : Addr) (cl : List (Str × Addr)) (fp : List Addr), PE (X.blk s H blk (compEnvC blk cl C X.env) fp) l (tE Φ c' (inFl Γ own) X.K elt))
    (hm : elt.md c' (inFl Γ own) ≠ .brw) (w1 : it1.wr = []) (w2 : d.wr = []) (w3 : elt.wr = []) :
    GE Φ c Γ X (.lc2 elt tg it tg1 it1 d own own1) (.ListComp l [⟨t, i, [], 0⟩, ⟨t1, i1, fs, 0⟩] blk p) := by
  obtain ⟨ow, wi, pi, bok, hvv, hw, sem⟩ := lc2_all ok (p := p) hi hs hb hv hsl hd1 hsl1 hs1 hg hg1 hi1 ht he hm w1 w2 w3
  exact ⟨hw, _, pe_lc2 (own := ow) (vs1 := own1) ok.calm (by rw [ok.N]; exact ok.nd) pi bok hvv hg (fun s H C cl fp => pts_nil) hi1 hg1 ht he (folded hs) (fun env x => folded hs1 x), sem⟩
end
end Sc
namespace Sc
open PySem PySem.Spec PyProof.Rows L2
theorem chkA_own {c : Cx0} {Γ : List Fg} {ioa : List Nat} : ∀ {pm : List Pm} {es : List E}, chkA c Γ pm es ioa = true → ∀ i ∈ ioOf pm es, flag Γ i = .own
  | [], [], _, i, hi => by simp [ioOf] at hi
  | [], _ :: _, _, i, hi => by simp [ioOf] at hi
  | p :: _, [], h, i, hi => by cases p <;> simp [chkA] at h
  | .eat :: r, e :: s, h, i, hi => by
    simp only [chkA, Bool.and_eq_true] at h
    exact chkA_own h.2 i (by cases e <;> exact hi)
  | .brw :: r, e :: s, h, i, hi => by
    simp only [chkA, Bool.and_eq_true] at h
    exact chkA_own h.2 i (by cases e <;> exact hi)
  | .io :: r, e :: s, h, i, hi => by
    cases e <;> simp only [chkA, Bool.false_eq_true] at h
    simp only [Bool.and_eq_true, decide_eq_true_eq] at h
    simp only [ioOf, List.mem_cons] at hi
    rcases hi with hi | hi
    · rw [hi]; exact h.1.1.1
    · exact chkA_own h.2 i hi
theorem base_ok {o : Expr} {x : Str} {env : PySem.Env} (h : notCall o = true) : attributeBase o x env (eval o env) = eval o env := by
  cases o <;> first | rfl | exact Bool.noConfusion h
theorem asRev_plain {a l : Expr} (h : asRev a = some l) : plainT a = true := by
  unfold asRev at h
  split at h
  · rfl
  · cases h
theorem asCall_inv {a : Expr} {q : CallK} (h : asCall a = some q) : ∃ p p2, a = .Call (.Name q.x p2) q.ls q.kws p := by
  unfold asCall at h
  split at h
  · cases h; exact ⟨_, _, rfl⟩
  · cases h
theorem asLc2_inv {a : Expr} {q : Lc2K} (h : asLc2 a = some q) : ∃ p, a = .ListComp q.l [⟨q.t, q.i, [], 0⟩, ⟨q.t1, q.i1, q.fs, 0⟩] q.blk p := by
  unfold asLc2 at h
  split at h
  · cases h; exact ⟨_, rfl⟩
  · cases h
section
variable {Φ : Fns} {k : Nat}
def EOk (Φ : Fns) (c : Cx0) (Γ : List Fg) (X : Cx) (e : E) (a : Expr) : Prop := GE Φ c Γ X e a ∧ (e.tok = true → GW Φ c Γ X e a)
theorem eok {c : Cx0} {Γ : List Fg} {X : Cx} {e : E} {a : Expr} (h : GE Φ c Γ X e a) (p : plainT a = true) : EOk Φ c Γ X e a := ⟨h, fun _ => h.w p⟩
mutual
theorem e_sound : ∀ (e : E) {c : Cx0} {Γ : List Fg} {X : Cx} (ok : XOk Φ c k X) (a : Expr), e.chk c Γ a = true → EOk Φ c Γ X e a
  | .no, c, Γ, X, ok, a, h => by cases (show false = true from h)
  | .rng _ _, c, Γ, X, ok, a, h => by cases (show false = true from h)
  | .zip _ _, c, Γ, X, ok, a, h => by cases (show false = true from h)
  | .rvr _ _, c, Γ, X, ok, a, h => by cases (show false = true from h)
  | .enm _, c, Γ, X, ok, a, h => by cases (show false = true from h)
  | .rev _, c, Γ, X, ok, a, h => by cases (show false = true from h)
  | .var i, c, Γ, X, ok, a, h => by
    cases a <;> first | cases (show false = true from h) | skip
    exact eok (ge_var ok h) rfl
  | .cst d, c, Γ, X, ok, a, h => by
    refine eok (ge_cst ok h) ?_
    cases d <;> (cases a <;> first | cases (show false = true from h) | rfl)
  | .glb x d, c, Γ, X, ok, a, h => by
    cases a <;> first | cases (show false = true from h) | skip
    exact eok (ge_glb ok h) rfl
  | .bin o x y, c, Γ, X, ok, a, h => by
    cases a <;> first | cases (show false = true from h) | skip
    simp only [E.chk, Bool.and_eq_true] at h
    obtain ⟨⟨⟨h1, h2⟩, h3⟩, h4⟩ := h
    exact eok (ge_bin ok h1 (e_sound x ok _ h2).1 (e_sound y ok _ h3).1 h4) rfl
  | .neg x, c, Γ, X, ok, a, h => by
    cases a <;> first | cases (show false = true from h) | skip
    rename_i op l p
    cases op <;> first | cases (show false = true from h) | skip
    exact eok (ge_neg (e_sound x ok _ (show x.chk c Γ l = true from h)).1) rfl
  | .nt x, c, Γ, X, ok, a, h => by
    cases a <;> first | cases (show false = true from h) | skip
    rename_i op l p
    cases op <;> first | cases (show false = true from h) | skip
    simp only [E.chk, Bool.and_eq_true] at h
    have s := e_sound x ok _ h.1
    exact ⟨ge_nt s.1, fun _ => gw_nt (s.2 h.2)⟩
  | .an x y, c, Γ, X, ok, a, h => by
    cases a <;> first | cases (show false = true from h) | skip
    rename_i op l p
    cases op <;> first | cases (show false = true from h) | skip
    match l with
    | [] => cases (show false = true from h)
    | [_] => cases (show false = true from h)
    | l :: m :: r =>
      simp only [E.chk, Bool.and_eq_true] at h
      obtain ⟨⟨⟨h1, h2⟩, h3⟩, h4⟩ := h
      have s := e_sound x ok _ h1
      have t := e_sound y ok _ h3
      exact ⟨ge_an s.1 t.1, fun _ => gw_an (s.2 h2) (t.2 h4)⟩
  | .or x y, c, Γ, X, ok, a, h => by
    cases a <;> first | cases (show false = true from h) | skip
    rename_i op l p
    cases op <;> first | cases (show false = true from h) | skip
    match l with
    | [] => cases (show false = true from h)
    | [_] => cases (show false = true from h)
    | l :: m :: r =>
      simp only [E.chk, Bool.and_eq_true] at h
      obtain ⟨⟨⟨h1, h2⟩, h3⟩, h4⟩ := h
      have s := e_sound x ok _ h1
      have t := e_sound y ok _ h3
      exact ⟨ge_or s.1 t.1, fun _ => gw_or (s.2 h2) (t.2 h4)⟩
  | .cmp o x y, c, Γ, X, ok, a, h => by
    cases a <;> first | cases (show false = true from h) | skip
    rename_i l ops rs p
    match ops, rs with
    | [], _ => cases (show false = true from h)
    | [_], [] => cases (show false = true from h)
    | _ :: _ :: _, [] => cases (show false = true from h)
    | [q], [r] =>
      simp only [E.chk, Bool.and_eq_true] at h
      obtain ⟨⟨⟨⟨h1, h2⟩, h3⟩, h4⟩, h5⟩ := h
      have q := ge_cmp (pos := p) ok h1 (e_sound x ok _ h2).1 (e_sound y ok _ h3).1 h4 h5
      exact ⟨q.1, fun _ => q.2.w rfl⟩
    | [_], _ :: _ :: _ => cases (show false = true from h)
    | _ :: _ :: _, [_] => cases (show false = true from h)
    | _ :: _ :: _, _ :: _ :: _ => cases (show false = true from h)
  | .chn o o2 x y z, c, Γ, X, ok, a, h => by
    cases a <;> first | cases (show false = true from h) | skip
    rename_i l ops rs p
    match ops, rs with
    | [], _ => cases (show false = true from h)
    | [_], _ => cases (show false = true from h)
    | _ :: _ :: _ :: _, _ => cases (show false = true from h)
    | [_, _], [] => cases (show false = true from h)
    | [_, _], [_] => cases (show false = true from h)
    | [_, _], _ :: _ :: _ :: _ => cases (show false = true from h)
    | [q, q'], [r, s] =>
      simp only [E.chk, Bool.and_eq_true] at h
      obtain ⟨⟨⟨⟨⟨⟨⟨⟨h1, h2⟩, h3⟩, h4⟩, h5⟩, h6⟩, h7⟩, h8⟩, h9⟩ := h
      have q := chn_key (pos := p) ok h1 h2 (e_sound x ok _ h3).1 (e_sound y ok _ h4).1 (e_sound z ok _ h5).1 h6 h7 h8 h9
      exact ⟨q.1, fun _ => q.2⟩
  | .ife d x y, c, Γ, X, ok, a, h => by
    cases a <;> first | cases (show false = true from h) | skip
    simp only [E.chk, Bool.and_eq_true] at h
    obtain ⟨⟨⟨h1, h2⟩, h3⟩, h4⟩ := h
    exact ⟨ge_ife ((e_sound d ok _ h1).2 h2) (e_sound x ok _ h3).1 (e_sound y ok _ h4).1, fun e => by cases (show false = true from e)⟩
  | .idx x y, c, Γ, X, ok, a, h => by
    cases a <;> first | cases (show false = true from h) | skip
    simp only [E.chk, Bool.and_eq_true] at h
    obtain ⟨⟨⟨h1, h2⟩, h3⟩, h4⟩ := h
    exact eok (ge_idx (e_sound x ok _ h1).1 (e_sound y ok _ h2).1 h3 h4) rfl
  | .slc x lo hi, c, Γ, X, ok, a, h => by
    cases a <;> first | cases (show false = true from h) | skip
    rename_i l s p
    cases s <;> first | cases (show false = true from h) | skip
    rename_i lo' hi' st p2
    cases st <;> first | cases (show false = true from h) | skip
    simp only [E.chk, Bool.and_eq_true] at h
    obtain ⟨⟨⟨h1, h2⟩, h3⟩, h4⟩ := h
    have g1 : GO Φ c Γ X lo lo' := by
      cases lo' with
      | none =>
        have h2 : lo.isNo = true := h2
        cases lo <;> first | exact go_none | cases (show false = true from h2)
      | some l =>
        simp only [Bool.and_eq_true, Bool.not_eq_true'] at h2
        exact go_some h2.2 (e_sound lo ok _ h2.1).1
    have g2 : GO Φ c Γ X hi hi' := by
      cases hi' with
      | none =>
        have h3 : hi.isNo = true := h3
        cases hi <;> first | exact go_none | cases (show false = true from h3)
      | some l =>
        simp only [Bool.and_eq_true, Bool.not_eq_true'] at h3
        exact go_some h3.2 (e_sound hi ok _ h3.1).1
    exact eok (ge_slc (e_sound x ok _ h1).1 g1 g2 h4) rfl
  | .tup es, c, Γ, X, ok, a, h => by
    cases a <;> first | cases (show false = true from h) | skip
    simp only [E.chk, Bool.and_eq_true] at h
    exact eok (ge_tup (l_sound es ok _ h.1) h.2) rfl
  | .lst es, c, Γ, X, ok, a, h => by
    cases a <;> first | cases (show false = true from h) | skip
    simp only [E.chk, Bool.and_eq_true] at h
    exact eok (ge_lst (l_sound es ok _ h.1) h.2) rfl
  | .lc elt tg it d own, c, Γ, X, ok, a, h => by
    cases a <;> first | cases (show false = true from h) | skip
    rename_i l gs blk p
    match gs with
    | [] => cases (show false = true from h)
    | ⟨_, _, _, _⟩ :: _ :: _ => cases (show false = true from h)
    | [⟨t, i, fs, asy⟩] =>
      simp only [E.chk, Bool.and_eq_true, decide_eq_true_eq] at h
      obtain ⟨⟨⟨⟨⟨⟨⟨⟨⟨⟨⟨⟨h0, h1⟩, h2⟩, h3⟩, h4⟩, h5⟩, h6⟩, h7⟩, h8⟩, h9⟩, h10⟩, h11⟩, h12⟩ := h
      subst h0
      have hsl : ∀ j ∈ tg.slots, j ∈ own := fun j hj => by
        have := List.all_eq_true.mp h7 j hj
        simpa using this
      have hi : GI Φ c Γ X it t i := by
        rcases Bool.or_eq_true_iff.mp h1 with h1 | h1
        · exact i_sound it ok t i h1 (fun e => by simpa [e] using h2)
        · exact gi_val (e_sound it ok i h1).1
      have okb := fun (s : Shared) (H : Hp) (C : Addr) (cl : List (Str × Addr)) (fp : List Addr) => XOk.blk ok s H blk cl C fp []
      have okg := fun (s : Shared) (H : Hp) (C : Addr) (cl : List (Str × Addr)) (fp : List Addr) => XOk.blk ok s H blk cl C fp ((List.range c.N.length).filter fun j => !own.contains j)
      have hel := fun (s : Shared) (H : Hp) (C : Addr) (cl : List (Str × Addr)) (fp : List Addr) => e_sound elt (Γ := inFl Γ own) (okb s H C cl fp) l h9
      have s0 : Shared := X.s_0
      have wd : (∀ j ∈ d.wr, flag (inFl Γ own) j = .own) ∧ ∀ (s : Shared) (H : Hp) (C : Addr) (cl : List (Str × Addr)) (fp : List Addr), PTs (X.blk s H blk (compEnvC blk cl C X.env) fp) fs (tC Φ (inFl Γ own) X.K d) := by
        match fs with
        | [] =>
          have h8 : d.isNo = true := h8
          refine ⟨fun j hj => ?_, fun s H C cl fp => tc_no h8⟩
          cases d <;> first | cases (show false = true from h8) | simp [E.wr] at hj
        | [f] =>
          simp only [Bool.and_eq_true, Bool.not_eq_true'] at h8
          have q := fun (s : Shared) (H : Hp) (C : Addr) (cl : List (Str × Addr)) (fp : List Addr) => (e_sound d (Γ := inFl Γ own) (okb s H C cl fp) f h8.1.1).2 h8.1.2
          exact ⟨(q s0 (fun _ => none) (0 : Nat) [] []).wr, fun s H C cl fp => tc_some h8.2 (q s H C cl fp)⟩
        | _ :: _ :: _ => cases h8
      exact eok (ge_lc ok hi h3 h4 hsl (fun s H C cl fp => pg_chk (okg s H C cl fp) tg t h6 fun j hj => by rw [flag_in, if_pos (hsl j hj)]) wd.2 (fun s H C cl fp => (hel s H C cl fp).1.can) wd.1 (hel s0 (fun _ => none) (0 : Nat) [] []).1.wr h10 h11 h12) rfl
  | .call f es io, c, Γ, X, ok, a, h => by
    cases a <;> first | cases (show false = true from h) | skip
    rename_i fn as kw p
    cases fn <;> first | cases (show false = true from h) | skip
    rename_i x p2
    cases kw <;> first | cases (show false = true from h) | skip
    simp only [E.chk, Bool.and_eq_true, Bool.not_eq_true', decide_eq_true_eq] at h
    obtain ⟨⟨⟨⟨⟨⟨⟨⟨h1, h2⟩, h3⟩, h4⟩, h5⟩, h6⟩, h7⟩, h8⟩, h9⟩ := h
    have g := l_sound es ok _ h5
    match es, as, g with
    | [], _, _ => cases h8
    | e0 :: es, a0 :: as, g => exact eok (ge_call ok h1 h2 h3 h4 h9 g h6 h7 fun i hi => chkA_own h6 i (h7 ▸ hi)) rfl
  | .bi b es, c, Γ, X, ok, a, h => by
    cases a <;> first | cases (show false = true from h) | skip
    rename_i fn as kw p
    cases fn <;> first | cases (show false = true from h) | skip
    rename_i x p2
    cases kw <;> first | cases (show false = true from h) | skip
    simp only [E.chk, Bool.and_eq_true, Bool.not_eq_true', decide_eq_true_eq] at h
    obtain ⟨⟨⟨⟨h1, h2⟩, h3⟩, h4⟩, h5⟩ := h
    subst h2
    have g := l_sound es ok _ h3
    match es, as, g with
    | [], _, _ => cases h5
    | e0 :: es, a0 :: as, g => exact eok (ge_bi ok h1 g h4) rfl
  | .mth m x es, c, Γ, X, ok, a, h => by
    cases m with
    | index => cases (show false = true from h)
    | count =>
      match es with
      | [] => cases (show false = true from h)
      | _ :: _ :: _ => cases (show false = true from h)
      | [y] =>
        cases a <;> first | cases (show false = true from h) | skip
        rename_i fn as kw p
        cases fn <;> first | cases (show false = true from h) | skip
        rename_i o nm ap
        match as, kw with
        | [], _ => cases (show false = true from h)
        | _ :: _ :: _, _ => cases (show false = true from h)
        | [_], _ :: _ => cases (show false = true from h)
        | [l], [] =>
          simp only [E.chk, Bool.and_eq_true, decide_eq_true_eq] at h
          obtain ⟨⟨⟨⟨⟨⟨h1, h2⟩, h3⟩, h4⟩, h5⟩, h6⟩, h7⟩ := h
          subst h1
          exact eok (ge_cnt (e_sound x ok _ h2).1 (.cons (e_sound y ok _ h4).1 h5 h4 .nil) (by simp [chkB, wrL, disj]) (by simpa [wrL] using h6) h7 fun env => base_ok h3) rfl
  | .tr x y, c, Γ, X, ok, a, h => by
    cases a <;> first | cases (show false = true from h) | skip
    rename_i fn as kw p
    cases fn <;> first | cases (show false = true from h) | skip
    rename_i x1 p1
    match as with
    | [] => cases (show false = true from h)
    | _ :: _ :: _ => simp [E.chk] at h
    | [b] =>
    cases b <;> first | cases (show false = true from h) | skip
    rename_i fn2 as2 kw2 p3
    cases fn2 <;> first | cases (show false = true from h) | skip
    rename_i x2 p2
    match kw2, kw with
    | _ :: _, _ => cases (show false = true from h)
    | [], _ :: _ => cases (show false = true from h)
    | [], [] =>
    simp only [E.chk, Bool.and_eq_true, decide_eq_true_eq] at h
    obtain ⟨⟨⟨⟨h1, h2⟩, h3⟩, h4⟩, h5⟩ := h
    subst h3 h4
    match as2 with
    | [] => cases h5
    | [r] =>
      simp only [Bool.and_eq_true] at h5
      obtain ⟨⟨h6, h7⟩, h8⟩ := h5
      cases x <;> first | cases (show false = true from h6) | skip
      exact eok (ge_tr ok h1 (gr1 ok h2 (e_sound y ok _ h7).1 h8) rfl) rfl
    | [l, r] =>
      simp only [Bool.and_eq_true, Bool.not_eq_true'] at h5
      obtain ⟨⟨⟨⟨h6, h7⟩, h8⟩, h9⟩, h10⟩ := h5
      exact eok (ge_tr ok h1 (gr2 ok h6 h2 (e_sound x ok _ h7).1 (e_sound y ok _ h8).1 h9 h10) rfl) rfl
    | _ :: _ :: _ :: _ => cases h5
  | .lz x y, c, Γ, X, ok, a, h => by
    cases a <;> first | cases (show false = true from h) | skip
    rename_i fn as kw p
    cases fn <;> first | cases (show false = true from h) | skip
    rename_i x1 p1
    match as with
    | [] => cases (show false = true from h)
    | _ :: _ :: _ => simp [E.chk] at h
    | [b] =>
      cases b <;> first | cases (show false = true from h) | skip
      rename_i fn2 as2 kw2 p3
      cases fn2 <;> first | cases (show false = true from h) | skip
      rename_i x2 p2
      match as2, kw2, kw with
      | [], _, _ => cases (show false = true from h)
      | [_], _, _ => cases (show false = true from h)
      | _ :: _ :: _ :: _, _, _ => cases (show false = true from h)
      | [_, _], _ :: _, _ => cases (show false = true from h)
      | [_, _], [], _ :: _ => cases (show false = true from h)
      | [l, r], [], [] =>
        simp only [E.chk, Bool.and_eq_true, decide_eq_true_eq] at h
        obtain ⟨⟨⟨⟨⟨⟨⟨⟨h1, h2⟩, h3⟩, h4⟩, h5⟩, h6⟩, h7⟩, h8⟩, h9⟩ := h
        subst h3 h4
        exact eok (ge_lz ok h1 h2 (e_sound x ok _ h5).1 (e_sound y ok _ h6).1 h7 h8 h9) rfl
  | .zp3 _ _ _, c, Γ, X, ok, a, h => by cases (show false = true from h)
  | .rdn _, c, Γ, X, ok, a, h => by cases (show false = true from h)
  | .rvt x, c, Γ, X, ok, a, h => by
    unfold E.chk at h
    split at h
    · rename_i l hl
      exact eok (ge_rvt (e_sound x ok _ h).1 hl) (asRev_plain hl)
    · cases h
  | .callr f es io, c, Γ, X, ok, a, h => by
    unfold E.chk at h
    split at h
    · rename_i x ls hq
      obtain ⟨p, p2, rfl⟩ := asCall_inv hq
      simp only [Bool.and_eq_true, Bool.not_eq_true', decide_eq_true_eq] at h
      obtain ⟨⟨⟨⟨⟨⟨⟨⟨h1, h2⟩, h3⟩, h4⟩, h5⟩, h6⟩, h7⟩, h8⟩, h9⟩ := h
      have g := l_sound es ok _ h5
      match es, ls, g with
      | [], _, _ => cases h8
      | e0 :: es, a0 :: as, g => exact eok (ge_callr ok h1 h2 h3 h4 h9 g h6 h7) rfl
    · cases h
  | .callk f np ks es perm, c, Γ, X, ok, a, h => by
    unfold E.chk at h
    split at h
    · cases h
    · rename_i x ls kws hq
      obtain ⟨p, p2, rfl⟩ := asCall_inv hq
      simp only [Bool.and_eq_true, Bool.not_eq_true', decide_eq_true_eq, List.all_eq_true] at h
      obtain ⟨⟨⟨⟨⟨⟨⟨⟨⟨h1, h2⟩, h3⟩, h4⟩, h5⟩, h6⟩, h7⟩, h8⟩, h9⟩, h10⟩ := h
      exact eok (ge_callk ok h1 h2 h3 h4 h5 h6 h7 h8 (k_sound es ok _ _ _ h9) h10) rfl
  | .lc2 elt tg it tg1 it1 d own own1, c, Γ, X, ok, a, h => by
    unfold E.chk at h
    split at h
    · cases h
    · rename_i l t i t1 i1 fs blk hq
      obtain ⟨p, rfl⟩ := asLc2_inv hq
      simp only [Bool.and_eq_true, decide_eq_true_eq, List.all_eq_true, List.isEmpty_iff, List.append_eq_nil_iff] at h
      obtain ⟨⟨⟨⟨⟨⟨⟨⟨⟨⟨⟨⟨⟨⟨⟨⟨h1, h2⟩, h3⟩, h4⟩, h5⟩, h6⟩, h7⟩, h8⟩, h9⟩, h10⟩, h11⟩, h12⟩, h13⟩, h14⟩, h15⟩, h16⟩, h17⟩ := h
      have hi : GI Φ c Γ X it t i := by
        rcases Bool.or_eq_true_iff.mp h1 with h1 | h1
        · exact i_sound it ok t i h1 (fun e => by simpa [e] using h2)
        · exact gi_val (e_sound it ok i h1).1
      have okb := fun (s : Shared) (H : Hp) (C : Addr) (cl : List (Str × Addr)) (fp : List Addr) => XOk.blk ok s H blk cl C fp []
      have okg := fun (s : Shared) (H : Hp) (C : Addr) (cl : List (Str × Addr)) (fp : List Addr) => XOk.blk ok s H blk cl C fp ((List.range c.N.length).filter fun j => !own.contains j)
      have hv : ∀ j ∈ own1, j ∈ own := fun j hj => by have := h6 j hj; simpa using this
      have hsl : ∀ j ∈ tg.slots, j ∈ own := fun j hj => by have := h8 j hj; simpa using this
      have hsl0 : ∀ j ∈ tg.slots, j ∉ own1 := fun j hj => by have := h9 j hj; simpa using this
      have hsl1 : ∀ j ∈ tg1.slots, j ∈ own1 := fun j hj => by have := h13 j hj; simpa using this
      have hel := fun (s : Shared) (H : Hp) (C : Addr) (cl : List (Str × Addr)) (fp : List Addr) => e_sound elt (Γ := inFl Γ own) (okb s H C cl fp) l h15
      have wd : ∀ (s : Shared) (H : Hp) (C : Addr) (cl : List (Str × Addr)) (fp : List Addr), PTs (X.blk s H blk (compEnvC blk cl C X.env) fp) fs (Sc.tC Φ (inFl Γ own) X.K d) := by
        match fs with
        | [] => exact fun s H C cl fp => tc_no h14
        | [f] =>
          simp only [Bool.and_eq_true, Bool.not_eq_true'] at h14
          exact fun s H C cl fp => tc_some h14.2 ((e_sound d (Γ := inFl Γ own) (okb s H C cl fp) f h14.1.1).2 h14.1.2)
        | _ :: _ :: _ => cases h14
      exact eok (ge_lc2 ok hi h3 h4 hv hsl hsl0 hsl1 h11 (fun s H C cl fp => pg_chk (okg s H C cl fp) tg t h7 fun j hj => by rw [flag_in, if_pos (hsl j hj)]) (fun s H C cl fp => pg_chk (okg s H C cl fp) tg1 t1 h12 fun j hj => by rw [flag_in, if_pos (hv j (hsl1 j hj))])
        (fun s H C cl fp => f_sound it1 (okb s H C cl fp) t1 i1 (by rw [h10.1]; exact h10.2)) wd (fun s H C cl fp => (hel s H C cl fp).1.can) h16 h17.1 h17.2.1 h17.2.2) rfl
theorem k_sound : ∀ (es : List E) {c : Cx0} {Γ : List Fg} {X : Cx} (ok : XOk Φ c k X) (as : List Expr) (kws : List Keyword) (ks : List Str), chkK c Γ es as kws ks = true → GKL Φ c Γ X es as kws ks
  | [], c, Γ, X, ok, [], [], [], h => .nil
  | [], c, Γ, X, ok, _ :: _, kws, ks, h => by cases (show false = true from h)
  | [], c, Γ, X, ok, [], _ :: _, ks, h => by cases (show false = true from h)
  | [], c, Γ, X, ok, [], [], _ :: _, h => by cases (show false = true from h)
  | e :: es, c, Γ, X, ok, a :: as, kws, ks, h => by
    simp only [chkK, Bool.and_eq_true] at h
    exact .pos (e_sound e ok a h.1.1).1 h.1.2 (k_sound es ok as kws ks h.2)
  | e :: es, c, Γ, X, ok, [], ⟨nm, a, p⟩ :: kws, q :: ks, h => by
    simp only [chkK, Bool.and_eq_true, decide_eq_true_eq] at h
    obtain ⟨⟨h1, h2⟩, h3⟩ := h
    subst h1
    exact .kw (e_sound e ok a h2).1 (k_sound es ok [] kws ks h3)
  | e :: es, c, Γ, X, ok, [], [], ks, h => by cases ks <;> cases (show false = true from h)
  | e :: es, c, Γ, X, ok, [], ⟨_, _, _⟩ :: _, [], h => by cases (show false = true from h)
theorem f_sound : ∀ (e : E) {c : Cx0} {Γ : List Fg} {X : Cx} (ok : XOk Φ c k X) (t a : Expr), (e.isRng && e.chkI c Γ a) = true → PI X t a (tI Φ Γ X.K e)
  | .rng x y, c, Γ, X, ok, t, a, h => by
    replace h : E.chkI c Γ (.rng x y) a = true := h
    cases a <;> first | cases (show false = true from h) | skip
    rename_i fn as kw p
    cases fn <;> first | cases (show false = true from h) | skip
    rename_i x1 p1
    cases kw <;> first | cases (show false = true from h) | skip
    simp only [E.chkI, Bool.and_eq_true, decide_eq_true_eq] at h
    obtain ⟨⟨h1, h2⟩, h3⟩ := h
    subst h2
    match as with
    | [] => cases h3
    | [r] =>
      simp only [Bool.and_eq_true] at h3
      obtain ⟨⟨h4, h5⟩, h6⟩ := h3
      cases x <;> first | cases (show false = true from h4) | skip
      exact gf_rng1 ok h1 (e_sound y ok _ h5).1 h6
    | [l, r] =>
      simp only [Bool.and_eq_true, Bool.not_eq_true'] at h3
      obtain ⟨⟨⟨⟨h4, h5⟩, h6⟩, h7⟩, h8⟩ := h3
      exact gf_rng2 ok h4 h1 (e_sound x ok _ h5).1 (e_sound y ok _ h6).1 h7 h8
    | _ :: _ :: _ :: _ => cases h3
  | .no, c, Γ, X, ok, t, a, h => by cases (show false = true from h)
  | .var _, c, Γ, X, ok, t, a, h => by cases (show false = true from h)
  | .cst _, c, Γ, X, ok, t, a, h => by cases (show false = true from h)
  | .glb _ _, c, Γ, X, ok, t, a, h => by cases (show false = true from h)
  | .bin _ _ _, c, Γ, X, ok, t, a, h => by cases (show false = true from h)
  | .neg _, c, Γ, X, ok, t, a, h => by cases (show false = true from h)
  | .nt _, c, Γ, X, ok, t, a, h => by cases (show false = true from h)
  | .an _ _, c, Γ, X, ok, t, a, h => by cases (show false = true from h)
  | .or _ _, c, Γ, X, ok, t, a, h => by cases (show false = true from h)
  | .cmp _ _ _, c, Γ, X, ok, t, a, h => by cases (show false = true from h)
  | .chn _ _ _ _ _, c, Γ, X, ok, t, a, h => by cases (show false = true from h)
  | .ife _ _ _, c, Γ, X, ok, t, a, h => by cases (show false = true from h)
  | .idx _ _, c, Γ, X, ok, t, a, h => by cases (show false = true from h)
  | .slc _ _ _, c, Γ, X, ok, t, a, h => by cases (show false = true from h)
  | .tup _, c, Γ, X, ok, t, a, h => by cases (show false = true from h)
  | .lst _, c, Γ, X, ok, t, a, h => by cases (show false = true from h)
  | .lc _ _ _ _ _, c, Γ, X, ok, t, a, h => by cases (show false = true from h)
  | .call _ _ _, c, Γ, X, ok, t, a, h => by cases (show false = true from h)
  | .bi _ _, c, Γ, X, ok, t, a, h => by cases (show false = true from h)
  | .mth _ _ _, c, Γ, X, ok, t, a, h => by cases (show false = true from h)
  | .tr _ _, c, Γ, X, ok, t, a, h => by cases (show false = true from h)
  | .rvr _ _, c, Γ, X, ok, t, a, h => by cases (show false = true from h)
  | .zip _ _, c, Γ, X, ok, t, a, h => by cases (show false = true from h)
  | .lz _ _, c, Γ, X, ok, t, a, h => by cases (show false = true from h)
  | .enm _, c, Γ, X, ok, t, a, h => by cases (show false = true from h)
  | .rev _, c, Γ, X, ok, t, a, h => by cases (show false = true from h)
  | .rvt _, c, Γ, X, ok, t, a, h => by cases (show false = true from h)
  | .zp3 _ _ _, c, Γ, X, ok, t, a, h => by cases (show false = true from h)
  | .rdn _, c, Γ, X, ok, t, a, h => by cases (show false = true from h)
  | .callk _ _ _ _ _, c, Γ, X, ok, t, a, h => by cases (show false = true from h)
  | .callr _ _ _, c, Γ, X, ok, t, a, h => by cases (show false = true from h)
  | .lc2 _ _ _ _ _ _ _ _, c, Γ, X, ok, t, a, h => by cases (show false = true from h)
theorem l_sound : ∀ (es : List E) {c : Cx0} {Γ : List Fg} {X : Cx} (ok : XOk Φ c k X) (as : List Expr), chkL c Γ es as = true → GL Φ c Γ X es as
  | [], c, Γ, X, ok, [], h => .nil
  | [], c, Γ, X, ok, _ :: _, h => by simp [chkL] at h
  | _ :: _, c, Γ, X, ok, [], h => by simp [chkL] at h
  | e :: es, c, Γ, X, ok, a :: as, h => by
    simp only [chkL, Bool.and_eq_true] at h
    exact .cons (e_sound e ok a h.1.1).1 h.1.2 h.1.1 (l_sound es ok as h.2)
theorem i_sound : ∀ (e : E) {c : Cx0} {Γ : List Fg} {X : Cx} (ok : XOk Φ c k X) (t a : Expr), e.chkI c Γ a = true → (e.itTup = true → isTupE t = true) → GI Φ c Γ X e t a
  | .rng x y, c, Γ, X, ok, t, a, h, ht => by
    cases a <;> first | cases (show false = true from h) | skip
    rename_i fn as kw p
    cases fn <;> first | cases (show false = true from h) | skip
    rename_i x1 p1
    cases kw <;> first | cases (show false = true from h) | skip
    simp only [E.chkI, Bool.and_eq_true, decide_eq_true_eq] at h
    obtain ⟨⟨h1, h2⟩, h3⟩ := h
    subst h2
    match as with
    | [] => cases h3
    | [r] =>
      simp only [Bool.and_eq_true] at h3
      obtain ⟨⟨h4, h5⟩, h6⟩ := h3
      cases x <;> first | cases (show false = true from h4) | skip
      exact gi_rng1 ok h1 (e_sound y ok _ h5).1 h6
    | [l, r] =>
      simp only [Bool.and_eq_true, Bool.not_eq_true'] at h3
      obtain ⟨⟨⟨⟨h4, h5⟩, h6⟩, h7⟩, h8⟩ := h3
      exact gi_rng2 ok h4 h1 (e_sound x ok _ h5).1 (e_sound y ok _ h6).1 h7 h8
    | _ :: _ :: _ :: _ => cases h3
  | .zip x y, c, Γ, X, ok, t, a, h, ht => by
    cases a <;> first | cases (show false = true from h) | skip
    rename_i fn as kw p
    cases fn <;> first | cases (show false = true from h) | skip
    rename_i x1 p1
    match as, kw with
    | [], _ => cases (show false = true from h)
    | [_], _ => cases (show false = true from h)
    | _ :: _ :: _ :: _, _ => cases (show false = true from h)
    | [_, _], _ :: _ => cases (show false = true from h)
    | [l, r], [] =>
      simp only [E.chkI, Bool.and_eq_true, decide_eq_true_eq] at h
      obtain ⟨⟨⟨⟨⟨⟨h1, h2⟩, h3⟩, h4⟩, h5⟩, h6⟩, h7⟩ := h
      subst h2
      have ht := ht rfl
      cases t <;> first | cases (show false = true from ht) | skip
      exact gi_zip ok h1 (e_sound x ok _ h3).1 (e_sound y ok _ h4).1 h5 h6 h7
  | .enm x, c, Γ, X, ok, t, a, h, ht => by
    cases a <;> first | cases (show false = true from h) | skip
    rename_i fn as kw p
    cases fn <;> first | cases (show false = true from h) | skip
    rename_i x1 p1
    match as, kw with
    | [], _ => cases (show false = true from h)
    | _ :: _ :: _, _ => cases (show false = true from h)
    | [_], _ :: _ => cases (show false = true from h)
    | [l], [] =>
      simp only [E.chkI, Bool.and_eq_true, decide_eq_true_eq] at h
      obtain ⟨⟨⟨h1, h2⟩, h3⟩, h4⟩ := h
      subst h2
      have ht := ht rfl
      cases t <;> first | cases (show false = true from ht) | skip
      exact gi_enm ok h1 (e_sound x ok _ h3).1 h4
  | .rev x, c, Γ, X, ok, t, a, h, ht => by
    cases a <;> first | cases (show false = true from h) | skip
    rename_i fn as kw p
    cases fn <;> first | cases (show false = true from h) | skip
    rename_i x1 p1
    match as, kw with
    | [], _ => cases (show false = true from h)
    | _ :: _ :: _, _ => cases (show false = true from h)
    | [_], _ :: _ => cases (show false = true from h)
    | [l], [] =>
      simp only [E.chkI, Bool.and_eq_true, decide_eq_true_eq] at h
      obtain ⟨⟨⟨h1, h2⟩, h3⟩, h4⟩ := h
      subst h2
      exact gi_rev ok h1 (e_sound x ok _ h3).1 h4
  | .rvr x y, c, Γ, X, ok, t, a, h, ht => by
    cases a <;> first | cases (show false = true from h) | skip
    rename_i fn as kw p
    cases fn <;> first | cases (show false = true from h) | skip
    rename_i x1 p1
    match as with
    | [] => cases (show false = true from h)
    | b :: b' :: r =>
      cases b <;> first | cases (show false = true from h) | skip
      rename_i fn2 as2 kw2 p3
      cases fn2 <;> first | cases (show false = true from h) | skip
      cases kw2 <;> first | cases (show false = true from h) | skip
    | [b] =>
    cases b <;> first | cases (show false = true from h) | skip
    rename_i fn2 as2 kw2 p3
    cases fn2 <;> first | cases (show false = true from h) | skip
    rename_i x2 p2
    match kw2, kw with
    | _ :: _, _ => cases (show false = true from h)
    | [], _ :: _ => cases (show false = true from h)
    | [], [] =>
    simp only [E.chkI, Bool.and_eq_true, decide_eq_true_eq] at h
    obtain ⟨⟨⟨⟨h1, h2⟩, h3⟩, h4⟩, h5⟩ := h
    subst h3 h4
    match as2 with
    | [] => cases h5
    | [r] =>
      simp only [Bool.and_eq_true] at h5
      obtain ⟨⟨h6, h7⟩, h8⟩ := h5
      cases x <;> first | cases (show false = true from h6) | skip
      exact gi_rvr ok h1 (gr1 ok h2 (e_sound y ok _ h7).1 h8) rfl
    | [l, r] =>
      simp only [Bool.and_eq_true, Bool.not_eq_true'] at h5
      obtain ⟨⟨⟨⟨h6, h7⟩, h8⟩, h9⟩, h10⟩ := h5
      exact gi_rvr ok h1 (gr2 ok h6 h2 (e_sound x ok _ h7).1 (e_sound y ok _ h8).1 h9 h10) rfl
    | _ :: _ :: _ :: _ => cases h5
  | .tr _ _, c, Γ, X, ok, t, a, h, ht => by cases (show false = true from h)
  | .no, c, Γ, X, ok, t, a, h, ht => by cases (show false = true from h)
  | .var _, c, Γ, X, ok, t, a, h, ht => by cases (show false = true from h)
  | .cst _, c, Γ, X, ok, t, a, h, ht => by cases (show false = true from h)
  | .glb _ _, c, Γ, X, ok, t, a, h, ht => by cases (show false = true from h)
  | .bin _ _ _, c, Γ, X, ok, t, a, h, ht => by cases (show false = true from h)
  | .neg _, c, Γ, X, ok, t, a, h, ht => by cases (show false = true from h)
  | .nt _, c, Γ, X, ok, t, a, h, ht => by cases (show false = true from h)
  | .an _ _, c, Γ, X, ok, t, a, h, ht => by cases (show false = true from h)
  | .or _ _, c, Γ, X, ok, t, a, h, ht => by cases (show false = true from h)
  | .cmp _ _ _, c, Γ, X, ok, t, a, h, ht => by cases (show false = true from h)
  | .chn _ _ _ _ _, c, Γ, X, ok, t, a, h, ht => by cases (show false = true from h)
  | .ife _ _ _, c, Γ, X, ok, t, a, h, ht => by cases (show false = true from h)
  | .idx _ _, c, Γ, X, ok, t, a, h, ht => by cases (show false = true from h)
  | .slc _ _ _, c, Γ, X, ok, t, a, h, ht => by cases (show false = true from h)
  | .rvt _, c, Γ, X, ok, t, a, h, ht => by cases (show false = true from h)
  | .zp3 x y z, c, Γ, X, ok, t, a, h, ht => by
    unfold E.chkI at h
    split at h
    · cases h
    · rename_i nm l r s hq
      obtain ⟨p, p2, rfl⟩ := asZ3_inv hq
      simp only [Bool.and_eq_true, decide_eq_true_eq] at h
      obtain ⟨⟨⟨⟨⟨⟨⟨⟨⟨h1, h2⟩, h3⟩, h4⟩, h5⟩, h6⟩, h7⟩, h8⟩, h9⟩, h10⟩ := h
      subst h2
      have ht := ht rfl
      cases t <;> first | cases (show false = true from ht) | skip
      exact gi_zp3 ok h1 (e_sound x ok _ h3).1 (e_sound y ok _ h4).1 (e_sound z ok _ h5).1 h6 h7 h8 h9 h10
  | .rdn x, c, Γ, X, ok, t, a, h, ht => by
    unfold E.chkI at h
    split at h
    · cases h
    · rename_i nm l hq
      obtain ⟨p, p2, p3, p4, p5, j1, j2, rfl⟩ := asRd_inv hq
      simp only [Bool.and_eq_true, decide_eq_true_eq] at h
      obtain ⟨⟨⟨h1, h2⟩, h3⟩, h4⟩ := h
      subst h2
      exact gi_rdn ok h1 (e_sound x ok _ h3).1 h4
  | .callk _ _ _ _ _, c, Γ, X, ok, t, a, h, ht => by cases (show false = true from h)
  | .callr _ _ _, c, Γ, X, ok, t, a, h, ht => by cases (show false = true from h)
  | .lc2 _ _ _ _ _ _ _ _, c, Γ, X, ok, t, a, h, ht => by cases (show false = true from h)
  | .tup _, c, Γ, X, ok, t, a, h, ht => by cases (show false = true from h)
  | .lst _, c, Γ, X, ok, t, a, h, ht => by cases (show false = true from h)
  | .lc _ _ _ _ _, c, Γ, X, ok, t, a, h, ht => by cases (show false = true from h)
  | .call _ _ _, c, Γ, X, ok, t, a, h, ht => by cases (show false = true from h)
  | .bi _ _, c, Γ, X, ok, t, a, h, ht => by cases (show false = true from h)
  | .mth _ _ _, c, Γ, X, ok, t, a, h, ht => by cases (show false = true from h)
  | .lz _ _, c, Γ, X, ok, t, a, h, ht => by cases (show false = true from h)
end
theorem lc_sound {c : Cx0} {Γ : List Fg} {X : Cx} (ok : XOk Φ c k X) {elt it d : E} {tg : Tg} {own : List Nat} {l : Expr} {gs : List Comprehension} {blk : Scope} {p : Pos} (h : (E.lc elt tg it d own).chk c Γ (.ListComp l gs blk p) = true) :
    ∃ (t i : Expr) (fs : List Expr) (ow : List (Str × Nat)) (wi : TI) (g : TG) (tt : TT) (te : TE), gs = [⟨t, i, fs, 0⟩] ∧ notSet i = true ∧ PI X t i wi ∧ BlkOk X.N X.env.scope blk ow ∧
    (∀ (s : Shared) (H : Hp) (C : Addr) (cl : List (Str × Addr)) (fp : List Addr), PG (X.blk s H blk (compEnvC blk cl C X.env) fp) t g) ∧
    (∀ (s : Shared) (H : Hp) (C : Addr) (cl : List (Str × Addr)) (fp : List Addr), PTs (X.blk s H blk (compEnvC blk cl C X.env) fp) fs tt) ∧
    (∀ (s : Shared) (H : Hp) (C : Addr) (cl : List (Str × Addr)) (fp : List Addr), PE (X.blk s H blk (compEnvC blk cl C X.env) fp) l te) ∧ (∀ j ∈ (E.lc elt tg it d own).wr, flag Γ j = .own) ∧ ∀ n σ H Z, SI X.K Γ n σ H Z → ∀ dd n', (E.lc elt tg it d own).den Φ n = .ok dd n' → ∀ Q : VK,
      (∀ v H' Z', SI X.K Γ n' σ H' Z' → KN n n' → Fr (Adr (E.lc elt tg it d own).wr n σ) H Z H' Z' → Val X.K Γ .own [] n' σ H H' Z' dd v → Q v H') → tLc wi g tt te (ow.map (·.2)) σ H Q := by
  match gs with
  | [] => cases (show false = true from h)
  | ⟨_, _, _, _⟩ :: _ :: _ => cases (show false = true from h)
  | [⟨t, i, fs, asy⟩] =>
    simp only [E.chk, Bool.and_eq_true, decide_eq_true_eq] at h
    obtain ⟨⟨⟨⟨⟨⟨⟨⟨⟨⟨⟨⟨h0, h1⟩, h2⟩, h3⟩, h4⟩, h5⟩, h6⟩, h7⟩, h8⟩, h9⟩, h10⟩, h11⟩, h12⟩ := h
    subst h0
    have hsl : ∀ j ∈ tg.slots, j ∈ own := fun j hj => by
      have := List.all_eq_true.mp h7 j hj
      simpa using this
    have hi : GI Φ c Γ X it t i := by
      rcases Bool.or_eq_true_iff.mp h1 with h1 | h1
      · exact i_sound it ok t i h1 (fun e => by simpa [e] using h2)
      · exact gi_val (e_sound it ok i h1).1
    have okb := fun (s : Shared) (H : Hp) (C : Addr) (cl : List (Str × Addr)) (fp : List Addr) => XOk.blk ok s H blk cl C fp []
    have okg := fun (s : Shared) (H : Hp) (C : Addr) (cl : List (Str × Addr)) (fp : List Addr) => XOk.blk ok s H blk cl C fp ((List.range c.N.length).filter fun j => !own.contains j)
    have hel := fun (s : Shared) (H : Hp) (C : Addr) (cl : List (Str × Addr)) (fp : List Addr) => e_sound elt (Γ := inFl Γ own) (okb s H C cl fp) l h9
    have s0 : Shared := X.s_0
    have wd : (∀ j ∈ d.wr, flag (inFl Γ own) j = .own) ∧ ∀ (s : Shared) (H : Hp) (C : Addr) (cl : List (Str × Addr)) (fp : List Addr), PTs (X.blk s H blk (compEnvC blk cl C X.env) fp) fs (tC Φ (inFl Γ own) X.K d) := by
      match fs with
      | [] =>
        have h8 : d.isNo = true := h8
        refine ⟨fun j hj => ?_, fun s H C cl fp => tc_no h8⟩
        cases d <;> first | cases (show false = true from h8) | simp [E.wr] at hj
      | [f] =>
        simp only [Bool.and_eq_true, Bool.not_eq_true'] at h8
        have q := fun (s : Shared) (H : Hp) (C : Addr) (cl : List (Str × Addr)) (fp : List Addr) => (e_sound d (Γ := inFl Γ own) (okb s H C cl fp) f h8.1.1).2 h8.1.2
        exact ⟨(q s0 (fun _ => none) (0 : Nat) [] []).wr, fun s H C cl fp => tc_some h8.2 (q s H C cl fp)⟩
      | _ :: _ :: _ => cases h8
    have og := fun (s : Shared) (H : Hp) (C : Addr) (cl : List (Str × Addr)) (fp : List Addr) => pg_chk (Γ := inFl Γ own) (okg s H C cl fp) tg t h6 fun j hj => by rw [flag_in, if_pos (hsl j hj)]
    obtain ⟨ow, wi, pi, bok, hw, sem⟩ := lc_all ok hi h3 h4 hsl og wd.2 (fun s H C cl fp => (hel s H C cl fp).1.can) wd.1 (hel s0 (fun _ => none) (0 : Nat) [] []).1.wr h10 h11 h12
    exact ⟨t, i, fs, ow, wi, _, _, _, rfl, h3, pi, bok, og, wd.2, fun s H C cl fp => (hel s H C cl fp).1.can, hw, sem⟩
theorem lc2_sound {c : Cx0} {Γ : List Fg} {X : Cx} (ok : XOk Φ c k X) {elt it it1 d : E} {tg tg1 : Tg} {own own1 : List Nat} {a : Expr} (h : (E.lc2 elt tg it tg1 it1 d own own1).chk c Γ a = true) :
    ∃ (q : Lc2K) (p : Pos) (ow : List (Str × Nat)) (wi wi1 : TI) (g g1 : TG) (tt : TT) (te : TE), a = .ListComp q.l [⟨q.t, q.i, [], 0⟩, ⟨q.t1, q.i1, q.fs, 0⟩] q.blk p ∧ notSet q.i = true ∧ notSet q.i1 = true ∧ PI X q.t q.i wi ∧ BlkOk X.N X.env.scope q.blk ow ∧ (∀ i ∈ own1, i ∈ ow.map (·.2)) ∧
    (∀ (s : Shared) (H : Hp) (C : Addr) (cl : List (Str × Addr)) (fp : List Addr), PG (X.blk s H q.blk (compEnvC q.blk cl C X.env) fp) q.t g) ∧
    (∀ (s : Shared) (H : Hp) (C : Addr) (cl : List (Str × Addr)) (fp : List Addr), PI (X.blk s H q.blk (compEnvC q.blk cl C X.env) fp) q.t1 q.i1 wi1) ∧
    (∀ (s : Shared) (H : Hp) (C : Addr) (cl : List (Str × Addr)) (fp : List Addr), PG (X.blk s H q.blk (compEnvC q.blk cl C X.env) fp) q.t1 g1) ∧
    (∀ (s : Shared) (H : Hp) (C : Addr) (cl : List (Str × Addr)) (fp : List Addr), PTs (X.blk s H q.blk (compEnvC q.blk cl C X.env) fp) q.fs tt) ∧
    (∀ (s : Shared) (H : Hp) (C : Addr) (cl : List (Str × Addr)) (fp : List Addr), PE (X.blk s H q.blk (compEnvC q.blk cl C X.env) fp) q.l te) ∧ (∀ j ∈ (E.lc2 elt tg it tg1 it1 d own own1).wr, flag Γ j = .own) ∧
    ∀ n σ H Z, SI X.K Γ n σ H Z → ∀ dd n', (E.lc2 elt tg it tg1 it1 d own own1).den Φ n = .ok dd n' → ∀ Q : VK,
      (∀ v H' Z', SI X.K Γ n' σ H' Z' → KN n n' → Fr (Adr (E.lc2 elt tg it tg1 it1 d own own1).wr n σ) H Z H' Z' → Val X.K Γ .own [] n' σ H H' Z' dd v → Q v H') → tLc2 wi g tYes wi1 g1 tt te (ow.map (·.2)) own1 σ H Q := by
  unfold E.chk at h
  split at h
  · cases h
  · rename_i l t i t1 i1 fs blk hq
    obtain ⟨p, rfl⟩ := asLc2_inv hq
    simp only [Bool.and_eq_true, decide_eq_true_eq, List.all_eq_true, List.isEmpty_iff, List.append_eq_nil_iff] at h
    obtain ⟨⟨⟨⟨⟨⟨⟨⟨⟨⟨⟨⟨⟨⟨⟨⟨h1, h2⟩, h3⟩, h4⟩, h5⟩, h6⟩, h7⟩, h8⟩, h9⟩, h10⟩, h11⟩, h12⟩, h13⟩, h14⟩, h15⟩, h16⟩, h17⟩ := h
    have hi : GI Φ c Γ X it t i := by
      rcases Bool.or_eq_true_iff.mp h1 with h1 | h1
      · exact i_sound it ok t i h1 (fun e => by simpa [e] using h2)
      · exact gi_val (e_sound it ok i h1).1
    have okb := fun (s : Shared) (H : Hp) (C : Addr) (cl : List (Str × Addr)) (fp : List Addr) => XOk.blk ok s H blk cl C fp []
    have okg := fun (s : Shared) (H : Hp) (C : Addr) (cl : List (Str × Addr)) (fp : List Addr) => XOk.blk ok s H blk cl C fp ((List.range c.N.length).filter fun j => !own.contains j)
    have hv : ∀ j ∈ own1, j ∈ own := fun j hj => by have := h6 j hj; simpa using this
    have hsl : ∀ j ∈ tg.slots, j ∈ own := fun j hj => by have := h8 j hj; simpa using this
    have hsl0 : ∀ j ∈ tg.slots, j ∉ own1 := fun j hj => by have := h9 j hj; simpa using this
    have hsl1 : ∀ j ∈ tg1.slots, j ∈ own1 := fun j hj => by have := h13 j hj; simpa using this
    have hel := fun (s : Shared) (H : Hp) (C : Addr) (cl : List (Str × Addr)) (fp : List Addr) => e_sound elt (Γ := inFl Γ own) (okb s H C cl fp) l h15
    have wd : ∀ (s : Shared) (H : Hp) (C : Addr) (cl : List (Str × Addr)) (fp : List Addr), PTs (X.blk s H blk (compEnvC blk cl C X.env) fp) fs (Sc.tC Φ (inFl Γ own) X.K d) := by
      match fs with
      | [] => exact fun s H C cl fp => tc_no h14
      | [f] =>
        simp only [Bool.and_eq_true, Bool.not_eq_true'] at h14
        exact fun s H C cl fp => tc_some h14.2 ((e_sound d (Γ := inFl Γ own) (okb s H C cl fp) f h14.1.1).2 h14.1.2)
      | _ :: _ :: _ => cases h14
    have g0 := fun (s : Shared) (H : Hp) (C : Addr) (cl : List (Str × Addr)) (fp : List Addr) => pg_chk (Γ := inFl Γ own) (okg s H C cl fp) tg t h7 fun j hj => by rw [flag_in, if_pos (hsl j hj)]
    have g1 := fun (s : Shared) (H : Hp) (C : Addr) (cl : List (Str × Addr)) (fp : List Addr) => pg_chk (Γ := inFl Γ own) (okg s H C cl fp) tg1 t1 h12 fun j hj => by rw [flag_in, if_pos (hv j (hsl1 j hj))]
    have pi1 := fun (s : Shared) (H : Hp) (C : Addr) (cl : List (Str × Addr)) (fp : List Addr) => f_sound (Γ := inFl Γ own) it1 (okb s H C cl fp) t1 i1 (by rw [h10.1]; exact h10.2)
    obtain ⟨ow, wi, pi, bok, hvv, hw, sem⟩ := lc2_all (p := p) ok hi h3 h4 hv hsl hsl0 hsl1 h11 g0 g1 pi1 wd (fun s H C cl fp => (hel s H C cl fp).1.can) h16 h17.1 h17.2.1 h17.2.2
    exact ⟨⟨l, t, i, t1, i1, fs, blk⟩, p, ow, wi, _, _, _, _, _, rfl, h3, h11, pi, bok, hvv, g0, pi1, g1, wd, fun s H C cl fp => (hel s H C cl fp).1.can, hw, sem⟩
end
end Sc
namespace Sc
open PySem PySem.Spec PyProof.Rows L2
/-! ### statements: what is looked at ahead -/
inductive CR where
  | bad | dead | ok (Γ : List Fg)
def CR.join : CR → CR → CR
  | .dead, x => x
  | .ok a, .dead => .ok a
  | .ok a, .ok b => if a = b then .ok a else .bad
  | _, _ => .bad
structure Cs where
  c : Cx0
  ow : List Nat
  ro : Bool
structure MutK where
  x : Str
  p : Pos
  m : Str
  ap : Pos
  args : List Expr
  cp : Pos
def asMut : Stmt → Option MutK
  | .Expr (.Call (.Attribute (.Name x p) m ap) args [] cp) _ => some ⟨x, p, m, ap, args, cp⟩
  | _ => none
mutual
/-- the slots whose lists may be changed, or set still -/
def S.mu : S → List Nat
  | .fz l => l
  | .asg _ e => e.wr
  | .asgT _ e => e.wr
  | .par _ _ a b => a.wr ++ b.wr
  | .aug _ _ e => e.wr
  | .setI i ix e => e.wr ++ (ix.wr ++ [i])
  | .ext i e => e.wr ++ [i]
  | .rmv i e => e.wr ++ [i]
  | .rvs i => [i]
  | .clr i => [i]
  | .ex e => e.wr
  | .mut _ i args => wrL args ++ [i]
  | .ite c a b => c.wr ++ (muL a ++ muL b)
  | .fr _ it b => it.wr ++ muL b
  | .wh c b => c.wr ++ muL b
  | .ret e => e.wr
  | .retN => []
  | .brk => []
  | .cnt => []
  | .pas => []
  | .nvr => []
def muL : List S → List Nat
  | [] => []
  | s :: r => s.mu ++ muL r
end
/-- a comprehension that is stored at once -/
def swapB (sc : Scope) (x : Str) (p : Pos) : Expr → Bool
  | .ListComp _ _ blk q => sc.names.lookup x == some .local && p.line == q.line && !(blk.names.any fun (n, k) => n == x && (k == .local || k == .cell))
  | _ => false
def isLcE : Expr → Bool
  | .ListComp .. => true
  | _ => false
def isTupLit : Expr → Bool
  | .Tuple .. => true
  | _ => false
def CR.thn (r : CR) (last : Bool) (f : List Fg → CR) : CR := match r with
  | .bad => .bad
  | .dead => if last then .dead else .bad
  | .ok Γ => f Γ
def CR.loop (r : CR) (Γ : List Fg) : CR := match r with
  | .bad => .bad
  | .dead => .ok Γ
  | .ok Γ' => if Γ' = Γ then .ok Γ else .bad
def retB (c : Cs) (Γ : List Fg) : E → Bool
  | .var i => (decide (flag Γ i = .frz) && !c.ro) || (c.ro && decide (flag Γ i = .own) && !c.c.io.contains i)
  | e => (c.ro && decide (e.md c.c Γ = .own)) || (!c.ro && decide (e.md c.c Γ ≠ .brw))
def augB : Bop → Operator → Bool
  | .add, .Add => true
  | .sub, .Sub => true
  | .mul, .Mult => true
  | .fdiv, .FloorDiv => true
  | _, _ => false
mutual
def S.chk (c : Cs) (L Γ : List Fg) : S → Stmt → CR
  | .asg i e, .Assign [.Name x p] v _ =>
      if c.c.N[i]? == some x && locB c.c.sw x && !c.c.io.contains i && e.chk c.c Γ v && decide (i < Γ.length) && (notLc v || (isLcE v && c.c.sc.kind == .function)) && decide (e.md c.c Γ ≠ .brw)
      then .ok (Γ.set i (if c.ow.contains i && decide (e.md c.c Γ = .own) then .own else .frz)) else .bad
  | .asgT t e, .Assign [.Tuple es k p] v _ =>
      if t.chk c.c (.Tuple es k p) && e.chk c.c Γ v && notLc v && !isTupLit v && decide (e.md c.c Γ ≠ .brw) && t.slots.all (fun j => decide (flag Γ j = .frz) && decide (j < Γ.length)) then .ok Γ else .bad
  | .par i j a b, .Assign [.Tuple [.Name x px, .Name y py] _ _] (.Tuple [l, r] _ _) _ =>
      if c.c.N[i]? == some x && c.c.N[j]? == some y && c.c.sc.kind == .function && c.c.sw.names.lookup x == some .local && c.c.sw.names.lookup y == some .local && c.c.sc.names.lookup x == some .local && c.c.sc.names.lookup y == some .local && !c.c.io.contains i && !c.c.io.contains j && decide (i ≠ j) && px.line == py.line && !(x == y) &&
        !(foldedForSure 8 l && foldedForSure 8 r) && !(constantsAlone 8 l && constantsAlone 8 r) && a.chk c.c Γ l && b.chk c.c Γ r && notStar l && notStar r && decide (a.md c.c Γ ≠ .brw) && decide (b.md c.c Γ ≠ .brw) && decide (flag Γ i = .frz) && decide (flag Γ j = .frz) && decide (i < Γ.length) && decide (j < Γ.length)
      then .ok Γ else .bad
  | .setI i ix e, .Assign [.Subscript (.Name x p) k _] v _ =>
      if (E.var i).chk c.c Γ (.Name x p) && ix.chk c.c Γ k && notSlc k && e.chk c.c Γ v && decide (e.md c.c Γ ≠ .brw) && decide (flag Γ i = .own) && !ix.wr.contains i then .ok Γ else .bad
  | .aug i o e, .AugAssign (.Name x _) p v _ =>
      if c.c.N[i]? == some x && locB c.c.sw x && !c.c.io.contains i && e.chk c.c Γ v && decide (i < Γ.length) && decide (flag Γ i = .frz) && augB o p then .ok Γ else .bad
  | .ext i e, st => match asMut st with
    | some ⟨x, p, m, ap, [v], cp⟩ => if decide (m = ("extend" : Str)) && (E.var i).chk c.c Γ (.Name x p) && e.chk c.c Γ v && notStar v && decide (flag Γ i = .own) && !e.wr.contains i && (ap.endLine == cp.line) then .ok Γ else .bad
    | _ => .bad
  | .rmv i e, st => match asMut st with
    | some ⟨x, p, m, ap, [v], cp⟩ => if decide (m = ("remove" : Str)) && (E.var i).chk c.c Γ (.Name x p) && e.chk c.c Γ v && notStar v && decide (flag Γ i = .own) && !e.wr.contains i && (ap.endLine == cp.line) then .ok Γ else .bad
    | _ => .bad
  | .rvs i, st => match asMut st with
    | some ⟨x, p, m, ap, [], cp⟩ => if decide (m = ("reverse" : Str)) && (E.var i).chk c.c Γ (.Name x p) && decide (flag Γ i = .own) && (ap.endLine == cp.line) then .ok Γ else .bad
    | _ => .bad
  | .clr i, st => match asMut st with
    | some ⟨x, p, m, ap, [], cp⟩ => if decide (m = ("clear" : Str)) && (E.var i).chk c.c Γ (.Name x p) && decide (flag Γ i = .own) && (ap.endLine == cp.line) then .ok Γ else .bad
    | _ => .bad
  | .ex e, .Expr v _ => if e.chk c.c Γ v && notLc v then .ok Γ else .bad
  | .mut .append i [e], .Expr (.Call (.Attribute (.Name x p) m ap) [v] [] cp) _ =>
      if decide (m = ("append" : Str)) && (E.var i).chk c.c Γ (.Name x p) && e.chk c.c Γ v && notStar v && decide (e.md c.c Γ ≠ .brw) && decide (flag Γ i = .own) && !e.wr.contains i && (ap.endLine == cp.line) then .ok Γ else .bad
  | .ite d a b, .If t x y _ => if d.chk c.c Γ t && d.tok then (chkSs c L Γ a x).join (chkSs c L Γ b y) else .bad
  | .fr t it b, .For tg i x [] _ =>
      if (it.chkI c.c Γ i || it.chk c.c Γ i) && (!it.itTup || isTupE tg) && notSet i && t.chk c.c tg && t.slots.all (fun j => decide (flag Γ j = .frz)) && disj (it.bs Γ) (muL b) then
        (chkSs c Γ Γ b x).loop Γ
      else .bad
  | .wh d b, .While t x [] _ =>
      if d.chk c.c Γ t && d.tok then
        (chkSs c Γ Γ b x).loop Γ
      else .bad
  | .ret e, .Return (some v) _ =>
      if e.chk c.c Γ v && retB c Γ e then .dead else .bad
  | .retN, .Return none _ => .dead
  | .brk, .Break _ => if L = Γ then .dead else .bad
  | .cnt, .Continue _ => if L = Γ then .dead else .bad
  | .pas, .Pass _ => .ok Γ
  | .nvr, _ => .dead
  | _, _ => .bad
def chkSs (c : Cs) (L Γ : List Fg) : List S → List Stmt → CR
  | [], [] => .ok Γ
  | .fz l :: r, sts => if l.all fun j => decide (flag Γ j ≠ .brw) && !c.c.io.contains j then chkSs c L (inFl Γ l) r sts else .bad
  | s :: r, st :: sts => (s.chk c L Γ st).thn (r.isEmpty && sts.isEmpty) fun Γ' => chkSs c L Γ' r sts
  | _, _ => .bad
end
end Sc
namespace Sc
open PySem PySem.Spec PyProof.Rows L2
def ownOf (Γ : List Fg) (l : List Nat) : List Nat := l.filter fun j => decide (flag Γ j = .own)
theorem ownOf_own {Γ : List Fg} {l : List Nat} : ∀ j ∈ ownOf Γ l, flag Γ j = .own := fun j hj => by
  have := (List.mem_filter.mp hj).2
  simpa using this
theorem mem_ownOf {Γ : List Fg} {l : List Nat} {j : Nat} (h : j ∈ l) (k : flag Γ j = .own) : j ∈ ownOf Γ l := List.mem_filter.mpr ⟨h, by simpa using k⟩
structure Step (K : PySem.W.Frag) (io : List Nat) (Γ Γ' : List Fg) (mu : List Nat) (n : Env) (σ : L2.St) (H : Hp) (Z : AP1) (n' : Env) (σ' : L2.St) (H' : Hp) (Z' : AP1) : Prop where
  si : SI K Γ' n' σ' H' Z'
  fr : Fr (Adr (ownOf Γ mu) n σ) H Z H' Z'
  own : ∀ j p, flag Γ' j = .own → isL n' j = true → σ'[j]? = some (some (.ref p)) → (flag Γ j = .own ∧ isL n j = true ∧ σ[j]? = some (some (.ref p))) ∨ H p = none
  io : ∀ i ∈ io, σ'[i]? = σ[i]? ∧ isL n' i = isL n i ∧ flag Γ' i = flag Γ i
  len : n'.length = n.length ∧ Γ'.length = Γ.length
section
variable {K : PySem.W.Frag} {io : List Nat} {Γ Γ1 Γ2 : List Fg} {mu mu2 : List Nat} {n n1 n2 : Env} {σ σ1 σ2 : L2.St} {H H1 H2 : Hp} {Z Z1 Z2 : AP1}
theorem Step.refl (I : SI K Γ n σ H Z) : Step K io Γ Γ mu n σ H Z n σ H Z := ⟨I, Fr.refl, fun j p h1 h2 h3 => .inl ⟨h1, h2, h3⟩, fun _ _ => ⟨rfl, rfl, rfl⟩, rfl, rfl⟩
theorem Step.mono (a : Step K io Γ Γ1 mu n σ H Z n1 σ1 H1 Z1) (h : ∀ j ∈ mu, j ∈ mu2) : Step K io Γ Γ1 mu2 n σ H Z n1 σ1 H1 Z1 :=
  ⟨a.si, a.fr.mono fun p w => .inl (w.mono fun j hj => mem_ownOf (h j (List.mem_filter.mp hj).1) (ownOf_own j hj)), a.own, a.io, a.len⟩
theorem Step.trans (a : Step K io Γ Γ1 mu n σ H Z n1 σ1 H1 Z1) (b : Step K io Γ1 Γ2 mu2 n1 σ1 H1 Z1 n2 σ2 H2 Z2) : Step K io Γ Γ2 (mu ++ mu2) n σ H Z n2 σ2 H2 Z2 := by
  refine ⟨b.si, a.fr.trans b.fr (fun p w => .inl (w.mono fun j hj => mem_ownOf (List.mem_append_left _ (List.mem_filter.mp hj).1) (ownOf_own j hj))) fun p w => ?_, fun j p h1 h2 h3 => ?_, fun i hi => ?_, b.len.1.trans a.len.1, b.len.2.trans a.len.2⟩
  · obtain ⟨j, hj, hl, hp⟩ := w
    rcases a.own j p (ownOf_own j hj) hl hp with ⟨f, l, s⟩ | z
    · exact .inl ⟨j, mem_ownOf (List.mem_append_right _ (List.mem_filter.mp hj).1) f, l, s⟩
    · exact .inr z
  · rcases b.own j p h1 h2 h3 with ⟨f, l, s⟩ | z
    · exact a.own j p f l s
    · refine .inr ?_
      cases e : H p with
      | none => rfl
      | some o => exact absurd z (a.fr.there p (by rw [e]; simp))
  · obtain ⟨x1, x2, x3⟩ := a.io i hi
    obtain ⟨y1, y2, y3⟩ := b.io i hi
    exact ⟨y1.trans x1, y2.trans x2, y3.trans x3⟩
/-- an expression's run -/
theorem Step.ofE {M : List Nat} (I0 : SI K Γ n σ H Z) (I1 : SI K Γ n1 σ H1 Z1) (kn : KN n n1) (f : Fr (Adr M n σ) H Z H1 Z1) (hM : ∀ j ∈ M, flag Γ j = .own) : Step K io Γ Γ M n σ H Z n1 σ H1 Z1 :=
  ⟨I1, f.mono fun p w => .inl (w.mono fun j hj => mem_ownOf hj (hM j hj)), fun j p h1 h2 h3 => .inl ⟨h1, (kn j).symm.trans h2, h3⟩, fun i _ => ⟨rfl, kn i, rfl⟩, I1.len.trans I0.len.symm, rfl⟩
/-- a name is given what stays -/
theorem flag_setL {Γ : List Fg} {v i : Nat} {f : Fg} (hv : v < Γ.length) : flag (Γ.set v f) i = if i = v then f else flag Γ i := by
  unfold flag
  rw [List.getD_eq_getElem?_getD, List.getD_eq_getElem?_getD, List.getElem?_set]
  by_cases e : v = i
  · subst e
    rw [if_pos rfl, if_pos rfl, if_pos hv]; rfl
  · rw [if_neg e, if_neg fun h => e h.symm]
theorem SI.asg (I : SI K Γ n σ H Z) {i : Nat} {d : D} {v : V} {f : Fg} (hl : i < Γ.length) (hi : i < n.length) (h : RpF K H Z f d v)
    (hs : f ≠ .frz → ∀ l a, d = .lst l → v = .ref a → ∀ j, j ≠ i → flag Γ j ≠ .frz → isL n j = true → σ[j]? ≠ some (some (.ref a))) : SI K (Γ.set i f) (n.set i (some d)) (σ.set i (some v)) H Z := by
  have hi2 : i < σ.length := by rw [← I.len]; exact hi
  have oth : ∀ j, j ≠ i → isL (n.set i (some d)) j = isL n j ∧ (σ.set i (some v))[j]? = σ[j]? ∧ flag (Γ.set i f) j = flag Γ j := fun j e => by
    refine ⟨by unfold isL; rw [getN_set e], List.getElem?_set_ne fun z => e z.symm, by rw [flag_setL hl, if_neg e]⟩
  have self : (σ.set i (some v))[i]? = some (some v) := List.getElem?_set_self hi2
  have sl : isL (n.set i (some d)) i = true → ∃ l, d = .lst l := fun h => by
    obtain ⟨l, e⟩ := isL_iff.mp h
    rw [getN_set_eq hi] at e
    cases e; exact ⟨l, rfl⟩
  have hf : flag (Γ.set i f) i = f := by rw [flag_setL hl, if_pos rfl]
  refine ⟨by rw [List.length_set, List.length_set]; exact I.len, fun j d' hd => ?_, fun a b p hab h1 h2 h3 h4 h5 h6 => ?_, fun a b p h1 h2 h3 h4 h5 h6 => ?_, I.zok⟩
  · by_cases e : j = i
    · subst e
      rw [getN_set_eq hi] at hd
      cases hd
      exact ⟨v, self, by rw [hf]; exact h⟩
    · rw [getN_set e] at hd
      obtain ⟨u, e1, r⟩ := I.slot j d' hd
      exact ⟨u, by rw [(oth j e).2.1]; exact e1, by rw [(oth j e).2.2]; exact r⟩
  · by_cases ea : a = i
    · subst ea
      have eb : b ≠ a := fun e => hab e.symm
      obtain ⟨o1, o2, o3⟩ := oth b eb
      rw [self] at h5
      obtain ⟨l, el⟩ := sl h3
      have ev : v = .ref p := Option.some.inj (Option.some.inj h5)
      rw [hf] at h1
      refine hs (by rw [h1]; exact fun e => by cases e) l p el ev b eb (by rw [← o3, h2]; exact fun e => by cases e) (o1 ▸ h4) (o2 ▸ h6)
    · obtain ⟨o1, o2, o3⟩ := oth a ea
      by_cases eb : b = i
      · subst eb
        rw [self] at h6
        obtain ⟨l, el⟩ := sl h4
        have ev : v = .ref p := Option.some.inj (Option.some.inj h6)
        rw [hf] at h2
        refine hs (by rw [h2]; exact fun e => by cases e) l p el ev a ea (by rw [← o3, h1]; exact fun e => by cases e) (o1 ▸ h3) (o2 ▸ h5)
      · obtain ⟨q1, q2, q3⟩ := oth b eb
        exact I.sep a b p hab (o3 ▸ h1) (q3 ▸ h2) (o1 ▸ h3) (q1 ▸ h4) (o2 ▸ h5) (q2 ▸ h6)
  · by_cases ea : a = i
    · subst ea
      by_cases eb : b = a
      · subst eb; rw [h1] at h2; cases h2
      · obtain ⟨o1, o2, o3⟩ := oth b eb
        rw [self] at h5
        obtain ⟨l, el⟩ := sl h3
        have ev : v = .ref p := Option.some.inj (Option.some.inj h5)
        rw [hf] at h1
        refine hs (by rw [h1]; exact fun e => by cases e) l p el ev b eb (by rw [← o3, h2]; exact fun e => by cases e) (o1 ▸ h4) (o2 ▸ h6)
    · obtain ⟨o1, o2, o3⟩ := oth a ea
      by_cases eb : b = i
      · subst eb
        rw [self] at h6
        obtain ⟨l, el⟩ := sl h4
        have ev : v = .ref p := Option.some.inj (Option.some.inj h6)
        rw [hf] at h2
        refine hs (by rw [h2]; exact fun e => by cases e) l p el ev a ea (by rw [← o3, h1]; exact fun e => by cases e) (o1 ▸ h3) (o2 ▸ h5)
      · obtain ⟨q1, q2, q3⟩ := oth b eb
        exact I.sepB a b p (o3 ▸ h1) (q3 ▸ h2) (o1 ▸ h3) (q1 ▸ h4) (o2 ▸ h5) (q2 ▸ h6)
/-- a name is given a value behind its expression -/
theorem Step.asg (S1 : Step K io Γ Γ mu n σ H Z n1 σ H1 Z1) (I : SI K Γ n σ H Z) (kn : KN n n1) {m : Fg} {b : List Nat} {d : D} {v : V} (vv : Val K Γ m b n1 σ H H1 Z1 d v) (hm : m ≠ .brw) {i : Nat} {f : Fg} (hf : f = .frz ∨ (f = .own ∧ m = .own)) (hl : i < Γ.length) (hi : i < n.length) (hio : i ∉ io) :
    ∃ Z2, Step K io Γ (Γ.set i f) mu n σ H Z (n1.set i (some d)) (σ.set i (some v)) H1 Z2 := by
  have hi1 : i < n1.length := by rw [S1.si.len, ← I.len]; exact hi
  have hi2 : i < σ.length := by rw [← I.len]; exact hi
  have ioz : ∀ j ∈ io, (σ.set i (some v))[j]? = σ[j]? ∧ isL (n1.set i (some d)) j = isL n j ∧ flag (Γ.set i f) j = flag Γ j := fun j hj => by
    have e : j ≠ i := fun e => hio (e ▸ hj)
    exact ⟨List.getElem?_set_ne fun z => e z.symm, by unfold isL; rw [getN_set e]; exact kn j, by rw [flag_setL hl, if_neg e]⟩
  rcases hf with hf | ⟨hf, hmo⟩
  · subst hf
    obtain ⟨Z2, I2, f2, r2, _, _⟩ := vv.eat S1.si I kn S1.fr hm
    refine ⟨Z2, I2.asg hl hi1 r2 (fun e => absurd rfl e), f2, fun j p h1 h2 h3 => ?_, ioz, by rw [List.length_set, S1.len.1], by rw [List.length_set]⟩
    have e : j ≠ i := fun e => by rw [e, flag_setL hl, if_pos rfl] at h1; cases h1
    rw [flag_setL hl, if_neg e] at h1
    rw [List.getElem?_set_ne fun z => e z.symm] at h3
    refine .inl ⟨h1, ?_, h3⟩
    rw [← kn j]
    unfold isL at h2 ⊢
    rwa [getN_set e] at h2
  · subst hf hmo
    obtain ⟨o, hn⟩ := vv.ow rfl
    refine ⟨Z1, S1.si.asg hl hi1 o (fun _ l a ed ev j hj hfj hlj hp => ?_), S1.fr, fun j p h1 h2 h3 => ?_, ioz, by rw [List.length_set, S1.len.1], by rw [List.length_set]⟩
    · have h0 := hn l a ed ev
      obtain ⟨l2, e2⟩ := isL_iff.mp ((kn j).symm.trans hlj)
      obtain ⟨u, hu, r⟩ := I.slot j _ e2
      rw [hp] at hu
      have hu := Option.some.inj (Option.some.inj hu)
      subst hu
      obtain ⟨a2, xs, ea, ha, _⟩ := RpF.b r
      have ea : a = a2 := by injection ea
      rw [← ea, h0] at ha; cases ha
    · by_cases e : j = i
      · subst e
        rw [List.getElem?_set_self hi2] at h3
        obtain ⟨l, el⟩ := isL_iff.mp h2
        rw [getN_set_eq hi1] at el
        cases el
        have ev := Option.some.inj (Option.some.inj h3)
        exact .inr (hn l p rfl ev)
      · rw [flag_setL hl, if_neg e] at h1
        rw [List.getElem?_set_ne fun z => e z.symm] at h3
        refine .inl ⟨h1, ?_, h3⟩
        rw [← kn j]
        unfold isL at h2 ⊢
        rwa [getN_set e] at h2
/-- an own list stays from now on -/
theorem SI.fz1 (I : SI K Γ n σ H Z) {i : Nat} (hf : flag Γ i ≠ .brw) : ∃ Z2, SI K (Γ.set i .frz) n σ H Z2 ∧ (∀ p, Z p → Z2 p) ∧ ∀ p, Z2 p → Z p ∨ Adr (ownOf Γ [i]) n σ p := by
  have go : ∀ Z2 : AP1, (∀ p, Z p → Z2 p) → (∀ p, Z2 p → Z p ∨ Adr (ownOf Γ [i]) n σ p) → ZOk H Z2 → (∀ d v, getN n i = some d → σ[i]? = some (some v) → Rp K H Z2 d v) → SI K (Γ.set i .frz) n σ H Z2 := fun Z2 up dn zk hr => by
    have m : ∀ {d v}, Rp K H Z d v → Rp K H Z2 d v := fun h => Rp.mono up (fun _ _ _ e => e) _ _ h
    have mL : ∀ {d v}, RpL K H Z d v → RpL K H Z2 d v := fun h => RpL.mono up (fun _ _ _ e => e) _ _ h
    refine ⟨I.len, fun j d hd => ?_, fun a b p hab h1 h2 h3 h4 h5 h6 => ?_, fun a b p h1 h2 h3 h4 h5 h6 => ?_, zk⟩
    · obtain ⟨v, hv, r⟩ := I.slot j d hd
      refine ⟨v, hv, ?_⟩
      rw [flag_set]
      by_cases e : j = i
      · subst e
        rw [if_pos rfl]
        exact hr d v hd hv
      · rw [if_neg e]
        cases hfj : flag Γ j with
        | frz => rw [hfj] at r; exact m r
        | brw =>
          rw [hfj] at r
          show RpB K H Z2 d v
          cases d with
          | lst l => obtain ⟨a, xs, rfl, ha, r⟩ := r; exact ⟨a, xs, rfl, ha, mL r⟩
          | _ => exact m r
        | own =>
          rw [hfj] at r
          show RpO K H Z2 d v
          cases d with
          | lst l =>
            obtain ⟨a, xs, rfl, nz, ha, r⟩ := r
            refine ⟨a, xs, rfl, fun z => ?_, ha, mL r⟩
            rcases dn a z with z | ⟨k, hk, hl, hp⟩
            · exact nz z
            · have ek : k = i := by simpa using (List.mem_filter.mp hk).1
              subst ek
              exact I.sep k j a (fun q => e q.symm) (ownOf_own k hk) hfj hl (isL_iff.mpr ⟨l, hd⟩) hp hv
          | _ => exact m r
    · rw [flag_set] at h1 h2
      by_cases ea : a = i
      · rw [if_pos ea] at h1; cases h1
      · by_cases eb : b = i
        · rw [if_pos eb] at h2; cases h2
        · rw [if_neg ea] at h1; rw [if_neg eb] at h2
          exact I.sep a b p hab h1 h2 h3 h4 h5 h6
    · rw [flag_set] at h1 h2
      by_cases ea : a = i
      · rw [if_pos ea] at h1; cases h1
      · by_cases eb : b = i
        · rw [if_pos eb] at h2; cases h2
        · rw [if_neg ea] at h1; rw [if_neg eb] at h2
          exact I.sepB a b p h1 h2 h3 h4 h5 h6
  cases hfi : flag Γ i with
  | brw => exact absurd hfi hf
  | frz =>
    refine ⟨Z, go Z (fun _ h => h) (fun _ h => .inl h) I.zok fun d v hd hv => ?_, fun _ h => h, fun _ h => .inl h⟩
    obtain ⟨u, hu, r⟩ := I.slot i d hd
    rw [hv] at hu
    have hu := Option.some.inj (Option.some.inj hu)
    subst hu
    rw [hfi] at r
    exact r
  | own =>
    refine ⟨fun p => Z p ∨ Adr (ownOf Γ [i]) n σ p, go _ (fun _ h => .inl h) (fun _ h => h) (fun p h => ?_) fun d v hd hv => ?_, fun _ h => .inl h, fun _ h => h⟩
    · rcases h with h | h
      · exact I.zok p h
      · obtain ⟨_, xs, e⟩ := I.adr ownOf_own h
        rw [e]; simp
    · obtain ⟨u, hu, r⟩ := I.slot i d hd
      rw [hv] at hu
      have hu := Option.some.inj (Option.some.inj hu)
      subst hu
      rw [hfi] at r
      have up : ∀ p, Z p → Z p ∨ Adr (ownOf Γ [i]) n σ p := fun _ h => .inl h
      cases d with
      | lst l =>
        obtain ⟨a, xs, rfl, nz, ha, r⟩ := r
        simp only [Rp]
        exact ⟨a, xs, rfl, .inr ⟨i, mem_ownOf (by simp) hfi, isL_iff.mpr ⟨l, hd⟩, hv⟩, ha, RpL.mono up (fun _ _ _ e => e) _ _ r⟩
      | _ => exact Rp.mono up (fun _ _ _ e => e) _ _ r
theorem Step.fz : ∀ {l : List Nat} (I : SI K Γ n σ H Z), (∀ j ∈ l, flag Γ j ≠ .brw ∧ j ∉ io) → ∃ Z2, Step K io Γ (inFl Γ l) l n σ H Z n σ H Z2
  | [], I, _ => ⟨Z, Step.refl I⟩
  | v :: r, I, h => by
    obtain ⟨Z1, S1⟩ := Step.fz (l := r) I fun j hj => h j (List.mem_cons_of_mem _ hj)
    have hv := h v List.mem_cons_self
    have hfv : flag (inFl Γ r) v ≠ .brw := by
      rw [flag_in]
      split
      · exact fun e => by cases e
      · exact hv.1
    obtain ⟨Z2, I2, up, dn⟩ := S1.si.fz1 hfv
    have S2 : Step K io (inFl Γ r) ((inFl Γ r).set v .frz) [v] n σ H Z1 n σ H Z2 := by
      refine ⟨I2, ⟨up, fun _ _ e _ => e, fun p z => (dn p z).elim .inl fun w => .inr (.inl w), fun _ h => h⟩, fun j p h1 h2 h3 => ?_, fun i hi => ⟨rfl, rfl, ?_⟩, rfl, by rw [List.length_set]⟩
      · rw [flag_set] at h1
        by_cases e : j = v
        · rw [if_pos e] at h1; cases h1
        · rw [if_neg e] at h1; exact .inl ⟨h1, h2, h3⟩
      · rw [flag_set, if_neg (fun e : i = v => hv.2 (by rw [← e]; exact hi))]
    exact ⟨Z2, (S1.trans S2).mono fun j hj => by
      rcases List.mem_append.mp hj with hj | hj
      · exact List.mem_cons_of_mem _ hj
      · rw [List.mem_singleton.mp hj]; exact List.mem_cons_self⟩
end
end Sc
namespace Sc
open PySem PySem.Spec PyProof.Rows L2
def RetV (K : PySem.W.Frag) (ro : Bool) (io : List Nat) (Γ : List Fg) (n : Env) (σ : L2.St) (H : Hp) (H' : Hp) (Z' : AP1) (d : D) (v : V) : Prop :=
  if ro = true then RpO K H' Z' d v ∧ ∀ l a, d = .lst l → v = .ref a → H a = none ∨ ∃ j, j ∉ io ∧ flag Γ j = .own ∧ isL n j = true ∧ σ[j]? = some (some (.ref a)) else Rp K H' Z' d v
structure Goal (K : PySem.W.Frag) (c : Cs) (L Γ : List Fg) (mu : List Nat) (r : CR) (n : Env) (σ : L2.St) (H : Hp) (Z : AP1) (fl : Fl) (D : Ends) : Prop where
  nx : ∀ n' Γ', fl = .nx n' → r = .ok Γ' → ∀ σ' H' Z', Step K c.c.io Γ Γ' mu n σ H Z n' σ' H' Z' → D.nx σ' H'
  bk : ∀ n', fl = .bk n' → ∀ σ' H' Z', Step K c.c.io Γ L mu n σ H Z n' σ' H' Z' → D.bk σ' H'
  ct : ∀ n', fl = .ct n' → ∀ σ' H' Z', Step K c.c.io Γ L mu n σ H Z n' σ' H' Z' → D.ct σ' H'
  rt : ∀ d n', fl = .rt d n' → ∀ v Γ' σ' H' Z', Step K c.c.io Γ Γ' mu n σ H Z n' σ' H' Z' → RetV K c.ro c.c.io Γ n σ H H' Z' d v → D.rt v H'
def Fl.fine (f : Fl) : Prop := f ≠ .bad ∧ ∀ x m, f ≠ .ex x m
def SOk (Φ : Fns) (c : Cs) (L Γ : List Fg) (X : Cx) (mu : List Nat) (den : Env → Fl) (r : CR) (P : TS → Prop) : Prop :=
  ∃ t, P t ∧ ∀ n σ H Z, SI X.K Γ n σ H Z → n.length = Γ.length → ∀ D, (den n).fine → Goal X.K c L Γ mu r n σ H Z (den n) D → t D σ H
section
variable {K : PySem.W.Frag} {ro : Bool} {io : List Nat} {Γ Γ1 : List Fg} {mu : List Nat} {n n1 : Env} {σ σ1 : L2.St} {H H1 H' : Hp} {Z Z1 Z' : AP1}
theorem RetV.back {d : D} {v : V} (h : RetV K ro io Γ1 n1 σ1 H1 H' Z' d v) (S : Step K io Γ Γ1 mu n σ H Z n1 σ1 H1 Z1) : RetV K ro io Γ n σ H H' Z' d v := by
  unfold RetV at h ⊢
  split
  · rename_i e
    rw [if_pos e] at h
    refine ⟨h.1, fun l a e1 e2 => ?_⟩
    rcases h.2 l a e1 e2 with z | ⟨j, hj, f, il, s⟩
    · refine .inl ?_
      cases e : H a with
      | none => rfl
      | some o => exact absurd z (S.fr.there a (by rw [e]; simp))
    · rcases S.own j a f il s with ⟨q1, q2, q3⟩ | z
      · exact .inr ⟨j, hj, q1, q2, q3⟩
      · exact .inl z
  · rename_i e
    rw [if_neg e] at h
    exact h
/-- a goal, from a later state on -/
theorem Goal.on {c : Cs} {L : List Fg} {mu2 mu3 : List Nat} {r r2 : CR} {fl : Fl} {D : Ends} (g : Goal K c L Γ mu3 r n σ H Z fl D) (S : Step K c.c.io Γ Γ1 mu n σ H Z n1 σ1 H1 Z1) (hm : ∀ j ∈ mu ++ mu2, j ∈ mu3) (hr : ∀ Γ', r2 = .ok Γ' → r = .ok Γ') : Goal K c L Γ1 mu2 r2 n1 σ1 H1 Z1 fl D :=
  ⟨fun n' Γ' e1 e2 σ' H' Z' S2 => g.nx n' Γ' e1 (hr _ e2) σ' H' Z' ((S.trans S2).mono hm), fun n' e1 σ' H' Z' S2 => g.bk n' e1 σ' H' Z' ((S.trans S2).mono hm), fun n' e1 σ' H' Z' S2 => g.ct n' e1 σ' H' Z' ((S.trans S2).mono hm),
   fun d n' e1 v Γ' σ' H' Z' S2 rv => g.rt d n' e1 v Γ' σ' H' Z' ((S.trans S2).mono hm) (rv.back S)⟩
/-- an own list is changed -/
theorem SI.upd (I : SI K Γ n σ H Z) {i : Nat} {l m : List D} {a : Addr} {xs ys : List V} (hf : flag Γ i = .own) (hd : getN n i = some (.lst l)) (hv : σ[i]? = some (some (.ref a))) (ha : H a = some (.lst xs)) (hr : RpL K H Z m ys) :
    SI K Γ (n.set i (some (.lst m))) σ (upd H a (.lst ys)) Z ∧ Fr (Adr [i] n σ) H Z (upd H a (.lst ys)) Z ∧ KN n (n.set i (some (.lst m))) := by
  have hl : isL n i = true := isL_iff.mpr ⟨l, hd⟩
  have nz : ¬ Z a := (I.own hf hl hv).1
  have hin : i < n.length := by
    unfold getN at hd
    by_cases h : i < n.length
    · exact h
    · rw [List.getElem?_eq_none (by omega)] at hd; cases hd
  have f : Fr (Adr [i] n σ) H Z (L2.upd H a (.lst ys)) Z := ⟨fun _ h => h, fun p o e nw => by
    rw [upd_ne]
    · exact e
    · exact fun q => nw ⟨i, by simp, hl, by rw [q]; exact hv⟩, fun _ h => .inl h, fun p h => by
    by_cases e : p = a
    · rw [e, upd_same]; simp
    · rw [upd_ne e]; exact h⟩
  have kn : KN n (n.set i (some (.lst m))) := fun j => by
    by_cases e : j = i
    · subst e
      rw [hl]
      exact isL_iff.mpr ⟨m, getN_set_eq hin⟩
    · unfold isL; rw [getN_set e]
  have kz : ∀ p o, Z p → H p = some o → L2.upd H a (.lst ys) p = some o := fun p o z e => by rw [upd_ne fun q : p = a => nz (by rw [← q]; exact z)]; exact e
  refine ⟨I.after f (fun j hj => by rw [List.mem_singleton.mp hj]; exact hf) (List.length_set ..) (fun j hj => getN_set fun e => hj (by simp [e])) kn (fun j hj d hd' => ?_) fun p h => ?_, f, kn⟩
  · rw [List.mem_singleton.mp hj] at hd' ⊢
    rw [getN_set_eq hin] at hd'
    cases hd'
    refine ⟨.ref a, hv, ?_⟩
    rw [hf]
    exact ⟨a, ys, rfl, nz, upd_same, RpL.mono (fun _ h => h) kz _ _ hr⟩
  · by_cases e : p = a
    · rw [e, upd_same]; simp
    · rw [upd_ne e]; exact I.zok p h
end
theorem ER.fl_fine {α : Type} {r : ER α} {f : α → Env → Fl} (h : (r.fl f).fine) : ∃ a n, r = .ok a n ∧ (f a n).fine ∧ r.fl f = f a n := by
  cases r with
  | ok a n => exact ⟨a, n, rfl, h, rfl⟩
  | ex x n => exact absurd rfl (h.2 x n)
  | bad => exact absurd rfl h.1
theorem lift_fl {α : Type} {r : Option α} {n : Env} {f : α → Env → Fl} (h : ((lift r n).fl f).fine) : ∃ a, r = some a ∧ (f a n).fine ∧ (lift r n).fl f = f a n := by
  cases r with
  | some a => exact ⟨a, rfl, h, rfl⟩
  | none => exact absurd rfl h.1
/-- a while's turns, counted -/
inductive WhN (c : Env → ER Bool) (body : Env → Fl) : Nat → Env → Fl → Prop where
  | stop {n m : Env} : c n = .ok false m → WhN c body 0 n (.nx m)
  | next {j : Nat} {n m k : Env} {f : Fl} : c n = .ok true m → (body m = .nx k ∨ body m = .ct k) → WhN c body j k f → WhN c body (j + 1) n f
  | brk {n m k : Env} : c n = .ok true m → body m = .bk k → WhN c body 0 n (.nx k)
  | out {n m : Env} {f : Fl} : c n = .ok true m → body m = f → (∀ k, f ≠ .nx k) → (∀ k, f ≠ .ct k) → (∀ k, f ≠ .bk k) → WhN c body 0 n f
theorem WhR.count {c : Env → ER Bool} {body : Env → Fl} {n : Env} {f : Fl} (h : WhR c body n f) (hf : f.fine) : ∃ j, WhN c body j n f := by
  induction h with
  | stop e => exact ⟨0, .stop e⟩
  | cex e => exact absurd rfl (hf.2 _ _)
  | cbad e => exact absurd rfl hf.1
  | next e b w ih =>
    obtain ⟨j, h⟩ := ih hf
    exact ⟨j + 1, .next e b h⟩
  | brk e b => exact ⟨0, .brk e b⟩
  | out e b h1 h2 h3 => exact ⟨0, .out e b h1 h2 h3⟩
section
variable {Φ : Fns} {k : Nat} {c : Cs} {L Γ : List Fg} {X : Cx}
theorem so_asg (ok : XOk Φ c.c k X) {i : Nat} {e : E} {x : Str} {p pos : Pos} {v : Expr} (ge : GE Φ c.c Γ X e v) (h1 : c.c.N[i]? = some x) (h2 : locB c.c.sw x = true) (h3 : i ∉ c.c.io) (h5 : i < Γ.length) (h6 : notLc v = true) (h7 : e.md c.c Γ ≠ .brw) :
    SOk Φ c L Γ X e.wr (S.den Φ (.asg i e)) (.ok (Γ.set i (if c.ow.contains i && decide (e.md c.c Γ = .own) then .own else .frz))) (PS X (.Assign [.Name x p] v pos)) := by
  obtain ⟨w, t, pe, q⟩ := ge
  obtain ⟨l1, l2⟩ := ok.loc x h2
  have hs : swapsWith v (some (.Name x p)) pos.line X.env = pure false := by cases v <;> first | rfl | exact Bool.noConfusion h6
  refine ⟨_, ps_set (by rw [ok.N]; exact ok.nd) (by rw [ok.N]; exact h1) l1 pe hs l2, fun n σ H Z I hl D fin g => ?_⟩
  simp only [S.den] at fin g
  obtain ⟨d, n1, e1, _, e2⟩ := ER.fl_fine fin
  rw [e2] at g
  refine q n σ H Z I d n1 e1 _ fun vv H1 Z1 I1 k1 f1 val => ?_
  have S1 := Step.ofE (io := c.c.io) I I1 k1 f1 w
  obtain ⟨Z2, S2⟩ := S1.asg I k1 val h7 (f := if c.ow.contains i && decide (e.md c.c Γ = .own) then .own else .frz) (by
    split
    · rename_i hh
      simp only [Bool.and_eq_true, decide_eq_true_eq] at hh
      exact .inr ⟨rfl, hh.2⟩
    · exact .inl rfl) h5 (by rw [hl]; exact h5) h3
  exact g.nx _ _ rfl rfl _ H1 Z2 S2
theorem aug_ip {o : Bop} {p : Operator} (h : augB o p = true) : ∃ tip, PIp X p tip ∧ ∀ x y z, augD o x y = some z → ∃ a b r, x = .int a ∧ y = .int b ∧ z = .int r ∧ ∀ H Q, Q (.int r) H → tip (.int a) (.int b) H Q := by
  cases o <;> cases p <;> first | cases (show false = true from h) | skip
  · exact ⟨_, ip_add, fun x y z e => by
      cases x <;> cases y <;> simp only [augD, reduceCtorEq] at e
      cases e; exact ⟨_, _, _, rfl, rfl, rfl, fun H Q q => ⟨_, _, rfl, rfl, q⟩⟩⟩
  · exact ⟨_, ip_sub, fun x y z e => by
      cases x <;> cases y <;> simp only [augD, reduceCtorEq] at e
      cases e; exact ⟨_, _, _, rfl, rfl, rfl, fun H Q q => ⟨_, _, rfl, rfl, q⟩⟩⟩
  · refine ⟨_, iop_mul, fun x y z e => ?_⟩
    cases x <;> cases y <;> simp only [augD, reduceCtorEq] at e
    split at e
    · rename_i hc
      cases e
      exact ⟨_, _, _, rfl, rfl, rfl, fun H Q q => ⟨_, _, rfl, rfl, by unfold CMul; omega, q⟩⟩
    · cases e
  · refine ⟨_, iop_fdivW, fun x y z e => ?_⟩
    cases x <;> cases y <;> simp only [augD, reduceCtorEq] at e
    split at e
    · rename_i j hc
      cases e
      refine ⟨_, _, _, rfl, rfl, rfl, fun H Q q => ⟨_, _, rfl, rfl, ⟨hc.1, ?_⟩, q⟩⟩
      have := (Nat.log2_lt (n := j.natAbs) (by omega)).mpr hc.2
      omega
    · cases e
theorem set_flag {Γ : List Fg} {i : Nat} (h : flag Γ i = .frz) (hl : i < Γ.length) : Γ.set i .frz = Γ := by
  apply List.ext_getElem?
  intro j
  rw [List.getElem?_set]
  by_cases e : i = j
  · subst e
    rw [if_pos rfl, if_pos hl]
    unfold flag at h
    rw [List.getD_eq_getElem?_getD, List.getElem?_eq_getElem hl] at h
    rw [List.getElem?_eq_getElem hl]
    exact congrArg some h.symm
  · rw [if_neg e]
theorem so_aug (ok : XOk Φ c.c k X) {i : Nat} {o : Bop} {e : E} {x : Str} {p pos : Pos} {op : Operator} {v : Expr} (ge : GE Φ c.c Γ X e v) (h1 : c.c.N[i]? = some x) (h2 : locB c.c.sw x = true) (h3 : i ∉ c.c.io) (h5 : i < Γ.length) (hf : flag Γ i = .frz) (hop : augB o op = true) :
    SOk Φ c L Γ X e.wr (S.den Φ (.aug i o e)) (.ok Γ) (PS X (.AugAssign (.Name x p) op v pos)) := by
  obtain ⟨w, t, pe, q⟩ := ge
  obtain ⟨l1, l2⟩ := ok.loc x h2
  obtain ⟨tip, hip, hz⟩ := aug_ip (X := X) hop
  refine ⟨_, ps_aug (by rw [ok.N]; exact ok.nd) (by rw [ok.N]; exact h1) l1 pe hip l2, fun n σ H Z I hl D fin g => ?_⟩
  simp only [S.den] at fin g
  obtain ⟨dx, ex, fin2, e0⟩ := lift_fl fin
  rw [e0] at g
  obtain ⟨d, n1, e1, fin3, e2⟩ := ER.fl_fine fin2
  rw [e2] at g
  obtain ⟨z, ez, _, e3⟩ := lift_fl fin3
  rw [e3] at g
  obtain ⟨a, b, r, rfl, rfl, rfl, htip⟩ := hz _ _ _ ez
  obtain ⟨u, eu, ru⟩ := I.slot i _ ex
  have hu : u = .int a := rpb_int ru.b
  subst hu
  refine ⟨_, eu, q n σ H Z I _ n1 e1 _ fun vv H1 Z1 I1 k1 f1 val => ?_⟩
  have hv : vv = .int b := rpb_int val.rb
  subst hv
  refine htip _ _ ?_
  have S1 := Step.ofE (io := c.c.io) I I1 k1 f1 w
  obtain ⟨Z2, S2⟩ := S1.asg I k1 (Val.frz (b := []) (H := H) I1 (d := .int r) (v := .int r) (by simp [Rp])) (by decide) (f := .frz) (.inl rfl) h5 (by rw [hl]; exact h5) h3
  rw [set_flag hf h5] at S2
  exact g.nx _ _ rfl rfl _ H1 Z2 S2
theorem sw_is {env : PySem.Env} {elt : Expr} {gs : List Comprehension} {blk : Scope} {q p : Pos} {x : Str} {l : Nat} (hk : env.scope.kind = .function) : swapsWith (.ListComp elt gs blk q) (some (.Name x p)) l env = pure (swapB env.scope x p (.ListComp elt gs blk q)) := by
  have hb : env.blockKind = .function := by unfold Env.blockKind; rw [hk]; rfl
  unfold swapsWith swapB
  simp only [hb, Expr.pos]
  rfl
theorem so_asgLc (ok : XOk Φ c.c k X) {i : Nat} {elt it dd : E} {tg : Tg} {own : List Nat} {x : Str} {p pos q : Pos} {l : Expr} {gs : List Comprehension} {blk : Scope} (ck : (E.lc elt tg it dd own).chk c.c Γ (.ListComp l gs blk q) = true) (h1 : c.c.N[i]? = some x) (h2 : locB c.c.sw x = true) (h3 : i ∉ c.c.io) (h5 : i < Γ.length) (hk : c.c.sc.kind = .function) :
    SOk Φ c L Γ X (E.lc elt tg it dd own).wr (S.den Φ (.asg i (.lc elt tg it dd own))) (.ok (Γ.set i (if c.ow.contains i && decide ((E.lc elt tg it dd own).md c.c Γ = .own) then .own else .frz))) (PS X (.Assign [.Name x p] (.ListComp l gs blk q) pos)) := by
  obtain ⟨l1, l2⟩ := ok.loc x h2
  have ge := (e_sound (E.lc elt tg it dd own) ok _ ck).1
  obtain ⟨t, i0, fs, ow, wi, g0, tt, te, rfl, hns, pi, bok, hg, ht, he, hw, sem⟩ := lc_sound ok ck
  have hks : X.env.scope.kind = .function := by rw [ok.sc]; exact hk
  have ps : PS X (.Assign [.Name x p] (.ListComp l [⟨t, i0, fs, 0⟩] blk q) pos) (tAsg (tLc wi g0 tt te (ow.map (·.2))) (gName i)) := by
    have hsw := sw_is (elt := l) (gs := [⟨t, i0, fs, 0⟩]) (blk := blk) (q := q) (p := p) (x := x) (l := pos.line) hks
    cases hb : swapB X.env.scope x p (.ListComp l [⟨t, i0, fs, 0⟩] blk q) with
    | true =>
      rw [hb] at hsw
      have hy : X.env.scope.names.lookup x = some .local := by
        simp only [swapB, Bool.and_eq_true, beq_iff_eq] at hb
        exact hb.1.1
      exact ps_setLc (own := ow) ok.calm (by rw [ok.N]; exact ok.nd) (by rw [ok.N]; exact h1) hy hsw pi bok hg ht he (folded hns)
    | false =>
      rw [hb] at hsw
      exact ps_set (by rw [ok.N]; exact ok.nd) (by rw [ok.N]; exact h1) l1 (pe_lc (own := ow) ok.calm (by rw [ok.N]; exact ok.nd) pi bok hg ht he (folded hns)) hsw l2
  refine ⟨_, ps, fun n σ H Z I hl D fin g => ?_⟩
  have hden : S.den Φ (.asg i (.lc elt tg it dd own)) n = ((E.lc elt tg it dd own).den Φ n).fl fun d n => .nx (n.set i (some d)) := by simp only [S.den]
  rw [hden] at fin g
  obtain ⟨d, n1, e1, _, e2⟩ := ER.fl_fine fin
  rw [e2] at g
  refine sem n σ H Z I d n1 e1 _ fun vv H1 Z1 I1 k1 f1 val => ?_
  have S1 := Step.ofE (io := c.c.io) I I1 k1 f1 hw
  obtain ⟨Z2, S2⟩ := S1.asg I k1 val (fun e => by cases e) (f := if c.ow.contains i && decide ((E.lc elt tg it dd own).md c.c Γ = .own) then .own else .frz) (by
    split
    · exact .inr ⟨rfl, rfl⟩
    · exact .inl rfl) h5 (by rw [hl]; exact h5) h3
  exact g.nx _ _ rfl rfl _ H1 Z2 S2
theorem so_asgLc2 (ok : XOk Φ c.c k X) {i : Nat} {elt it it1 dd : E} {tg tg1 : Tg} {own own1 : List Nat} {x : Str} {p pos : Pos} {a : Expr} (ck : (E.lc2 elt tg it tg1 it1 dd own own1).chk c.c Γ a = true) (h1 : c.c.N[i]? = some x) (h2 : locB c.c.sw x = true) (h3 : i ∉ c.c.io) (h5 : i < Γ.length) (hk : c.c.sc.kind = .function) :
    SOk Φ c L Γ X (E.lc2 elt tg it tg1 it1 dd own own1).wr (S.den Φ (.asg i (.lc2 elt tg it tg1 it1 dd own own1))) (.ok (Γ.set i (if c.ow.contains i && decide ((E.lc2 elt tg it tg1 it1 dd own own1).md c.c Γ = .own) then .own else .frz))) (PS X (.Assign [.Name x p] a pos)) := by
  obtain ⟨l1, l2⟩ := ok.loc x h2
  obtain ⟨q, qp, ow, wi, wi1, g0, g1, tt, te, rfl, hns, hns1, pi, bok, hvv, hg, hi1, hg1, ht, he, hw, sem⟩ := lc2_sound ok ck
  have hks : X.env.scope.kind = .function := by rw [ok.sc]; exact hk
  have ps : PS X (.Assign [.Name x p] (.ListComp q.l [⟨q.t, q.i, [], 0⟩, ⟨q.t1, q.i1, q.fs, 0⟩] q.blk qp) pos) (tAsg (tLc2 wi g0 tYes wi1 g1 tt te (ow.map (·.2)) own1) (gName i)) := by
    have hsw := sw_is (elt := q.l) (gs := [⟨q.t, q.i, [], 0⟩, ⟨q.t1, q.i1, q.fs, 0⟩]) (blk := q.blk) (q := qp) (p := p) (x := x) (l := pos.line) hks
    cases hb : swapB X.env.scope x p (.ListComp q.l [⟨q.t, q.i, [], 0⟩, ⟨q.t1, q.i1, q.fs, 0⟩] q.blk qp) with
    | true =>
      rw [hb] at hsw
      have hy : X.env.scope.names.lookup x = some .local := by
        simp only [swapB, Bool.and_eq_true, beq_iff_eq] at hb
        exact hb.1.1
      exact ps_setLc2 (own := ow) ok.calm (by rw [ok.N]; exact ok.nd) (by rw [ok.N]; exact h1) hy hsw pi bok hvv hg (fun s H C cl fp => pts_nil) hi1 hg1 ht he (folded hns) (fun env x => folded hns1 x)
    | false =>
      rw [hb] at hsw
      exact ps_set (by rw [ok.N]; exact ok.nd) (by rw [ok.N]; exact h1) l1 (pe_lc2 (own := ow) ok.calm (by rw [ok.N]; exact ok.nd) pi bok hvv hg (fun s H C cl fp => pts_nil) hi1 hg1 ht he (folded hns) (fun env x => folded hns1 x)) hsw l2
  refine ⟨_, ps, fun n σ H Z I hl D fin g => ?_⟩
  have hden : S.den Φ (.asg i (.lc2 elt tg it tg1 it1 dd own own1)) n = ((E.lc2 elt tg it tg1 it1 dd own own1).den Φ n).fl fun d n => .nx (n.set i (some d)) := by simp only [S.den]
  rw [hden] at fin g
  obtain ⟨d, n1, e1, _, e2⟩ := ER.fl_fine fin
  rw [e2] at g
  refine sem n σ H Z I d n1 e1 _ fun vv H1 Z1 I1 k1 f1 val => ?_
  have S1 := Step.ofE (io := c.c.io) I I1 k1 f1 hw
  obtain ⟨Z2, S2⟩ := S1.asg I k1 val (fun e => by cases e) (f := if c.ow.contains i && decide ((E.lc2 elt tg it tg1 it1 dd own own1).md c.c Γ = .own) then .own else .frz) (by
    split
    · exact .inr ⟨rfl, rfl⟩
    · exact .inl rfl) h5 (by rw [hl]; exact h5) h3
  exact g.nx _ _ rfl rfl _ H1 Z2 S2
mutual
theorem tg_io : ∀ (t : Tg) {c : Cx0} {e : Expr}, t.chk c e = true → ∀ j ∈ t.slots, j ∉ c.io
  | .nm i, c, e, h, j, hj => by
    cases e <;> first | cases (show false = true from h) | skip
    simp only [Tg.chk, Bool.and_eq_true, Bool.not_eq_true', List.contains_eq_mem, decide_eq_false_iff_not] at h
    simp only [Tg.slots, List.mem_singleton] at hj
    rw [hj]; exact h.2
  | .tp l, c, e, h, j, hj => by
    cases e <;> first | cases (show false = true from h) | skip
    exact tgs_io l (show chkTL c l _ = true from h) j (by simpa only [Tg.slots] using hj)
theorem tgs_io : ∀ (l : List Tg) {c : Cx0} {es : List Expr}, chkTL c l es = true → ∀ j ∈ slotsL l, j ∉ c.io
  | [], _, _, _, j, hj => by simp [slotsL] at hj
  | t :: r, c, [], h, j, hj => by simp [chkTL] at h
  | t :: r, c, e :: es, h, j, hj => by
    simp only [chkTL, Bool.and_eq_true] at h
    simp only [slotsL, List.mem_append] at hj
    rcases hj with hj | hj
    · exact tg_io t h.1.1 j hj
    · exact tgs_io r h.2 j hj
end
/-- names of what stays are given values -/
theorem Step.tg {K : PySem.W.Frag} {io : List Nat} {Γ : List Fg} {mu : List Nat} {n n1 n2 : Env} {σ σ1 σ2 : L2.St} {H H1 : Hp} {Z Z1 : AP1} {t : Tg} {d : D} (S : Step K io Γ Γ mu n σ H Z n1 σ1 H1 Z1) (ea : asgD t d n1 = some n2) (I2 : SI K Γ n2 σ2 H1 Z1) (hs : ∀ j, j ∉ t.slots → σ2[j]? = σ1[j]?) (hl : σ2.length = σ1.length)
    (hf : ∀ j ∈ t.slots, flag Γ j = .frz) (hio : ∀ j ∈ t.slots, j ∉ io) : Step K io Γ Γ mu n σ H Z n2 σ2 H1 Z1 := by
  have kn : ∀ j, j ∉ t.slots → isL n2 j = isL n1 j := fun j hj => by unfold isL; rw [asg_keep t ea j hj]
  refine ⟨I2, S.fr, fun j p h1 h2 h3 => ?_, fun i hi => ?_, by rw [I2.len, hl, ← S.si.len]; exact S.len.1, rfl⟩
  · have hj : j ∉ t.slots := fun h => by rw [hf j h] at h1; cases h1
    exact S.own j p h1 ((kn j hj).symm.trans h2) ((hs j hj).symm.trans h3)
  · have hj : i ∉ t.slots := fun h => hio i h hi
    obtain ⟨x1, x2, x3⟩ := S.io i hi
    exact ⟨(hs i hj).trans x1, (kn i hj).trans x2, x3⟩
theorem so_asgT (ok : XOk Φ c.c k X) {t : Tg} {e : E} {es : List Expr} {kk : Nat} {p pos : Pos} {v : Expr} (ht : t.chk c.c (.Tuple es kk p) = true) (ge : GE Φ c.c Γ X e v) (h3 : notLc v = true) (h4 : isTupLit v = false) (h5 : e.md c.c Γ ≠ .brw) (h6 : ∀ j ∈ t.slots, flag Γ j = .frz) :
    SOk Φ c L Γ X e.wr (S.den Φ (.asgT t e)) (.ok Γ) (PS X (.Assign [.Tuple es kk p] v pos)) := by
  obtain ⟨w, te, pe, q⟩ := ge
  have pg := pg_chk (Γ := Γ) ok t _ ht h6
  have hs : swapsWithSole [.Tuple es kk p] v pos.line X.env = pure false := by cases v <;> first | rfl | exact Bool.noConfusion h3
  have hw : swappedStores [.Tuple es kk p] v X.env = pure none := by cases v <;> first | rfl | exact Bool.noConfusion h4
  refine ⟨_, ps_asg pe pg hs hw rfl, fun n σ H Z I hl D fin g => ?_⟩
  simp only [S.den] at fin g
  obtain ⟨d, n1, e1, fin2, e2⟩ := ER.fl_fine fin
  rw [e2] at g
  refine q n σ H Z I d n1 e1 _ fun vv H1 Z1 I1 k1 f1 val => ?_
  obtain ⟨Z2, I2, f2, r2, _, _⟩ := val.eat I1 I k1 f1 h5
  cases ea : asgD t d n1 with
  | none => rw [ea] at fin2; exact absurd rfl fin2.1
  | some n2 =>
    rw [ea] at g
    refine ⟨n1, Z2, d, n2, I2, r2, ea, fun σ2 I3 hs2 hl2 => ?_⟩
    exact g.nx _ _ rfl rfl _ H1 Z2 ((Step.ofE (io := c.c.io) I I2 k1 f2 w).tg ea I3 hs2 hl2 h6 (tg_io t ht))
theorem so_ex (ok : XOk Φ c.c k X) {e : E} {v : Expr} {pos : Pos} (ge : GE Φ c.c Γ X e v) (h : notLc v = true) : SOk Φ c L Γ X e.wr (S.den Φ (.ex e)) (.ok Γ) (PS X (.Expr v pos)) := by
  obtain ⟨w, te, pe, q⟩ := ge
  have hs : swapsWith v none pos.line X.env = pure false := by cases v <;> first | rfl | exact Bool.noConfusion h
  refine ⟨_, ps_expr pe hs, fun n σ H Z I hl D fin g => ?_⟩
  simp only [S.den] at fin g
  obtain ⟨d, n1, e1, fin2, e2⟩ := ER.fl_fine fin
  rw [e2] at g
  exact q n σ H Z I d n1 e1 _ fun vv H1 Z1 I1 k1 f1 val => g.nx _ _ rfl rfl _ H1 Z1 (Step.ofE I I1 k1 f1 w)
theorem so_ret (ok : XOk Φ c.c k X) {e : E} {v : Expr} {pos : Pos} (ge : GE Φ c.c Γ X e v) (h : (c.ro = true ∧ e.md c.c Γ = .own) ∨ (c.ro = false ∧ e.md c.c Γ ≠ .brw)) : SOk Φ c L Γ X e.wr (S.den Φ (.ret e)) .dead (PS X (.Return (some v) pos)) := by
  obtain ⟨w, te, pe, q⟩ := ge
  refine ⟨_, ps_ret pe, fun n σ H Z I hl D fin g => ?_⟩
  simp only [S.den] at fin g
  obtain ⟨d, n1, e1, fin2, e2⟩ := ER.fl_fine fin
  rw [e2] at g
  refine q n σ H Z I d n1 e1 _ fun vv H1 Z1 I1 k1 f1 val => ?_
  rcases h with ⟨h1, h2⟩ | ⟨h1, h2⟩
  · have ow := val.ow h2
    refine g.rt d n1 rfl vv Γ σ H1 Z1 (Step.ofE I I1 k1 f1 w) ?_
    unfold RetV
    rw [if_pos h1]
    exact ⟨ow.1, fun l a e1 e2 => .inl (ow.2 l a e1 e2)⟩
  · obtain ⟨Z2, I2, f2, r2, _, _⟩ := val.eat I1 I k1 f1 h2
    refine g.rt d n1 rfl vv Γ σ H1 Z2 (Step.ofE I I2 k1 f2 w) ?_
    unfold RetV
    rw [if_neg (by rw [h1]; exact Bool.false_ne_true)]
    exact r2
theorem so_retV (ok : XOk Φ c.c k X) {i : Nat} {v : Expr} {pos : Pos} (ck : (E.var i).chk c.c Γ v = true) (h : (flag Γ i = .frz ∧ c.ro = false) ∨ (c.ro = true ∧ flag Γ i = .own ∧ i ∉ c.c.io)) : SOk Φ c L Γ X (E.var i).wr (S.den Φ (.ret (.var i))) .dead (PS X (.Return (some v) pos)) := by
  cases v <;> first | cases (show false = true from ck) | skip
  rename_i x p
  simp only [E.chk, Bool.and_eq_true, beq_iff_eq, Bool.not_eq_true'] at ck
  obtain ⟨⟨⟨c1, c2⟩, c3⟩, c4⟩ := ck
  have pe : PE X (.Name x p) (tVar i) := pe_var (by rw [ok.N]; exact c1) (by rw [ok.sc]; exact vis_of c2) c3 c4
  refine ⟨_, ps_ret pe, fun n σ H Z I hl D fin g => ?_⟩
  simp only [S.den, E.den] at fin g
  obtain ⟨d, e1, fin2, e2⟩ := lift_fl fin
  rw [e2] at g
  obtain ⟨v, hv, r⟩ := I.slot i d e1
  refine ⟨v, hv, g.rt d n rfl v Γ σ H Z (Step.refl I) ?_⟩
  unfold RetV
  rcases h with ⟨h1, h2⟩ | ⟨h1, h2, h3⟩
  · rw [if_neg (by rw [h2]; exact Bool.false_ne_true)]
    rw [h1] at r
    exact r
  · rw [if_pos h1]
    rw [h2] at r
    refine ⟨r, fun l a ed ev => .inr ⟨i, h3, h2, isL_iff.mpr ⟨l, by rw [e1, ed]⟩, by rw [hv, ev]⟩⟩
theorem so_setI (ok : XOk Φ c.c k X) {i : Nat} {ix e : E} {x : Str} {p p2 pos : Pos} {kx v : Expr} (ck : (E.var i).chk c.c Γ (.Name x p) = true) (gi : GE Φ c.c Γ X ix kx) (hsl : notSlc kx = true) (ge : GE Φ c.c Γ X e v) (hm : e.md c.c Γ ≠ .brw) (hf : flag Γ i = .own) (hni : i ∉ ix.wr) :
    SOk Φ c L Γ X (e.wr ++ (ix.wr ++ [i])) (S.den Φ (.setI i ix e)) (.ok Γ) (PS X (.Assign [.Subscript (.Name x p) kx p2] v pos)) := by
  simp only [E.chk, Bool.and_eq_true, beq_iff_eq, Bool.not_eq_true'] at ck
  obtain ⟨⟨⟨c1, c2⟩, c3⟩, c4⟩ := ck
  have pv : PE X (.Name x p) (tVar i) := pe_var (by rw [ok.N]; exact c1) (by rw [ok.sc]; exact vis_of c2) c3 c4
  obtain ⟨w, te, pe, q⟩ := ge
  obtain ⟨wi, ti, pi, qi⟩ := gi
  have pg : PG X (.Subscript (.Name x p) kx p2) (gSub (tVar i) ti rSetL) := pg_sub pv pi set_list (by cases kx <;> first | (intro _; rfl) | exact Bool.noConfusion hsl)
  have hs : swapsWithSole [.Subscript (.Name x p) kx p2] v pos.line X.env = pure false := by cases v <;> rfl
  have hw : swappedStores [.Subscript (.Name x p) kx p2] v X.env = pure none := by cases v <;> rfl
  refine ⟨_, ps_asg pe pg hs hw (by cases kx <;> rfl), fun n σ H Z I hl D fin g => ?_⟩
  simp only [S.den] at fin g
  obtain ⟨d, n1, e1, fin, e2⟩ := ER.fl_fine fin
  rw [e2] at g
  obtain ⟨xd, e3, fin, e4⟩ := lift_fl fin
  rw [e4] at g
  obtain ⟨kd, n2, e5, fin, e6⟩ := ER.fl_fine fin
  rw [e6] at g
  obtain ⟨z, e7, fin, e8⟩ := lift_fl fin
  rw [e8] at g
  obtain ⟨l, kk, rfl, rfl, hk, rfl⟩ : ∃ l kk, xd = .lst l ∧ kd = .int kk ∧ (0 ≤ kk ∧ kk.toNat < l.length) ∧ z = .lst (l.set kk.toNat d) := by
    unfold setD at e7
    split at e7
    · split at e7
      · rename_i hh
        cases e7
        exact ⟨_, _, rfl, rfl, hh, rfl⟩
      · cases e7
    · cases e7
  refine q n σ H Z I d n1 e1 _ fun vv H1 Z1 I1 k1 f1 val => ?_
  obtain ⟨Z2, I2, f2, r2, _, _⟩ := val.eat I1 I k1 f1 hm
  obtain ⟨o, ho, ro⟩ := I2.slot i _ e3
  refine ⟨o, ho, ?_⟩
  refine qi n1 σ H1 Z2 I2 _ n2 e5 _ fun kv H3 Z3 I3 k3 f3 val3 => ?_
  have e9 : getN n2 i = some (.lst l) := (den_keep ix e5 i hni).trans e3
  obtain ⟨o2, ho2, ro2⟩ := I3.slot i _ e9
  rw [ho] at ho2
  have ho2 := Option.some.inj (Option.some.inj ho2)
  subst ho2
  rw [hf] at ro2
  obtain ⟨a, xs, rfl, nz, ha, rl⟩ := ro2
  have hlen := rl.len
  refine ⟨a, xs, kk, kk.toNat, rfl, rpb_int val3.rb, ha, ?_, ?_⟩
  · unfold ixN
    rw [if_pos hk.1, if_pos (by omega)]
  · have r3 : Rp X.K H3 Z3 d vv := r2.fr f3 fun p w => (I2.adr wi w).1
    obtain ⟨I4, f4, k4⟩ := I3.upd hf e9 ho ha (rl.set kk.toNat r3)
    have S1 := Step.ofE (io := c.c.io) I I2 k1 f2 w
    have S2 := Step.ofE (io := c.c.io) I2 I3 k3 f3 wi
    have S3 := Step.ofE (io := c.c.io) I3 I4 k4 f4 (fun j hj => by rw [List.mem_singleton.mp hj]; exact hf)
    exact g.nx _ _ rfl rfl _ _ _ (S1.trans (S2.trans S3))
theorem so_app (ok : XOk Φ c.c k X) {i : Nat} {e : E} {x : Str} {p ap cp pos : Pos} {v : Expr} (ck : (E.var i).chk c.c Γ (.Name x p) = true) (ge : GE Φ c.c Γ X e v) (hst : notStar v = true) (hm : e.md c.c Γ ≠ .brw) (hf : flag Γ i = .own) (hni : i ∉ e.wr) (hl : (ap.endLine == cp.line) = true) :
    SOk Φ c L Γ X (wrL [e] ++ [i]) (S.den Φ (.mut .append i [e])) (.ok Γ) (PS X (.Expr (.Call (.Attribute (.Name x p) "append" ap) [v] [] cp) pos)) := by
  simp only [E.chk, Bool.and_eq_true, beq_iff_eq, Bool.not_eq_true'] at ck
  obtain ⟨⟨⟨c1, c2⟩, c3⟩, c4⟩ := ck
  have pv : PE X (.Name x p) (tVar i) := pe_var (by rw [ok.N]; exact c1) (by rw [ok.sc]; exact vis_of c2) c3 c4
  obtain ⟨w, te, pe, q⟩ := ge
  have pb := pe_bm (cpos := cp) (apos := ap) PySem.F.plainAttrs_list PySem.F.slot_list_append PySem.F.type_list_append mt_append pv (pa_cons pe pa_nil (star1 hst)) rfl (by rw [star1 hst]; rfl) hl (star1 hst) rfl
  refine ⟨_, ps_expr pb rfl, fun n σ H Z I hl D fin g => ?_⟩
  simp only [S.den, denL] at fin g
  obtain ⟨xd, e3, fin, e4⟩ := lift_fl fin
  rw [e4] at g
  obtain ⟨ds, n1, e5, fin, e6⟩ := ER.fl_fine fin
  rw [e6] at g
  obtain ⟨z, e7, fin, e8⟩ := lift_fl fin
  rw [e8] at g
  obtain ⟨d, n1', e9, e5⟩ := ER.bind_eq e5
  cases e5
  obtain ⟨l, rfl, hk, rfl⟩ : ∃ l, xd = .lst l ∧ l.length < big ∧ z = (.lst (l ++ [d]), .non) := by
    unfold muD at e7
    cases xd <;> simp only [reduceCtorEq] at e7
    split at e7
    · rename_i hh
      cases e7
      exact ⟨_, rfl, hh, rfl⟩
    · cases e7
  obtain ⟨o, ho, ro⟩ := I.slot i _ e3
  refine ⟨o, ho, ?_⟩
  have ro0 := ro
  rw [hf] at ro0
  obtain ⟨a0, xs0, rfl, nz0, ha0, rl0⟩ := ro0
  refine ⟨.inl ⟨rfl, xs0, SqL.of ha0⟩, ?_⟩
  refine q n σ H Z I d _ e9 _ fun vv H1 Z1 I1 k1 f1 val => ?_
  obtain ⟨Z2, I2, f2, r2, _, _⟩ := val.eat I1 I k1 f1 hm
  have e10 : getN n1 i = some (.lst l) := (den_keep e e9 i hni).trans e3
  obtain ⟨o2, ho2, ro2⟩ := I2.slot i _ e10
  rw [ho] at ho2
  have ho2 := Option.some.inj (Option.some.inj ho2)
  subst ho2
  rw [hf] at ro2
  obtain ⟨a, xs, ea, nz, ha, rl⟩ := ro2
  have ea : a0 = a := by injection ea
  subst ea
  obtain ⟨I4, f4, k4⟩ := I2.upd hf e10 ho ha (rl.app (.cons r2 RpL.nil))
  have S1 := Step.ofE (io := c.c.io) I I2 k1 f2 w
  have S3 := Step.ofE (io := c.c.io) I2 I4 k4 f4 (fun j hj => by rw [List.mem_singleton.mp hj]; exact hf)
  refine ⟨a0, xs, vv, rfl, rfl, ha, by rw [← rl.len, ← big_eq]; exact hk, g.nx _ _ rfl rfl _ _ _ ((S1.trans S3).mono fun j hj => ?_)⟩
  simpa [wrL] using hj
end
end Sc
namespace Sc
open PySem PySem.Spec PyProof.Rows L2
theorem asMut_inv {st : Stmt} {q : MutK} (h : asMut st = some q) : ∃ pos, st = .Expr (.Call (.Attribute (.Name q.x q.p) q.m q.ap) q.args [] q.cp) pos := by
  unfold asMut at h
  split at h
  · cases h; exact ⟨_, rfl⟩
  · cases h
section
variable {Φ : Fns} {c : Cs} {L Γ : List Fg} {X : Cx} {k : Nat}
theorem pv_of (ok : XOk Φ c.c k X) {i : Nat} {x : Str} {p : Pos} (ck : (E.var i).chk c.c Γ (.Name x p) = true) : PE X (.Name x p) (tVar i) := by
  simp only [E.chk, Bool.and_eq_true, beq_iff_eq, Bool.not_eq_true'] at ck
  obtain ⟨⟨⟨c1, c2⟩, c3⟩, c4⟩ := ck
  exact pe_var (by rw [ok.N]; exact c1) (by rw [ok.sc]; exact vis_of c2) c3 c4
theorem so_rvs (ok : XOk Φ c.c k X) {i : Nat} {x : Str} {p ap cp pos : Pos} (ck : (E.var i).chk c.c Γ (.Name x p) = true) (hf : flag Γ i = .own) (hl : (ap.endLine == cp.line) = true) :
    SOk Φ c L Γ X [i] (S.den Φ (.rvs i)) (.ok Γ) (PS X (.Expr (.Call (.Attribute (.Name x p) "reverse" ap) [] [] cp) pos)) := by
  have pb := pe_bm0 (cpos := cp) (apos := ap) PySem.F.plainAttrs_list PySem.F.slot_list_reverse PySem.F.type_list_reverse mt_reverse (pv_of ok ck) rfl hl
  refine ⟨_, ps_expr pb rfl, fun n σ H Z I hl D fin g => ?_⟩
  simp only [S.den] at fin g
  obtain ⟨xd, e3, fin, e4⟩ := lift_fl fin
  rw [e4] at g
  obtain ⟨z, e7, fin, e8⟩ := lift_fl fin
  rw [e8] at g
  obtain ⟨l, rfl, rfl⟩ : ∃ l, xd = .lst l ∧ z = (.lst l.reverse, .non) := by
    unfold muD at e7
    cases xd <;> simp only [reduceCtorEq] at e7
    cases e7
    exact ⟨_, rfl, rfl⟩
  obtain ⟨o, ho, ro⟩ := I.slot i _ e3
  refine ⟨o, ho, ?_⟩
  rw [hf] at ro
  obtain ⟨a, xs, rfl, nz, ha, rl⟩ := ro
  refine ⟨.inl ⟨rfl, xs, SqL.of ha⟩, a, xs, rfl, rfl, ha, ?_⟩
  obtain ⟨I4, f4, k4⟩ := I.upd hf e3 ho ha rl.rev
  exact g.nx _ _ rfl rfl _ _ _ (Step.ofE (io := c.c.io) I I4 k4 f4 (fun j hj => by rw [List.mem_singleton.mp hj]; exact hf))
theorem so_clr (ok : XOk Φ c.c k X) {i : Nat} {x : Str} {p ap cp pos : Pos} (ck : (E.var i).chk c.c Γ (.Name x p) = true) (hf : flag Γ i = .own) (hl : (ap.endLine == cp.line) = true) :
    SOk Φ c L Γ X [i] (S.den Φ (.clr i)) (.ok Γ) (PS X (.Expr (.Call (.Attribute (.Name x p) "clear" ap) [] [] cp) pos)) := by
  have pb := pe_bm0 (cpos := cp) (apos := ap) PySem.F.plainAttrs_list PySem.F.slot_list_clear PySem.F.type_list_clear mt_clear (pv_of ok ck) rfl hl
  refine ⟨_, ps_expr pb rfl, fun n σ H Z I hl D fin g => ?_⟩
  simp only [S.den] at fin g
  obtain ⟨xd, e3, fin, e4⟩ := lift_fl fin
  rw [e4] at g
  obtain ⟨z, e7, fin, e8⟩ := lift_fl fin
  rw [e8] at g
  obtain ⟨l, rfl, rfl⟩ : ∃ l, xd = .lst l ∧ z = (.lst [], .non) := by
    unfold muD at e7
    cases xd <;> simp only [reduceCtorEq] at e7
    cases e7
    exact ⟨_, rfl, rfl⟩
  obtain ⟨o, ho, ro⟩ := I.slot i _ e3
  refine ⟨o, ho, ?_⟩
  rw [hf] at ro
  obtain ⟨a, xs, rfl, nz, ha, rl⟩ := ro
  refine ⟨.inl ⟨rfl, xs, SqL.of ha⟩, a, xs, rfl, rfl, ha, ?_⟩
  obtain ⟨I4, f4, k4⟩ := I.upd hf e3 ho ha RpL.nil
  exact g.nx _ _ rfl rfl _ _ _ (Step.ofE (io := c.c.io) I I4 k4 f4 (fun j hj => by rw [List.mem_singleton.mp hj]; exact hf))
theorem so_ext (ok : XOk Φ c.c k X) {i : Nat} {e : E} {x : Str} {p ap cp pos : Pos} {v : Expr} (ck : (E.var i).chk c.c Γ (.Name x p) = true) (ge : GE Φ c.c Γ X e v) (hst : notStar v = true) (hf : flag Γ i = .own) (hni : i ∉ e.wr) (hl : (ap.endLine == cp.line) = true) :
    SOk Φ c L Γ X (e.wr ++ [i]) (S.den Φ (.ext i e)) (.ok Γ) (PS X (.Expr (.Call (.Attribute (.Name x p) "extend" ap) [v] [] cp) pos)) := by
  obtain ⟨w, te, pe, q⟩ := ge
  have pb := pe_bm (cpos := cp) (apos := ap) PySem.F.plainAttrs_list PySem.F.slot_list_extend PySem.F.type_list_extend mt_extend (pv_of ok ck) (pa_cons pe pa_nil (star1 hst)) rfl (by rw [star1 hst]; rfl) hl (star1 hst) rfl
  refine ⟨_, ps_expr pb rfl, fun n σ H Z I hl D fin g => ?_⟩
  simp only [S.den] at fin g
  obtain ⟨xd, e3, fin, e4⟩ := lift_fl fin
  rw [e4] at g
  obtain ⟨d, n1, e9, fin, e6⟩ := ER.fl_fine fin
  rw [e6] at g
  obtain ⟨z, e7, fin, e8⟩ := lift_fl fin
  rw [e8] at g
  obtain ⟨l, m, rfl, rfl, hk, rfl⟩ : ∃ l m, xd = .lst l ∧ d = .lst m ∧ l.length + m.length ≤ big ∧ z = (.lst (l ++ m), .non) := by
    unfold muD at e7
    cases xd <;> try (cases e7; done)
    cases d <;> try (cases e7; done)
    dsimp only at e7
    split at e7
    · rename_i hh
      cases e7
      exact ⟨_, _, rfl, rfl, hh, rfl⟩
    · cases e7
  obtain ⟨o, ho, ro⟩ := I.slot i _ e3
  refine ⟨o, ho, ?_⟩
  have ro0 := ro
  rw [hf] at ro0
  obtain ⟨a0, xs0, rfl, nz0, ha0, rl0⟩ := ro0
  refine ⟨.inl ⟨rfl, xs0, SqL.of ha0⟩, ?_⟩
  refine q n σ H Z I _ _ e9 _ fun vv H1 Z1 I1 k1 f1 val => ?_
  have e10 : getN n1 i = some (.lst l) := (den_keep e e9 i hni).trans e3
  obtain ⟨o2, ho2, ro2⟩ := I1.slot i _ e10
  rw [ho] at ho2
  have ho2 := Option.some.inj (Option.some.inj ho2)
  subst ho2
  rw [hf] at ro2
  obtain ⟨a, xs, ea, nz, ha, rl⟩ := ro2
  have ea : a0 = a := by injection ea
  subst ea
  obtain ⟨b, zs, rfl, hb, rb⟩ := rpb_lst val.rb
  obtain ⟨I4, f4, k4⟩ := I1.upd hf e10 ho ha (rl.app rb)
  have S1 := Step.ofE (io := c.c.io) I I1 k1 f1 w
  have S3 := Step.ofE (io := c.c.io) I1 I4 k4 f4 (fun j hj => by rw [List.mem_singleton.mp hj]; exact hf)
  exact ⟨a0, b, xs, zs, rfl, rfl, ha, hb, by rw [← rl.len, ← rb.len, ← big_eq]; exact hk, g.nx _ _ rfl rfl _ _ _ (S1.trans S3)⟩
theorem ints_erase {ns : List Int} {k : Int} (h : k ∈ ns) : ∃ j : Nat, ns[j]? = some k ∧ (∀ m : Nat, m < j → ns[m]? ≠ some k) ∧ ns.eraseIdx j = ns.erase k := by
  induction ns with
  | nil => simp at h
  | cons a r ih =>
    by_cases e : a = k
    · subst e
      exact ⟨0, rfl, fun m hm => by omega, by simp⟩
    · have hr : k ∈ r := (List.mem_cons.mp h).resolve_left fun q => e q.symm
      obtain ⟨j, h1, h2, h3⟩ := ih hr
      refine ⟨j + 1, by simpa using h1, fun m hm => ?_, ?_⟩
      · cases m with
        | zero => simpa using e
        | succ m => simpa using h2 m (by omega)
      · have e2 : (a == k) = false := by simpa using e
        rw [List.erase_cons, e2, List.eraseIdx_cons_succ, h3]
        rfl
theorem so_rmv (ok : XOk Φ c.c k X) {i : Nat} {e : E} {x : Str} {p ap cp pos : Pos} {v : Expr} (ck : (E.var i).chk c.c Γ (.Name x p) = true) (ge : GE Φ c.c Γ X e v) (hst : notStar v = true) (hf : flag Γ i = .own) (hni : i ∉ e.wr) (hl : (ap.endLine == cp.line) = true) :
    SOk Φ c L Γ X (e.wr ++ [i]) (S.den Φ (.rmv i e)) (.ok Γ) (PS X (.Expr (.Call (.Attribute (.Name x p) "remove" ap) [v] [] cp) pos)) := by
  obtain ⟨w, te, pe, q⟩ := ge
  have pb := pe_bm (cpos := cp) (apos := ap) PySem.F.plainAttrs_list PySem.F.slot_list_remove PySem.F.type_list_remove mt_remove (pv_of ok ck) (pa_cons pe pa_nil (star1 hst)) rfl (by rw [star1 hst]; rfl) hl (star1 hst) rfl
  refine ⟨_, ps_expr pb rfl, fun n σ H Z I hl D fin g => ?_⟩
  simp only [S.den] at fin g
  obtain ⟨xd, e3, fin, e4⟩ := lift_fl fin
  rw [e4] at g
  obtain ⟨d, n1, e9, fin, e6⟩ := ER.fl_fine fin
  rw [e6] at g
  obtain ⟨z, e7, fin, e8⟩ := lift_fl fin
  rw [e8] at g
  obtain ⟨l, kk, ns, rfl, rfl, hns, hk, rfl⟩ : ∃ l kk ns, xd = .lst l ∧ d = .int kk ∧ intsD l = some ns ∧ kk ∈ ns ∧ z = (.lst ((ns.erase kk).map .int), .non) := by
    unfold muD at e7
    cases xd <;> try (cases e7; done)
    cases d <;> try (cases e7; done)
    obtain ⟨ns, e1, e7⟩ := Option.bind_eq_some_iff.mp e7
    split at e7
    · rename_i hh
      cases e7
      exact ⟨_, _, _, rfl, rfl, e1, hh, rfl⟩
    · cases e7
  obtain ⟨o, ho, ro⟩ := I.slot i _ e3
  refine ⟨o, ho, ?_⟩
  have ro0 := ro
  rw [hf] at ro0
  obtain ⟨a0, xs0, rfl, nz0, ha0, rl0⟩ := ro0
  refine ⟨.inl ⟨rfl, xs0, SqL.of ha0⟩, ?_⟩
  refine q n σ H Z I _ _ e9 _ fun vv H1 Z1 I1 k1 f1 val => ?_
  have e10 : getN n1 i = some (.lst l) := (den_keep e e9 i hni).trans e3
  obtain ⟨o2, ho2, ro2⟩ := I1.slot i _ e10
  rw [ho] at ho2
  have ho2 := Option.some.inj (Option.some.inj ho2)
  subst ho2
  rw [hf] at ro2
  obtain ⟨a, xs, ea, nz, ha, rl⟩ := ro2
  have ea : a0 = a := by injection ea
  subst ea
  have hv : vv = .int kk := rpb_int val.rb
  subst hv
  obtain ⟨rfl, el⟩ := ints_ok hns rl
  obtain ⟨j, j1, j2, j3⟩ := ints_erase hk
  have rn : RpL X.K H1 Z1 ((ns.erase kk).map .int) ((ns.eraseIdx j).map V.int) := by
    rw [j3]
    have : ∀ ms : List Int, RpL X.K H1 Z1 (ms.map .int) (ms.map V.int) := fun ms => by
      induction ms with
      | nil => exact RpL.nil
      | cons m ms ih => exact .cons (by simp only [Rp]) ih
    exact this _
  obtain ⟨I4, f4, k4⟩ := I1.upd hf e10 ho ha rn
  have S1 := Step.ofE (io := c.c.io) I I1 k1 f1 w
  have S3 := Step.ofE (io := c.c.io) I1 I4 k4 f4 (fun j hj => by rw [List.mem_singleton.mp hj]; exact hf)
  exact ⟨a0, ns, kk, j, rfl, rfl, ha, j1, j2, g.nx _ _ rfl rfl _ _ _ (S1.trans S3)⟩
theorem chk_ext {i : Nat} {e : E} {st : Stmt} (h : S.chk c L Γ (.ext i e) st ≠ .bad) : S.chk c L Γ (.ext i e) st = .ok Γ ∧ ∃ x p v ap cp pos, st = .Expr (.Call (.Attribute (.Name x p) "extend" ap) [v] [] cp) pos ∧ (E.var i).chk c.c Γ (.Name x p) = true ∧ e.chk c.c Γ v = true ∧ notStar v = true ∧ flag Γ i = .own ∧ i ∉ e.wr ∧ (ap.endLine == cp.line) = true := by
  unfold S.chk at h ⊢
  cases hq : asMut st with
  | none => rw [hq] at h; exact absurd rfl h
  | some q =>
    obtain ⟨x, p, m, ap, args, cp⟩ := q
    rw [hq] at h
    obtain ⟨pos, rfl⟩ := asMut_inv hq
    match args, h with
    | [], h => exact absurd rfl h
    | _ :: _ :: _, h => exact absurd rfl h
    | [v], h =>
      dsimp only at h ⊢
      split at h
      · rename_i hc
        rw [if_pos hc]
        simp only [Bool.and_eq_true, Bool.not_eq_true', decide_eq_true_eq, List.contains_eq_mem, decide_eq_false_iff_not] at hc
        obtain ⟨⟨⟨⟨⟨⟨h1, h2⟩, h3⟩, h4⟩, h5⟩, h6⟩, h7⟩ := hc
        subst h1
        exact ⟨rfl, x, p, v, ap, cp, pos, rfl, h2, h3, h4, h5, h6, h7⟩
      · exact absurd rfl h
theorem chk_rmv {i : Nat} {e : E} {st : Stmt} (h : S.chk c L Γ (.rmv i e) st ≠ .bad) : S.chk c L Γ (.rmv i e) st = .ok Γ ∧ ∃ x p v ap cp pos, st = .Expr (.Call (.Attribute (.Name x p) "remove" ap) [v] [] cp) pos ∧ (E.var i).chk c.c Γ (.Name x p) = true ∧ e.chk c.c Γ v = true ∧ notStar v = true ∧ flag Γ i = .own ∧ i ∉ e.wr ∧ (ap.endLine == cp.line) = true := by
  unfold S.chk at h ⊢
  cases hq : asMut st with
  | none => rw [hq] at h; exact absurd rfl h
  | some q =>
    obtain ⟨x, p, m, ap, args, cp⟩ := q
    rw [hq] at h
    obtain ⟨pos, rfl⟩ := asMut_inv hq
    match args, h with
    | [], h => exact absurd rfl h
    | _ :: _ :: _, h => exact absurd rfl h
    | [v], h =>
      dsimp only at h ⊢
      split at h
      · rename_i hc
        rw [if_pos hc]
        simp only [Bool.and_eq_true, Bool.not_eq_true', decide_eq_true_eq, List.contains_eq_mem, decide_eq_false_iff_not] at hc
        obtain ⟨⟨⟨⟨⟨⟨h1, h2⟩, h3⟩, h4⟩, h5⟩, h6⟩, h7⟩ := hc
        subst h1
        exact ⟨rfl, x, p, v, ap, cp, pos, rfl, h2, h3, h4, h5, h6, h7⟩
      · exact absurd rfl h
theorem chk_rvs {i : Nat} {st : Stmt} (h : S.chk c L Γ (.rvs i) st ≠ .bad) : S.chk c L Γ (.rvs i) st = .ok Γ ∧ ∃ x p ap cp pos, st = .Expr (.Call (.Attribute (.Name x p) "reverse" ap) [] [] cp) pos ∧ (E.var i).chk c.c Γ (.Name x p) = true ∧ flag Γ i = .own ∧ (ap.endLine == cp.line) = true := by
  unfold S.chk at h ⊢
  cases hq : asMut st with
  | none => rw [hq] at h; exact absurd rfl h
  | some q =>
    obtain ⟨x, p, m, ap, args, cp⟩ := q
    rw [hq] at h
    obtain ⟨pos, rfl⟩ := asMut_inv hq
    match args, h with
    | _ :: _, h => exact absurd rfl h
    | [], h =>
      dsimp only at h ⊢
      split at h
      · rename_i hc
        rw [if_pos hc]
        simp only [Bool.and_eq_true, Bool.not_eq_true', decide_eq_true_eq, List.contains_eq_mem, decide_eq_false_iff_not] at hc
        obtain ⟨⟨⟨h1, h2⟩, h5⟩, h7⟩ := hc
        subst h1
        exact ⟨rfl, x, p, ap, cp, pos, rfl, h2, h5, h7⟩
      · exact absurd rfl h
theorem chk_clr {i : Nat} {st : Stmt} (h : S.chk c L Γ (.clr i) st ≠ .bad) : S.chk c L Γ (.clr i) st = .ok Γ ∧ ∃ x p ap cp pos, st = .Expr (.Call (.Attribute (.Name x p) "clear" ap) [] [] cp) pos ∧ (E.var i).chk c.c Γ (.Name x p) = true ∧ flag Γ i = .own ∧ (ap.endLine == cp.line) = true := by
  unfold S.chk at h ⊢
  cases hq : asMut st with
  | none => rw [hq] at h; exact absurd rfl h
  | some q =>
    obtain ⟨x, p, m, ap, args, cp⟩ := q
    rw [hq] at h
    obtain ⟨pos, rfl⟩ := asMut_inv hq
    match args, h with
    | _ :: _, h => exact absurd rfl h
    | [], h =>
      dsimp only at h ⊢
      split at h
      · rename_i hc
        rw [if_pos hc]
        simp only [Bool.and_eq_true, Bool.not_eq_true', decide_eq_true_eq, List.contains_eq_mem, decide_eq_false_iff_not] at hc
        obtain ⟨⟨⟨h1, h2⟩, h5⟩, h7⟩ := hc
        subst h1
        exact ⟨rfl, x, p, ap, cp, pos, rfl, h2, h5, h7⟩
      · exact absurd rfl h
end
end Sc
namespace Sc
open PySem PySem.Spec PyProof.Rows L2
theorem swap2 {env : PySem.Env} {x y : Str} {px py pt pt2 : Pos} {kt k2 : Nat} {a b : Expr} (hk : env.scope.kind = .function) (hx : env.scope.names.lookup x = some .local) (hy : env.scope.names.lookup y = some .local) (hl : (px.line == py.line) = true) (hn : (x == y) = false) (s1 : notStar a = true) (s2 : notStar b = true)
    (h1 : (foldedForSure 8 a && foldedForSure 8 b) = false) (h2 : (constantsAlone 8 a && constantsAlone 8 b) = false) : swappedStores [.Tuple [.Name x px, .Name y py] kt pt] (.Tuple [a, b] k2 pt2) env = pure (some [x, y]) := by
  have hb : env.blockKind = .function := by unfold Env.blockKind; rw [hk]; rfl
  have kx : env.kindOf x = some .local := hx
  have ky : env.kindOf y = some .local := hy
  have st : ([a, b].any fun | .Starred .. => true | _ => false) = false := by
    cases a <;> first | exact Bool.noConfusion s1 | (cases b <;> first | exact Bool.noConfusion s2 | rfl)
  have hl2 : (py.line == px.line) = true := by
    rw [beq_iff_eq] at hl ⊢; exact hl.symm
  have hd : [x, y].eraseDups = [x, y] := by
    rw [List.eraseDups_cons]
    have : (y == x) = false := by
      rw [beq_eq_false_iff_ne] at hn ⊢; exact fun e => hn e.symm
    simp [List.filter, this, List.eraseDups_cons]
  unfold swappedStores
  simp only [List.length_cons, List.length_nil, hb, List.head?_cons, Option.map_some, Option.getD_some, Expr.pos, List.filterMap_cons, List.filterMap_nil, kx, ky, hl2, beq_self_eq_true, Bool.and_self, if_true, hd, List.all_cons, List.all_nil, Bool.and_true, h1, h2]
  simp only [bne_self_eq_false, Bool.or_false, Bool.not_true, Bool.false_eq_true, if_false, beq_self_eq_true, Bool.or_self, Bool.true_or, st]
  first
  | rfl
  | (simp
     intro h
     exfalso
     rcases h with h | h
     · cases a <;> first | exact Bool.noConfusion s1 | cases (show false = true from h)
     · cases b <;> first | exact Bool.noConfusion s2 | cases (show false = true from h))
section
variable {Φ : Fns} {k : Nat} {c : Cs} {L Γ : List Fg} {X : Cx}
theorem so_par (ok : XOk Φ c.c k X) {i j : Nat} {a b : E} {x y : Str} {px py pt pt2 pos : Pos} {kt k2 : Nat} {l r : Expr} (hk : c.c.sc.kind = .function) (h1 : c.c.N[i]? = some x) (h2 : c.c.N[j]? = some y) (hx : c.c.sc.names.lookup x = some .local) (hy : c.c.sc.names.lookup y = some .local) (hij : i ≠ j)
    (hio : i ∉ c.c.io) (hjo : j ∉ c.c.io) (hl : (px.line == py.line) = true) (hn : (x == y) = false) (s1 : notStar l = true) (s2 : notStar r = true) (f1 : (foldedForSure 8 l && foldedForSure 8 r) = false) (f2 : (constantsAlone 8 l && constantsAlone 8 r) = false)
    (ga : GE Φ c.c Γ X a l) (gb : GE Φ c.c Γ X b r) (ma : a.md c.c Γ ≠ .brw) (mb : b.md c.c Γ ≠ .brw) (fi : flag Γ i = .frz) (fj : flag Γ j = .frz) (li : i < Γ.length) (lj : j < Γ.length) :
    SOk Φ c L Γ X (a.wr ++ b.wr) (S.den Φ (.par i j a b)) (.ok Γ) (PS X (.Assign [.Tuple [.Name x px, .Name y py] kt pt] (.Tuple [l, r] k2 pt2) pos)) := by
  obtain ⟨wa, ta, pa, qa⟩ := ga
  obtain ⟨wb, tb, pb, qb⟩ := gb
  have hw := swap2 (env := X.env) (px := px) (py := py) (pt := pt) (pt2 := pt2) (kt := kt) (k2 := k2) (by rw [ok.sc]; exact hk) (by rw [ok.sc]; exact hx) (by rw [ok.sc]; exact hy) hl hn s1 s2 f1 f2
  refine ⟨_, ps_par ok.calm (by rw [ok.N]; exact ok.nd) (by rw [ok.N]; exact h1) (by rw [ok.N]; exact h2) hij (by rw [ok.sc]; exact hx) (by rw [ok.sc]; exact hy) (pa_cons pa (pa_cons pb pa_nil (star1 s2)) (star1 s1)) hw rfl, fun n σ H Z I hlen D fin g => ?_⟩
  simp only [S.den] at fin g
  obtain ⟨d, n1, e1, fin, e2⟩ := ER.fl_fine fin
  rw [e2] at g
  obtain ⟨d2, n2, e3, fin, e4⟩ := ER.fl_fine fin
  rw [e4] at g
  refine qa n σ H Z I d n1 e1 _ fun v H1 Z1 I1 k1 fr1 v1 => ?_
  obtain ⟨Z2, I2, fr2, r2, _, _⟩ := v1.eat I1 I k1 fr1 ma
  refine qb n1 σ H1 Z2 I2 d2 n2 e3 _ fun v2 H3 Z3 I3 k3 fr3 vv2 => ?_
  obtain ⟨Z4, I4, fr4, r4, _, _⟩ := vv2.eat I3 I2 k3 fr3 mb
  have r2' := r2.fr fr4 fun p w => (I2.adr wb w).1
  have hn2 : n2.length = n.length := by rw [I4.len, I.len]
  refine ⟨v, v2, rfl, ?_⟩
  have I5 := I4.setF fi r2' (by rw [hn2, hlen]; exact li)
  have I6 := I5.setF fj r4 (by rw [List.length_set, hn2, hlen]; exact lj)
  have S1 := (Step.ofE (io := c.c.io) I I2 k1 fr2 wa).trans (Step.ofE (io := c.c.io) I2 I4 k3 fr4 wb)
  have kn : ∀ q, q ≠ i → q ≠ j → isL ((n2.set i (some d)).set j (some d2)) q = isL n2 q ∧ ((σ.set i (some v)).set j (some v2))[q]? = σ[q]? := fun q h1 h2 => by
    refine ⟨by unfold isL; rw [getN_set h2, getN_set h1], by rw [List.getElem?_set_ne fun e => h2 e.symm, List.getElem?_set_ne fun e => h1 e.symm]⟩
  refine g.nx _ _ rfl rfl _ H3 Z4 ⟨I6, S1.fr, fun q p h1 h2 h3 => ?_, fun q hq => ?_, by simp only [List.length_set]; exact ⟨hn2, trivial⟩⟩
  · have q1 : q ≠ i := fun e => by rw [e, fi] at h1; cases h1
    have q2 : q ≠ j := fun e => by rw [e, fj] at h1; cases h1
    obtain ⟨z1, z2⟩ := kn q q1 q2
    exact S1.own q p h1 (z1 ▸ h2) (z2 ▸ h3)
  · have q1 : q ≠ i := fun e => hio (e ▸ hq)
    have q2 : q ≠ j := fun e => hjo (e ▸ hq)
    obtain ⟨z1, z2⟩ := kn q q1 q2
    obtain ⟨x1, x2, x3⟩ := S1.io q hq
    exact ⟨z2.trans x1, z1.trans x2, x3⟩
theorem fl_seq_fine {f : Fl} {g : Env → Fl} (h : (f.seq g).fine) : f.fine := by
  cases f with
  | bad => exact h
  | ex x m => exact h
  | _ => exact ⟨fun e => (by cases e), fun x m e => (by cases e)⟩
theorem so_nil : SOk Φ c L Γ X [] (fun n => denB Φ [] n) (.ok Γ) (PSs X []) :=
  ⟨_, pss_nil, fun n σ H Z I hl D fin g => g.nx n Γ (by simp only [denB]) rfl σ H Z (Step.refl I)⟩
/-- one behind another -/
theorem so_cons {s : Stmt} {ss : List Stmt} {f g : Env → Fl} {m1 m2 : List Nat} {r1 r2 : CR} (h1 : SOk Φ c L Γ X m1 f r1 (PS X s)) (h2 : ∀ Γ1, r1 = .ok Γ1 → SOk Φ c L Γ1 X m2 g r2 (PSs X ss)) (r : CR) (hr : ∀ Γ1, r1 = .ok Γ1 → ∀ Γ2, r2 = .ok Γ2 → r = .ok Γ2) (hd : r1 = .bad ∨ r1 = .dead → ss = []) :
    SOk Φ c L Γ X (m1 ++ m2) (fun n => (f n).seq g) r (PSs X (s :: ss)) := by
  obtain ⟨t, ps, q⟩ := h1
  cases r1 with
  | ok Γ1 =>
    obtain ⟨u, pss, q2⟩ := h2 Γ1 rfl
    refine ⟨_, pss_cons ps pss, fun n σ H Z I hl D fin gl => ?_⟩
    refine q n σ H Z I hl _ (fl_seq_fine fin) ⟨fun n' Γ' e1 e2 σ' H' Z' S1 => ?_, fun n' e1 σ' H' Z' S1 => ?_, fun n' e1 σ' H' Z' S1 => ?_, fun d n' e1 v Γ' σ' H' Z' S1 rv => ?_⟩
    · cases e2
      have e3 : (f n).seq g = g n' := by rw [e1]; rfl
      dsimp only at fin gl
      rw [e3] at fin gl
      exact q2 n' σ' H' Z' S1.si (by rw [S1.len.1, S1.len.2]; exact hl) D fin (gl.on S1 (fun j hj => hj) fun Γ2 e => hr Γ1 rfl Γ2 e)
    · exact gl.bk n' (by dsimp only; rw [e1]; rfl) σ' H' Z' (S1.mono fun j hj => List.mem_append_left _ hj)
    · exact gl.ct n' (by dsimp only; rw [e1]; rfl) σ' H' Z' (S1.mono fun j hj => List.mem_append_left _ hj)
    · exact gl.rt d n' (by dsimp only; rw [e1]; rfl) v Γ' σ' H' Z' (S1.mono fun j hj => List.mem_append_left _ hj) rv
  | bad =>
    cases hd (.inl rfl)
    refine ⟨_, pss_one ps, fun n σ H Z I hl D fin gl => q n σ H Z I hl D (fl_seq_fine fin) ⟨fun n' Γ' e1 e2 => (by cases e2), fun n' e1 σ' H' Z' S1 => ?_, fun n' e1 σ' H' Z' S1 => ?_, fun d n' e1 v Γ' σ' H' Z' S1 rv => ?_⟩⟩
    · exact gl.bk n' (by dsimp only; rw [e1]; rfl) σ' H' Z' (S1.mono fun j hj => List.mem_append_left _ hj)
    · exact gl.ct n' (by dsimp only; rw [e1]; rfl) σ' H' Z' (S1.mono fun j hj => List.mem_append_left _ hj)
    · exact gl.rt d n' (by dsimp only; rw [e1]; rfl) v Γ' σ' H' Z' (S1.mono fun j hj => List.mem_append_left _ hj) rv
  | dead =>
    cases hd (.inr rfl)
    refine ⟨_, pss_one ps, fun n σ H Z I hl D fin gl => q n σ H Z I hl D (fl_seq_fine fin) ⟨fun n' Γ' e1 e2 => (by cases e2), fun n' e1 σ' H' Z' S1 => ?_, fun n' e1 σ' H' Z' S1 => ?_, fun d n' e1 v Γ' σ' H' Z' S1 rv => ?_⟩⟩
    · exact gl.bk n' (by dsimp only; rw [e1]; rfl) σ' H' Z' (S1.mono fun j hj => List.mem_append_left _ hj)
    · exact gl.ct n' (by dsimp only; rw [e1]; rfl) σ' H' Z' (S1.mono fun j hj => List.mem_append_left _ hj)
    · exact gl.rt d n' (by dsimp only; rw [e1]; rfl) v Γ' σ' H' Z' (S1.mono fun j hj => List.mem_append_left _ hj) rv
theorem so_ite {d : E} {t : Expr} {x y : List Stmt} {f g : Env → Fl} {m1 m2 : List Nat} {r1 r2 : CR} {pos : Pos} (gd : GW Φ c.c Γ X d t) (h1 : SOk Φ c L Γ X m1 f r1 (PSs X x)) (h2 : SOk Φ c L Γ X m2 g r2 (PSs X y)) (hr : r1.join r2 ≠ .bad) :
    SOk Φ c L Γ X (d.wr ++ (m1 ++ m2)) (fun n => (toBl (d.den Φ n)).fl fun r n => if r then f n else g n) (r1.join r2) (PS X (.If t x y pos)) := by
  obtain ⟨w, tt, pt, _, q⟩ := gd
  obtain ⟨t1, p1, q1⟩ := h1
  obtain ⟨t2, p2, q2⟩ := h2
  have j1 : ∀ Γ', r1 = .ok Γ' → r1.join r2 = .ok Γ' := fun Γ' e => by
    subst e
    cases r2 with
    | bad => exact absurd rfl hr
    | dead => rfl
    | ok b =>
      have hr : (if Γ' = b then CR.ok Γ' else .bad) ≠ .bad := hr
      show (if Γ' = b then CR.ok Γ' else .bad) = _
      by_cases e : Γ' = b
      · rw [if_pos e]
      · rw [if_neg e] at hr; exact absurd rfl hr
  have j2 : ∀ Γ', r2 = .ok Γ' → r1.join r2 = .ok Γ' := fun Γ' e => by
    subst e
    cases r1 with
    | bad => exact absurd rfl hr
    | dead => rfl
    | ok b =>
      have hr : (if b = Γ' then CR.ok b else .bad) ≠ .bad := hr
      show (if b = Γ' then CR.ok b else .bad) = _
      by_cases e : b = Γ'
      · rw [if_pos e, e]
      · rw [if_neg e] at hr; exact absurd rfl hr
  refine ⟨_, ps_if pt p1 p2, fun n σ H Z I hl D fin gl => ?_⟩
  obtain ⟨b, n1, e1, fin, e2⟩ := ER.fl_fine fin
  dsimp only at gl
  rw [e2] at gl
  refine q n σ H Z I b n1 e1 _ fun H1 Z1 I1 k1 f1 => ?_
  have S1 := Step.ofE (io := c.c.io) I I1 k1 f1 w
  have hl1 : n1.length = Γ.length := by rw [S1.len.1]; exact hl
  cases b with
  | true =>
    rw [if_pos rfl] at fin gl ⊢
    exact q1 n1 σ H1 Z1 I1 hl1 D fin (gl.on S1 (fun j hj => by
      rcases List.mem_append.mp hj with h | h
      · exact List.mem_append_left _ h
      · exact List.mem_append_right _ (List.mem_append_left _ h)) j1)
  | false =>
    rw [if_neg Bool.false_ne_true] at fin gl ⊢
    exact q2 n1 σ H1 Z1 I1 hl1 D fin (gl.on S1 (fun j hj => by
      rcases List.mem_append.mp hj with h | h
      · exact List.mem_append_left _ h
      · exact List.mem_append_right _ (List.mem_append_right _ h)) j2)
theorem so_fr (ok : XOk Φ c.c k X) (hp : PassesOwn (model X.prog X.w) X.A X.env X.xe) {t : Tg} {it : E} {tg i : Expr} {x : List Stmt} {body : Env → Fl} {mb : List Nat} {rb : CR} {pos : Pos} (gi : GI Φ c.c Γ X it tg i) (hs : notSet i = true) (ht : t.chk c.c tg = true) (hf : ∀ j ∈ t.slots, flag Γ j = .frz) (dj : disj (it.bs Γ) mb = true)
    (hb : SOk Φ c Γ Γ X mb body rb (PSs X x)) (hr : ∀ Γ', rb = .ok Γ' → Γ' = Γ) :
    SOk Φ c L Γ X (it.wr ++ mb) (fun n => (it.den Φ n).fl fun x n => (lift (seqD x) n).fl fun ds n => forGo (asgD t) body ds n) (.ok Γ) (PS X (.For tg i x [] pos)) := by
  obtain ⟨w, wi, pi, qi⟩ := gi
  obtain ⟨tb, pb, qb⟩ := hb
  have pg := pg_chk (Γ := Γ) ok t tg ht hf
  refine ⟨_, ps_for hp ok.calm pi pg pb (folded hs), fun n σ H Z I hl D fin gl => ?_⟩
  obtain ⟨xd, n1, e1, fin, e2⟩ := ER.fl_fine fin
  dsimp only at gl
  rw [e2] at gl
  obtain ⟨ds, e3, fin, e4⟩ := lift_fl fin
  rw [e4] at gl
  refine qi n σ H Z I xd n1 ds e1 e3 _ fun J H1 Z1 I1 k1 f1 wv => ?_
  have S1 := Step.ofE (io := c.c.io) I I1 k1 f1 w
  have hl1 : n1.length = Γ.length := by rw [S1.len.1]; exact hl
  have thru : ∀ {n' σ' H' Z'}, Step X.K c.c.io Γ Γ mb n1 σ H1 Z1 n' σ' H' Z' → Thru X.K Γ (it.bs Γ) n1 σ H1 Z1 H' Z' := fun S => ⟨_, ownOf_own, fun i hi h => disj_out dj i hi (List.mem_filter.mp h).1, S.fr, S.si.zok⟩
  refine for_it wv.walk (fun i σ' H' => ∃ n' Z', Step X.K c.c.io Γ Γ mb n1 σ H1 Z1 n' σ' H' Z' ∧ forGo (asgD t) body (ds.drop i) n' = forGo (asgD t) body ds n1) ⟨n1, Z1, Step.refl I1, by rw [List.drop_zero]⟩ (fun i σ' H' _ ⟨n', Z', S, _⟩ => ⟨Z', thru S⟩) (fun i xv σ' H' H'' hlt ⟨n', Z', S, eg⟩ y => ?_) fun σ' H' ⟨n', Z', S, eg⟩ => ?_
  · obtain ⟨di, edi, yl⟩ := wv.yld i xv H' Z' H'' (thru S) hlt y
    obtain ⟨Z'', I'', f'', rp⟩ := yl.si S.si
    have S' : Step X.K c.c.io Γ Γ mb n1 σ H1 Z1 n' σ' H'' Z'' := (S.trans (mu2 := []) (Step.ofE (M := []) S.si I'' KN.refl f''.none (fun j hj => by cases hj))).mono fun j hj => by simpa using hj
    have edrop : ds.drop i = di :: ds.drop (i + 1) := by
      rw [List.drop_eq_getElem_cons hlt]
      rw [List.getElem?_eq_getElem hlt] at edi
      cases edi; rfl
    rw [edrop] at eg
    simp only [forGo] at eg
    cases ea : asgD t di n' with
    | none =>
      rw [ea] at eg
      dsimp only at eg
      rw [← eg] at fin
      exact absurd rfl fin.1
    | some n2 =>
      rw [ea] at eg
      dsimp only at eg
      refine ⟨n', Z'', di, n2, I'', rp, ea, fun σ2 I2 hs2 hl2 => ?_⟩
      have S2 := S'.tg ea I2 hs2 hl2 hf (tg_io t ht)
      have hl3 : n2.length = Γ.length := by rw [S2.len.1]; exact hl1
      have fb : (body n2).fine := by
        cases e : body n2 with
        | bad => rw [e] at eg; dsimp only at eg; rw [← eg] at fin; exact absurd rfl fin.1
        | ex z m => rw [e] at eg; dsimp only at eg; rw [← eg] at fin; exact absurd rfl (fin.2 z m)
        | _ => exact ⟨fun e => (by cases e), fun x m e => (by cases e)⟩
      have comp : ∀ {Γ' n3 σ3 H3 Z3}, Step X.K c.c.io Γ Γ' mb n2 σ2 H'' Z'' n3 σ3 H3 Z3 → Step X.K c.c.io Γ Γ' mb n1 σ H1 Z1 n3 σ3 H3 Z3 := fun S3 => (S2.trans S3).mono fun j hj => (List.mem_append.mp hj).elim id id
      refine qb n2 σ2 H'' Z'' I2 hl3 _ fb ⟨fun n3 Γ' e1 e2 σ3 H3 Z3 S3 => ?_, fun n3 e1 σ3 H3 Z3 S3 => ?_, fun n3 e1 σ3 H3 Z3 S3 => ?_, fun dd n3 e1 v Γ' σ3 H3 Z3 S3 rv => ?_⟩
      · cases hr Γ' e2
        rw [e1] at eg
        exact ⟨n3, Z3, comp S3, eg⟩
      · rw [e1] at eg
        exact gl.nx n3 Γ eg.symm rfl σ3 H3 Z3 (S1.trans (comp S3))
      · rw [e1] at eg
        exact ⟨n3, Z3, comp S3, eg⟩
      · rw [e1] at eg
        exact gl.rt dd n3 eg.symm v Γ' σ3 H3 Z3 (S1.trans (comp S3)) ((rv.back S2).back S1)
  · rw [List.drop_length] at eg
    exact gl.nx n' Γ (by rw [← eg]; simp only [forGo]) rfl σ' H' Z' (S1.trans S)
theorem so_wh (hp : PassesOwn (model X.prog X.w) X.A X.env X.xe) {d : E} {t : Expr} {x : List Stmt} {body : Env → Fl} {mb : List Nat} {rb : CR} {pos : Pos} (gd : GW Φ c.c Γ X d t) (hb : SOk Φ c Γ Γ X mb body rb (PSs X x)) (hr : ∀ Γ', rb = .ok Γ' → Γ' = Γ) :
    SOk Φ c L Γ X (d.wr ++ mb) (fun n => whGo (fun m => toBl (d.den Φ m)) body n) (.ok Γ) (PS X (.While t x [] pos)) := by
  obtain ⟨w, tt, pt, _, q⟩ := gd
  obtain ⟨tb, pb, qb⟩ := hb
  refine ⟨_, ps_while hp pt pb, fun n σ H Z I hl D fin gl => ?_⟩
  dsimp only at fin gl
  generalize efl : whGo (fun m => toBl (d.den Φ m)) body n = fl at fin gl
  have wr : WhR (fun m => toBl (d.den Φ m)) body n fl := by
    rw [← efl]
    exact whGo_rel (by rw [efl]; exact fin.1)
  obtain ⟨j0, hj0⟩ := wr.count fin
  refine ⟨fun m σ' H' => ∃ n' Z', Step X.K c.c.io Γ Γ (d.wr ++ mb) n σ H Z n' σ' H' Z' ∧ WhN (fun m => toBl (d.den Φ m)) body m n' fl, ⟨j0, n, Z, Step.refl I, hj0⟩, ?_⟩
  rintro m σ' H' ⟨n', Z', S, hw⟩
  have hl' : n'.length = Γ.length := by rw [S.len.1]; exact hl
  have test : ∀ {b n1}, toBl (d.den Φ n') = .ok b n1 → ∀ Q : Bool → Hp → Prop, (∀ H1 Z1, Step X.K c.c.io Γ Γ (d.wr ++ mb) n σ H Z n1 σ' H1 Z1 → Q b H1) → tt σ' H' Q := fun e Q kq => q n' σ' H' Z' S.si _ _ e Q fun H1 Z1 I1 k1 f1 => kq H1 Z1 ((S.trans (Step.ofE (io := c.c.io) S.si I1 k1 f1 w)).mono fun j hj => (List.mem_append.mp hj).elim id fun h => List.mem_append_left _ h)
  have comp : ∀ {Γ' n2 σ2 H2 Z2 n3 σ3 H3 Z3}, Step X.K c.c.io Γ Γ (d.wr ++ mb) n σ H Z n2 σ2 H2 Z2 → Step X.K c.c.io Γ Γ' mb n2 σ2 H2 Z2 n3 σ3 H3 Z3 → Step X.K c.c.io Γ Γ' (d.wr ++ mb) n σ H Z n3 σ3 H3 Z3 := fun S2 S3 => (S2.trans S3).mono fun j hj => (List.mem_append.mp hj).elim id fun h => List.mem_append_right _ h
  cases hw with
  | stop e =>
    refine test e _ fun H1 Z1 S1 => ?_
    rw [if_neg Bool.false_ne_true]
    exact gl.nx _ Γ rfl rfl σ' H1 Z1 S1
  | next e b wn =>
    rename_i j n1 n2
    refine test e _ fun H1 Z1 S1 => ?_
    rw [if_pos rfl]
    refine ⟨fun σ3 H3 => ∃ Z3, Step X.K c.c.io Γ Γ (d.wr ++ mb) n σ H Z n2 σ3 H3 Z3, fun σ3 H3 ⟨Z3, S3⟩ => ⟨j, Nat.lt_succ_self _, n2, Z3, S3, wn⟩, ?_⟩
    have hl1 : n1.length = Γ.length := by rw [S1.len.1]; exact hl
    have fb : (body n1).fine := by
      rcases b with b | b <;> (rw [b]; exact ⟨fun e => (by cases e), fun x m e => (by cases e)⟩)
    refine qb n1 σ' H1 Z1 S1.si hl1 _ fb ⟨fun n3 Γ' e1 e2 σ3 H3 Z3 S3 => ?_, fun n3 e1 σ3 H3 Z3 S3 => ?_, fun n3 e1 σ3 H3 Z3 S3 => ?_, fun dd n3 e1 v Γ' σ3 H3 Z3 S3 rv => ?_⟩
    · cases hr Γ' e2
      rcases b with b | b <;> rw [b] at e1 <;> cases e1
      exact ⟨Z3, comp S1 S3⟩
    · rcases b with b | b <;> rw [b] at e1 <;> cases e1
    · rcases b with b | b <;> rw [b] at e1 <;> cases e1
      exact ⟨Z3, comp S1 S3⟩
    · rcases b with b | b <;> rw [b] at e1 <;> cases e1
  | brk e b =>
    rename_i n1 n2
    refine test e _ fun H1 Z1 S1 => ?_
    rw [if_pos rfl]
    refine ⟨fun _ _ => False, fun _ _ h => h.elim, ?_⟩
    have hl1 : n1.length = Γ.length := by rw [S1.len.1]; exact hl
    have fb : (body n1).fine := by rw [b]; exact ⟨fun e => (by cases e), fun x m e => (by cases e)⟩
    refine qb n1 σ' H1 Z1 S1.si hl1 _ fb ⟨fun n3 Γ' e1 e2 σ3 H3 Z3 S3 => ?_, fun n3 e1 σ3 H3 Z3 S3 => ?_, fun n3 e1 σ3 H3 Z3 S3 => ?_, fun dd n3 e1 v Γ' σ3 H3 Z3 S3 rv => ?_⟩
    · rw [b] at e1; cases e1
    · rw [b] at e1; cases e1
      exact gl.nx _ Γ rfl rfl σ3 H3 Z3 (comp S1 S3)
    · rw [b] at e1; cases e1
    · rw [b] at e1; cases e1
  | out e b h1 h2 h3 =>
    rename_i n1
    refine test e _ fun H1 Z1 S1 => ?_
    rw [if_pos rfl]
    refine ⟨fun _ _ => False, fun _ _ h => h.elim, ?_⟩
    have hl1 : n1.length = Γ.length := by rw [S1.len.1]; exact hl
    refine qb n1 σ' H1 Z1 S1.si hl1 _ (by rw [b]; exact fin) ⟨fun n3 Γ' e1 e2 σ3 H3 Z3 S3 => ?_, fun n3 e1 σ3 H3 Z3 S3 => ?_, fun n3 e1 σ3 H3 Z3 S3 => ?_, fun dd n3 e1 v Γ' σ3 H3 Z3 S3 rv => ?_⟩
    · rw [b] at e1; exact absurd e1 (h1 _)
    · rw [b] at e1; exact absurd e1 (h3 _)
    · rw [b] at e1; exact absurd e1 (h2 _)
    · rw [b] at e1
      exact gl.rt dd n3 e1 v Γ' σ3 H3 Z3 (comp S1 S3) (rv.back S1)
end
end Sc
namespace Sc
open PySem PySem.Spec PyProof.Rows L2
theorem chkSs_fz {c : Cs} {L Γ : List Fg} {l : List Nat} {r : List S} {sts : List Stmt} : chkSs c L Γ (.fz l :: r) sts = if l.all fun j => decide (flag Γ j ≠ .brw) && !c.c.io.contains j then chkSs c L (inFl Γ l) r sts else .bad := by
  cases sts <;> simp only [chkSs]
theorem chkSs_cons {c : Cs} {L Γ : List Fg} {s : S} {r : List S} {st : Stmt} {sts : List Stmt} (h : ∀ l, s ≠ .fz l) : chkSs c L Γ (s :: r) (st :: sts) = (s.chk c L Γ st).thn (r.isEmpty && sts.isEmpty) fun Γ' => chkSs c L Γ' r sts := by
  cases s <;> first | exact absurd rfl (h _) | simp only [chkSs]
theorem chkSs_none {c : Cs} {L Γ : List Fg} {s : S} {r : List S} (h : ∀ l, s ≠ .fz l) : chkSs c L Γ (s :: r) [] = .bad := by
  cases s <;> first | exact absurd rfl (h _) | simp only [chkSs]
section
variable {Φ : Fns} {k : Nat} {c : Cs}
theorem loop_of {Γ : List Fg} {r : CR} (h : r.loop Γ ≠ .bad) : r ≠ .bad ∧ (∀ Γ', r = .ok Γ' → Γ' = Γ) ∧ r.loop Γ = .ok Γ := by
  cases r with
  | bad => exact absurd rfl h
  | dead => exact ⟨fun e => (by cases e), fun _ e => (by cases e), rfl⟩
  | ok Γ1 =>
    have h : (if Γ1 = Γ then CR.ok Γ else .bad) ≠ .bad := h
    by_cases e : Γ1 = Γ
    · exact ⟨fun e => (by cases e), fun _ e2 => (by cases e2; exact e), by show (if Γ1 = Γ then CR.ok Γ else .bad) = _; rw [if_pos e]⟩
    · rw [if_neg e] at h; exact absurd rfl h
mutual
theorem s_sound : ∀ (s : S) {L Γ : List Fg} {X : Cx} (ok : XOk Φ c.c k X) (hp : PassesOwn (model X.prog X.w) X.A X.env X.xe) (st : Stmt), s.chk c L Γ st ≠ .bad → SOk Φ c L Γ X s.mu (s.den Φ) (s.chk c L Γ st) (PS X st)
  | .fz l, L, Γ, X, ok, hp, st, h => absurd rfl h
  | .aug i o e, L, Γ, X, ok, hp, st, h => by
    cases st <;> first | exact absurd rfl h | skip
    rename_i tg p v pos
    cases tg <;> first | exact absurd rfl h | skip
    rename_i x q
    simp only [S.chk] at h ⊢
    split at h
    · rename_i hc
      rw [if_pos hc]
      simp only [Bool.and_eq_true, beq_iff_eq, Bool.not_eq_true', List.contains_eq_mem, decide_eq_false_iff_not, decide_eq_true_eq] at hc
      obtain ⟨⟨⟨⟨⟨⟨h1, h2⟩, h3⟩, h4⟩, h5⟩, h6⟩, h7⟩ := hc
      exact so_aug (L := L) ok (e_sound e ok _ h4).1 h1 h2 h3 h5 h6 h7
    · exact absurd rfl h
  | .nvr, L, Γ, X, ok, hp, st, h => ⟨_, ps_never, fun n σ H Z I hl D fin g => by
    have : S.den Φ .nvr n = .bad := by simp only [S.den]
    rw [this] at fin
    exact absurd rfl fin.1⟩
  | .asg i e, L, Γ, X, ok, hp, st, h => by
    cases st <;> first | exact absurd rfl h | skip
    rename_i tgs v pos
    match tgs with
    | [] => exact absurd rfl h
    | [tg] =>
      cases tg <;> first | exact absurd rfl h | skip
      rename_i x p
      simp only [S.chk] at h ⊢
      split at h
      · rename_i hc
        rw [if_pos hc]
        simp only [Bool.and_eq_true, Bool.or_eq_true, beq_iff_eq, Bool.not_eq_true', List.contains_eq_mem, decide_eq_false_iff_not, decide_eq_true_eq] at hc
        obtain ⟨⟨⟨⟨⟨⟨h1, h2⟩, h3⟩, h4⟩, h5⟩, h6⟩, h7⟩ := hc
        rcases h6 with h6 | ⟨h6, h8⟩
        · have := so_asg (L := L) (pos := pos) (p := p) ok (e_sound e ok _ h4).1 h1 h2 h3 h5 h6 h7
          simpa only [List.contains_eq_mem, S.mu] using this
        · cases v <;> first | cases (show false = true from h6) | skip
          cases e <;> first | cases (show false = true from h4) | (rename_i d; cases d <;> cases (show false = true from h4)) | (rename_i m a args; cases m <;> (cases args with
            | nil => cases (show false = true from h4)
            | cons a r => cases r <;> cases (show false = true from h4))) | skip
          · have := so_asgLc (L := L) (pos := pos) (p := p) ok h4 h1 h2 h3 h5 h8
            simpa only [List.contains_eq_mem, S.mu] using this
          · have := so_asgLc2 (L := L) (pos := pos) (p := p) ok h4 h1 h2 h3 h5 h8
            simpa only [List.contains_eq_mem, S.mu] using this
      · exact absurd rfl h
    | tg :: _ :: _ => exact absurd (by cases tg <;> rfl) h
  | .asgT t e, L, Γ, X, ok, hp, st, h => by
    cases st <;> first | exact absurd rfl h | skip
    rename_i tgs v pos
    match tgs with
    | [] => exact absurd rfl h
    | [tg] =>
      cases tg <;> first | exact absurd rfl h | skip
      rename_i es kk p
      simp only [S.chk] at h ⊢
      split at h
      · rename_i hc
        rw [if_pos hc]
        simp only [Bool.and_eq_true, Bool.not_eq_true', decide_eq_true_eq, List.all_eq_true] at hc
        obtain ⟨⟨⟨⟨⟨h1, h2⟩, h3⟩, h4⟩, h5⟩, h6⟩ := hc
        exact so_asgT ok h1 (e_sound e ok _ h2).1 h3 h4 h5 fun j hj => (h6 j hj).1
      · exact absurd rfl h
    | tg :: _ :: _ => exact absurd (by cases tg <;> rfl) h
  | .par i j a b, L, Γ, X, ok, hp, st, h => by
    by_cases hc : ∃ x y px py kt pt l r k2 pt2 pos, st = .Assign [.Tuple [.Name x px, .Name y py] kt pt] (.Tuple [l, r] k2 pt2) pos
    · obtain ⟨x, y, px, py, kt, pt, l, r, k2, pt2, pos, rfl⟩ := hc
      simp only [S.chk] at h ⊢
      split at h
      · rename_i hc
        rw [if_pos hc]
        simp only [Bool.and_eq_true, Bool.not_eq_true', decide_eq_true_eq, beq_iff_eq, List.contains_eq_mem, decide_eq_false_iff_not] at hc
        obtain ⟨⟨⟨⟨⟨⟨⟨⟨⟨⟨⟨⟨⟨⟨⟨⟨⟨⟨⟨⟨⟨⟨⟨c1, c2⟩, c3⟩, c4⟩, c5⟩, c6⟩, c7⟩, c8⟩, c9⟩, c10⟩, c11⟩, c12⟩, c13⟩, c14⟩, c15⟩, c16⟩, c17⟩, c18⟩, c19⟩, c20⟩, c21⟩, c22⟩, c23⟩, c24⟩ := hc
        exact so_par ok c3 c1 c2 c6 c7 c10 c8 c9 (by simpa using c11) c12 c17 c18 c13 c14 (e_sound a ok _ c15).1 (e_sound b ok _ c16).1 c19 c20 c21 c22 c23 c24
      · exact absurd rfl h
    · refine absurd ?_ h
      unfold S.chk
      split <;> first | rfl | (rename_i e1 e2; cases e1; exact absurd ⟨_, _, _, _, _, _, _, _, _, _, _, rfl⟩ hc) | skip
      all_goals (first | rfl | (rename_i e1; cases e1) | (exact absurd ⟨_, _, _, _, _, _, _, _, _, _, _, rfl⟩ hc))
  | .setI i ix e, L, Γ, X, ok, hp, st, h => by
    cases st <;> first | exact absurd rfl h | skip
    rename_i tgs v pos
    match tgs with
    | [] => exact absurd rfl h
    | [tg] =>
      cases tg <;> first | exact absurd rfl h | skip
      rename_i o kx p2
      cases o <;> first | exact absurd rfl h | skip
      rename_i x p
      simp only [S.chk] at h ⊢
      split at h
      · rename_i hc
        rw [if_pos hc]
        simp only [Bool.and_eq_true, Bool.not_eq_true', decide_eq_true_eq, List.contains_eq_mem, decide_eq_false_iff_not] at hc
        obtain ⟨⟨⟨⟨⟨⟨h1, h2⟩, h3⟩, h4⟩, h5⟩, h6⟩, h7⟩ := hc
        exact so_setI ok h1 (e_sound ix ok _ h2).1 h3 (e_sound e ok _ h4).1 h5 h6 h7
      · exact absurd rfl h
    | tg :: _ :: _ => exact absurd (by cases tg <;> first | rfl | (rename_i o _ _; cases o <;> rfl)) h
  | .ex e, L, Γ, X, ok, hp, st, h => by
    cases st <;> first | exact absurd rfl h | skip
    simp only [S.chk] at h ⊢
    split at h
    · rename_i hc
      rw [if_pos hc]
      simp only [Bool.and_eq_true] at hc
      exact so_ex ok (e_sound e ok _ hc.1).1 hc.2
    · exact absurd rfl h
  | .ext i e, L, Γ, X, ok, hp, st, h => by
    obtain ⟨e0, x, p, v, ap, cp, pos, rfl, h2, h3, h4, h5, h6, h7⟩ := chk_ext h
    rw [e0]
    exact so_ext ok h2 (e_sound e ok _ h3).1 h4 h5 h6 h7
  | .rmv i e, L, Γ, X, ok, hp, st, h => by
    obtain ⟨e0, x, p, v, ap, cp, pos, rfl, h2, h3, h4, h5, h6, h7⟩ := chk_rmv h
    rw [e0]
    exact so_rmv ok h2 (e_sound e ok _ h3).1 h4 h5 h6 h7
  | .rvs i, L, Γ, X, ok, hp, st, h => by
    obtain ⟨e0, x, p, ap, cp, pos, rfl, h2, h5, h7⟩ := chk_rvs h
    rw [e0]
    exact so_rvs ok h2 h5 h7
  | .clr i, L, Γ, X, ok, hp, st, h => by
    obtain ⟨e0, x, p, ap, cp, pos, rfl, h2, h5, h7⟩ := chk_clr h
    rw [e0]
    exact so_clr ok h2 h5 h7
  | .mut m i args, L, Γ, X, ok, hp, st, h => by
    by_cases hc : ∃ e x p nm ap v cp pos, m = .append ∧ args = [e] ∧ st = .Expr (.Call (.Attribute (.Name x p) nm ap) [v] [] cp) pos
    · obtain ⟨e, x, p, nm, ap, v, cp, pos, rfl, rfl, rfl⟩ := hc
      simp only [S.chk] at h ⊢
      split at h
      · rename_i hc
        rw [if_pos hc]
        simp only [Bool.and_eq_true, Bool.not_eq_true', decide_eq_true_eq, List.contains_eq_mem, decide_eq_false_iff_not] at hc
        obtain ⟨⟨⟨⟨⟨⟨⟨h1, h2⟩, h3⟩, h4⟩, h5⟩, h6⟩, h7⟩, h8⟩ := hc
        subst h1
        exact so_app ok h2 (e_sound e ok _ h3).1 h4 h5 h6 h7 h8
      · exact absurd rfl h
    · refine absurd ?_ h
      unfold S.chk
      split <;> first | rfl | (exact absurd ⟨_, _, _, _, _, _, _, _, rfl, rfl, rfl⟩ hc) | skip
      all_goals (first | rfl | (rename_i e1; cases e1; exact absurd ⟨_, _, _, _, _, _, _, _, rfl, rfl, rfl⟩ hc) | (rename_i e1 e2; cases e1; cases e2; exact absurd ⟨_, _, _, _, _, _, _, _, rfl, rfl, rfl⟩ hc) | (rename_i e1; cases e1; done) | (rename_i e1 _; cases e1; done))
  | .ite d a b, L, Γ, X, ok, hp, st, h => by
    cases st <;> first | exact absurd rfl h | skip
    simp only [S.chk] at h ⊢
    split at h
    · rename_i hc
      rw [if_pos hc]
      simp only [Bool.and_eq_true] at hc
      have n1 : chkSs c L Γ a _ ≠ .bad := fun e => by rw [e] at h; exact absurd rfl h
      have n2 : chkSs c L Γ b _ ≠ .bad := fun e => by
        rw [e] at h
        revert h
        cases chkSs c L Γ a _ <;> (intro h; exact absurd rfl h)
      have e : S.den Φ (.ite d a b) = fun n => (toBl (d.den Φ n)).fl fun r n => if r then denB Φ a n else denB Φ b n := by funext n; simp only [S.den]
      rw [e]
      simp only [S.mu]
      exact so_ite ((e_sound d ok _ hc.1).2 hc.2) (ss_sound a ok hp _ n1) (ss_sound b ok hp _ n2) h
    · exact absurd rfl h
  | .fr t it b, L, Γ, X, ok, hp, st, h => by
    cases st <;> first | exact absurd rfl h | skip
    rename_i tg i x els pos
    match els with
    | _ :: _ => exact absurd rfl h
    | [] =>
      simp only [S.chk] at h ⊢
      split at h
      · rename_i hc
        rw [if_pos hc]
        simp only [Bool.and_eq_true, decide_eq_true_eq, List.all_eq_true] at hc
        obtain ⟨⟨⟨⟨⟨h1, h2⟩, h3⟩, h4⟩, h5⟩, h6⟩ := hc
        obtain ⟨l1, l2, l3⟩ := loop_of h
        rw [l3]
        have gi : GI Φ c.c Γ X it tg i := by
          rcases Bool.or_eq_true_iff.mp h1 with h1 | h1
          · exact i_sound it ok tg i h1 (fun e => by simpa [e] using h2)
          · exact gi_val (e_sound it ok i h1).1
        have e : S.den Φ (.fr t it b) = fun n => (it.den Φ n).fl fun x n => (lift (seqD x) n).fl fun ds n => forGo (asgD t) (denB Φ b) ds n := by funext n; simp only [S.den]
        rw [e]
        simp only [S.mu]
        exact so_fr ok hp gi h3 h4 h5 h6 (ss_sound b ok hp _ l1) l2
      · exact absurd rfl h
  | .wh d b, L, Γ, X, ok, hp, st, h => by
    cases st <;> first | exact absurd rfl h | skip
    rename_i t x els pos
    match els with
    | _ :: _ => exact absurd rfl h
    | [] =>
      simp only [S.chk] at h ⊢
      split at h
      · rename_i hc
        rw [if_pos hc]
        simp only [Bool.and_eq_true] at hc
        obtain ⟨l1, l2, l3⟩ := loop_of h
        rw [l3]
        have e : S.den Φ (.wh d b) = fun n => whGo (fun m => toBl (d.den Φ m)) (denB Φ b) n := by funext n; simp only [S.den]
        rw [e]
        simp only [S.mu]
        exact so_wh hp ((e_sound d ok _ hc.1).2 hc.2) (ss_sound b ok hp _ l1) l2
      · exact absurd rfl h
  | .ret e, L, Γ, X, ok, hp, st, h => by
    cases st <;> first | exact absurd rfl h | skip
    rename_i v pos
    cases v <;> first | exact absurd rfl h | skip
    rename_i v
    simp only [S.chk] at h ⊢
    split at h
    · rename_i hc
      rw [if_pos hc]
      simp only [Bool.and_eq_true] at hc
      obtain ⟨hc, h2⟩ := hc
      by_cases hv : ∃ i, e = .var i
      · obtain ⟨i, rfl⟩ := hv
        simp only [retB, Bool.and_eq_true, Bool.or_eq_true, Bool.not_eq_true', decide_eq_true_eq, List.contains_eq_mem, decide_eq_false_iff_not] at h2
        refine so_retV ok hc ?_
        rcases h2 with h2 | ⟨⟨h2, h3⟩, h4⟩
        · exact .inl h2
        · exact .inr ⟨h2, h3, h4⟩
      · have e1 : retB c Γ e = ((c.ro && decide (e.md c.c Γ = .own)) || (!c.ro && decide (e.md c.c Γ ≠ .brw))) := by
          cases e <;> first | exact absurd ⟨_, rfl⟩ hv | rfl
        rw [e1] at h2
        simp only [Bool.and_eq_true, Bool.or_eq_true, Bool.not_eq_true', decide_eq_true_eq] at h2
        exact so_ret ok (e_sound e ok _ hc).1 h2
    · exact absurd rfl h
  | .retN, L, Γ, X, ok, hp, st, h => by
    cases st <;> first | exact absurd rfl h | skip
    rename_i v pos
    cases v <;> first | exact absurd rfl h | skip
    refine ⟨_, ps_retN, fun n σ H Z I hl D fin g => g.rt .non n (by simp only [S.den]) .non Γ σ H Z (Step.refl I) ?_⟩
    unfold RetV
    split
    · exact ⟨by simp only [RpO, Rp], fun l a e => by cases e⟩
    · simp only [Rp]
  | .brk, L, Γ, X, ok, hp, st, h => by
    cases st <;> first | exact absurd rfl h | skip
    simp only [S.chk] at h ⊢
    split at h
    · rename_i hc
      rw [if_pos hc]
      subst hc
      exact ⟨_, ps_break, fun n σ H Z I hl D fin g => g.bk n (by simp only [S.den]) σ H Z (Step.refl I)⟩
    · exact absurd rfl h
  | .cnt, L, Γ, X, ok, hp, st, h => by
    cases st <;> first | exact absurd rfl h | skip
    simp only [S.chk] at h ⊢
    split at h
    · rename_i hc
      rw [if_pos hc]
      subst hc
      exact ⟨_, ps_continue, fun n σ H Z I hl D fin g => g.ct n (by simp only [S.den]) σ H Z (Step.refl I)⟩
    · exact absurd rfl h
  | .pas, L, Γ, X, ok, hp, st, h => by
    cases st <;> first | exact absurd rfl h | skip
    exact ⟨_, ps_pass, fun n σ H Z I hl D fin g => g.nx n Γ (by simp only [S.den]) rfl σ H Z (Step.refl I)⟩
theorem ss_sound : ∀ (ss : List S) {L Γ : List Fg} {X : Cx} (ok : XOk Φ c.c k X) (hp : PassesOwn (model X.prog X.w) X.A X.env X.xe) (sts : List Stmt), chkSs c L Γ ss sts ≠ .bad → SOk Φ c L Γ X (muL ss) (denB Φ ss) (chkSs c L Γ ss sts) (PSs X sts)
  | [], L, Γ, X, ok, hp, [], h => by
    simp only [chkSs, muL]
    exact so_nil
  | [], L, Γ, X, ok, hp, _ :: _, h => by simp only [chkSs] at h; exact absurd rfl h
  | s :: r, L, Γ, X, ok, hp, sts, h => by
    have ed : denB Φ (s :: r) = fun n => (s.den Φ n).seq (denB Φ r) := by funext n; simp only [denB]
    by_cases hs : ∃ l, s = .fz l
    · obtain ⟨l, rfl⟩ := hs
      rw [chkSs_fz] at h ⊢
      split at h
      · rename_i hc
        rw [if_pos hc]
        obtain ⟨t, p, q⟩ := ss_sound r ok hp sts h
        refine ⟨t, p, fun n σ H Z I hl D fin g => ?_⟩
        obtain ⟨Z2, S2⟩ := Step.fz (io := c.c.io) (l := l) I fun j hj => by
          have := List.all_eq_true.mp hc j hj
          simpa using this
        have e2 : denB Φ (.fz l :: r) n = denB Φ r n := by rw [ed]; simp only [S.den]; rfl
        rw [e2] at fin g
        exact q n σ H Z2 S2.si (by rw [S2.len.2]; exact hl) D fin (g.on S2 (fun j hj => by simpa only [muL, S.mu] using hj) fun _ e => e)
      · exact absurd rfl h
    · have hs' : ∀ l, s ≠ .fz l := fun l e => hs ⟨l, e⟩
      cases sts with
      | nil => rw [chkSs_none hs'] at h; exact absurd rfl h
      | cons st sts =>
        rw [chkSs_cons hs'] at h ⊢
        rw [ed]
        simp only [muL]
        cases e1 : s.chk c L Γ st with
        | bad => rw [e1] at h; exact absurd rfl h
        | dead =>
          rw [e1] at h
          have h : (if (r.isEmpty && sts.isEmpty) = true then CR.dead else .bad) ≠ .bad := h
          show SOk Φ c L Γ X _ _ (if (r.isEmpty && sts.isEmpty) = true then CR.dead else .bad) _
          split at h
          · rename_i hc
            rw [if_pos hc]
            simp only [Bool.and_eq_true, List.isEmpty_iff] at hc
            obtain ⟨rfl, rfl⟩ := hc
            have s1 := s_sound s ok hp st (L := L) (Γ := Γ) (by rw [e1]; exact fun e => by cases e)
            rw [e1] at s1
            exact so_cons (r2 := .dead) s1 (fun _ e => by cases e) .dead (fun _ e => by cases e) fun _ => rfl
          · exact absurd rfl h
        | ok Γ1 =>
          rw [e1] at h
          have s1 := s_sound s ok hp st (L := L) (Γ := Γ) (by rw [e1]; exact fun e => by cases e)
          rw [e1] at s1
          have h : chkSs c L Γ1 r sts ≠ .bad := h
          show SOk Φ c L Γ X _ _ (chkSs c L Γ1 r sts) _
          exact so_cons s1 (fun Γ2 e => by cases e; exact ss_sound r ok hp sts h) _ (fun _ _ _ e => e) fun e => by rcases e with e | e <;> cases e
end
end
end Sc
namespace Sc
open PySem PySem.Spec PyProof.Rows L2
def ioP : Nat → List Pm → List Nat
  | _, [] => []
  | k, .io :: r => k :: ioP (k + 1) r
  | k, _ :: r => ioP (k + 1) r
theorem ioP_mem : ∀ {pm : List Pm} {k i : Nat}, i ∈ ioP k pm ↔ ∃ j, i = k + j ∧ pm[j]? = some Pm.io
  | [], k, i => by simp [ioP]
  | .io :: r, k, i => by
    simp only [ioP, List.mem_cons, ioP_mem (pm := r)]
    constructor
    · rintro (rfl | ⟨j, rfl, h⟩)
      · exact ⟨0, rfl, rfl⟩
      · exact ⟨j + 1, by omega, by simpa using h⟩
    · rintro ⟨j, rfl, h⟩
      cases j with
      | zero => exact .inl rfl
      | succ j => exact .inr ⟨j, by omega, by simpa using h⟩
  | .eat :: r, k, i => by
    simp only [ioP, ioP_mem (pm := r)]
    constructor
    · rintro ⟨j, rfl, h⟩
      exact ⟨j + 1, by omega, by simpa using h⟩
    · rintro ⟨j, rfl, h⟩
      cases j with
      | zero => simp at h
      | succ j => exact ⟨j, by omega, by simpa using h⟩
  | .brw :: r, k, i => by
    simp only [ioP, ioP_mem (pm := r)]
    constructor
    · rintro ⟨j, rfl, h⟩
      exact ⟨j + 1, by omega, by simpa using h⟩
    · rintro ⟨j, rfl, h⟩
      cases j with
      | zero => simp at h
      | succ j => exact ⟨j, by omega, by simpa using h⟩
theorem outs_of {K : PySem.W.Frag} {H : Hp} {Z : AP1} {g : Nat → D} : ∀ {pm : List Pm} {vs : List V} {k : Nat}, vs.length = pm.length → (∀ j v, pm[j]? = some Pm.io → vs[j]? = some v → ∃ l a xs, g (k + j) = .lst l ∧ v = .ref a ∧ ¬ Z a ∧ H a = some (.lst xs) ∧ RpL K H Z l xs) → OutsOk K H Z pm vs ((ioP k pm).map g)
  | [], [], k, _, _ => rfl
  | [], _ :: _, k, h, _ => by simp at h
  | _ :: _, [], k, h, _ => by simp at h
  | .io :: r, v :: vs, k, h, q => by
    obtain ⟨l, a, xs, e, rfl, nz, ha, rl⟩ := q 0 v rfl rfl
    simp only [ioP, List.map_cons, OutsOk]
    refine ⟨l, _, by rw [← e]; rfl, ⟨a, xs, rfl, nz, ha, rl⟩, outs_of (by simpa using h) fun j u h1 h2 => ?_⟩
    obtain ⟨l, a, xs, e, q⟩ := q (j + 1) u (by simpa using h1) (by simpa using h2)
    exact ⟨l, a, xs, by rw [← e]; congr 1; omega, q⟩
  | .eat :: r, v :: vs, k, h, q => by
    simp only [ioP, OutsOk]
    refine outs_of (by simpa using h) fun j u h1 h2 => ?_
    obtain ⟨l, a, xs, e, q⟩ := q (j + 1) u (by simpa using h1) (by simpa using h2)
    exact ⟨l, a, xs, by rw [← e]; congr 1; omega, q⟩
  | .brw :: r, v :: vs, k, h, q => by
    simp only [ioP, OutsOk]
    refine outs_of (by simpa using h) fun j u h1 h2 => ?_
    obtain ⟨l, a, xs, e, q⟩ := q (j + 1) u (by simpa using h1) (by simpa using h2)
    exact ⟨l, a, xs, by rw [← e]; congr 1; omega, q⟩
def gam0 (pm : List Pm) (m : Nat) : List Fg := pm.map flOf ++ List.replicate m .frz
theorem flag_gam {pm : List Pm} {m i : Nat} : flag (gam0 pm m) i = flag (pm.map flOf) i := by
  unfold flag gam0
  rw [List.getD_eq_getElem?_getD, List.getD_eq_getElem?_getD]
  by_cases h : i < (pm.map flOf).length
  · rw [List.getElem?_append_left h]
  · rw [List.getElem?_append_right (by omega), List.getElem?_eq_none (l := pm.map flOf) (by omega), List.getElem?_replicate]
    split <;> rfl
theorem getN_pad {ds : List D} {m i : Nat} : getN (ds.map some ++ List.replicate m none) i = ds[i]? := by
  unfold getN
  by_cases h : i < ds.length
  · rw [List.getElem?_append_left (by simpa using h), List.getElem?_map, List.getElem?_eq_getElem h]; rfl
  · rw [List.getElem?_append_right (by simpa using h), List.getElem?_replicate, List.getElem?_eq_none (by omega)]
    split <;> rfl
theorem isL_pad {ds : List D} {m i : Nat} : isL (ds.map some ++ List.replicate m none) i = isL (ds.map some) i := by
  unfold isL
  rw [getN_pad, getN_map]
theorem sl_pad {vs : List V} {m i : Nat} {v : V} : (vs.map some ++ List.replicate m none)[i]? = some (some v) ↔ vs[i]? = some v := by
  by_cases h : i < vs.length
  · rw [List.getElem?_append_left (by simpa using h), List.getElem?_map, List.getElem?_eq_getElem h]
    simp
  · rw [List.getElem?_append_right (by simpa using h), List.getElem?_replicate, List.getElem?_eq_none (by omega)]
    split <;> simp
theorem SI.pad {K : PySem.W.Frag} {pm : List Pm} {ds : List D} {vs : List V} {H : Hp} {Z : AP1} {m m2 m3 : Nat} (h2 : m2 = m) (h3 : m3 = m) (I : SI K (pm.map flOf) (ds.map some) (vs.map some) H Z) : SI K (gam0 pm m) (ds.map some ++ List.replicate m2 none) (vs.map some ++ List.replicate m3 none) H Z := by
  subst h2 h3
  refine ⟨by simp only [List.length_append, List.length_replicate]; rw [I.len], fun i d hd => ?_, fun i j p hij h1 h2 h3 h4 h5 h6 => ?_, fun i j p h1 h2 h3 h4 h5 h6 => ?_, I.zok⟩
  · rw [getN_pad] at hd
    obtain ⟨v, e, r⟩ := I.slot i d (by rw [getN_map]; exact hd)
    exact ⟨v, sl_pad.mpr (vmap.mp e), by rw [flag_gam]; exact r⟩
  · rw [flag_gam] at h1 h2
    rw [isL_pad] at h3 h4
    exact I.sep i j p hij h1 h2 h3 h4 (vmap.mpr (sl_pad.mp h5)) (vmap.mpr (sl_pad.mp h6))
  · rw [flag_gam] at h1 h2
    rw [isL_pad] at h3 h4
    exact I.sepB i j p h1 h2 h3 h4 (vmap.mpr (sl_pad.mp h5)) (vmap.mpr (sl_pad.mp h6))
/-- what a def's look says -/
structure FnChk (f : FnIR) (c : Cs) (pm : List Pm) (ps : List Str) (scope : Scope) (body : List Stmt) : Prop where
  S : FnScope c.c.N ps scope
  sc : c.c.sc = scope
  sw : c.c.sw = scope
  io : c.c.io = ioP 0 pm
  fio : f.io = ioP 0 pm
  len : f.len = c.c.N.length
  np : f.np = ps.length
  pml : pm.length = ps.length
  ok : chkSs c [] (gam0 pm (c.c.N.length - ps.length)) f.body body ≠ .bad
/-- the module's names, for a def's body -/
structure GF (P : Program) (w : World) (K : PySem.W.Frag) (mg : Str → Option Value) (base : Heap) (k : Nat) (c : Cx0) (Φ : Fns) : Prop where
  bn : ∀ x ∈ bnames, mg x = none
  G : ∀ g ∈ c.G, ∃ u v, mg g.1 = some u ∧ RelV v u ∧ ∀ H Z, Rp K H Z g.2 v
  F : ∀ i s, c.F[i]? = some s → ∃ f fd ps, mg s.name = some (.ref f) ∧ PySem.W.keepIn K (.ref f) = true ∧ (s.po = true → Binds K fd ps []) ∧ (∀ q ∈ s.kb, KwB K fd ps q) ∧ ps.length = s.pm.length ∧ FnD P w K mg base k f fd ps s.pm s.ro (Φ i)
theorem guards_deeper {A : Around} {env : PySem.Env} (h : A.guards = some []) : (A.deeper env).guards = some [] := h
section
variable {P : Program} {w : World} {K : PySem.W.Frag} {mg : Str → Option Value} {base : Heap} {k : Nat}
theorem fn_D {fa : Addr} {name qual : Str} {params : Arguments} {body : List Stmt} {scope : Scope} {dV kV doc pm0 cdv ct oc : Value} {an od : Option Addr} {osl : Array (Option Value)} {f : FnIR} {c : Cs} {pm : List Pm} {ps : List Str} {Φ : Fns}
    (lk : K.lookup fa = some ⟨oc, od, .func (PySem.W.fnOf name qual params body scope dV kV doc pm0 an cdv ct), osl⟩) (hcd : PySem.W.codeIn K cdv qual = true) (C : FnChk f c pm ps scope body) (gf : GF P w K mg base k c.c Φ) :
    FnD P w K mg base (k + 1) fa (PySem.W.fnOf name qual params body scope dV kV doc pm0 an cdv ct) ps pm c.ro (f.run Φ) := by
  refine ⟨fun A outer s H args us vs Z ds d outs Q hr hgd e0 hb r ao hg hQ => ?_⟩
  have hl : vs.length = ps.length := by rw [ao.l2, C.pml]
  have hld : ds.length = ps.length := by rw [ao.l1, C.pml]
  have hpl : ps.length ≤ c.c.N.length := by have := congrArg List.length C.S.pre; rw [List.length_take] at this; omega
  have KX : K.In s.heap := e0.mod.kin.keeps fun b o e => (e0.bs b o e).1
  have lim : s.heap.NoLimit := e0.mod.nolimit.keeps fun b o e => (e0.bs b o e).1
  have kinds : ∀ y ∈ ps.zip us, scope.names.lookup y.1 = some .local ∨ (scope.names.lookup y.1 = some .cell ∧ ((cellsFrom (s.heap.objs.size + 1) scope.names []).lookup y.1).isSome = true) := fun ⟨n, v⟩ hy => by
    rcases C.S.par n (List.of_mem_zip hy).1 with q | q
    · exact .inl q
    · exact .inr ⟨q, PySem.W.cellsFrom_some _ _ _ (.inl q)⟩
  refine codeAny_call_function hr.depth (KX _ _ lk) rfl C.S.co C.S.gen rfl (PySem.W.codeRec_of KX hcd) (hb _ _ _ _ ?_)
  refine wpAny_newFunctionEnv_cells C.S.kind kinds fun env he s1 x => ?_
  subst he
  refine ⟨lim.keeps x.toInCall.keep, codeAny_func ?_⟩
  let X := cxOf CX0 P w K mg base c.c.N qual scope fa cdv A outer s H E0
  have ok : XOk Φ c.c k X.nox := by
    refine ⟨rfl, C.S.nd, C.sc.symm, fun y hy => ?_, rfl, guards_deeper hgd, hr.deeper _, gf.bn, gf.G, gf.F⟩
    rw [C.sw] at hy
    exact ⟨loc_of hy, .inl rfl⟩
  obtain ⟨t, ht, hq⟩ := ss_sound f.body (c := c) (L := []) ok .never body C.ok
  have I : Inv X [] (start c.c.N vs) H s1 := inv_start C.S hr.hd e0 hl r x
  -- the run
  unfold FnIR.run at hg
  split at hg
  · rename_i hc
    have hio : ∀ i ∈ ioP 0 pm, isL (ds.map some) i = true := fun i hi => List.all_eq_true.mp hc.2 i (by rw [C.fio]; exact hi)
    have ioD : ∀ i, pm[i]? = some Pm.io → isL (ds.map some) i = true := fun i hi => hio i (ioP_mem.mpr ⟨i, by omega, hi⟩)
    have e1 : f.len - f.np = c.c.N.length - ps.length := by rw [C.len, C.np]
    have I0 : SI K (gam0 pm (c.c.N.length - ps.length)) (ds.map some ++ List.replicate (f.len - f.np) none) (start c.c.N vs) H Z := by
      unfold L2.start
      exact SI.pad e1 (by rw [hl]) ao.si
    have hlen : (ds.map some ++ List.replicate (f.len - f.np) none).length = (gam0 pm (c.c.N.length - ps.length)).length := by
      unfold gam0
      simp only [List.length_append, List.length_map, List.length_replicate]
      rw [ao.l1, e1]
    have res : ∀ {n' Γ' σ' H' Z' d' v}, Step K c.c.io (gam0 pm (c.c.N.length - ps.length)) Γ' (muL f.body) (ds.map some ++ List.replicate (f.len - f.np) none) (start c.c.N vs) H Z n' σ' H' Z' →
        RetV K c.ro c.c.io (gam0 pm (c.c.N.length - ps.length)) (ds.map some ++ List.replicate (f.len - f.np) none) (start c.c.N vs) H H' Z' d' v → FRes.ok d' (f.io.map fun i => (getN n' i).getD .non) = .ok d outs → Q v H' := by
      intro n' Γ' σ' H' Z' d' v S rv e
      cases e
      refine hQ v H' Z' ⟨S.fr.mono fun p hp => ?_, S.si.zok, ?_, ?_, ioD⟩
      · obtain ⟨j, hj, hlj, hp⟩ := hp
        have hf := ownOf_own j hj
        rw [flag_gam] at hf
        exact .inl ⟨j, flag_pm_own hf, sl_pad.mp hp⟩
      · unfold RetV at rv
        split
        · rename_i hro
          rw [if_pos hro] at rv
          refine ⟨rv.1, fun l a e1 e2 => ?_⟩
          rcases rv.2 l a e1 e2 with h | ⟨j, hj, hf, _, _⟩
          · exact h
          · rw [flag_gam] at hf
            exact absurd (by rw [C.io]; exact ioP_mem.mpr ⟨j, by omega, flag_pm_own hf⟩) hj
        · rename_i hro
          rw [if_neg hro] at rv
          exact rv
      · rw [C.fio]
        refine outs_of ao.l2 fun j v h1 h2 => ?_
        have hjo : j ∈ c.c.io := by rw [C.io]; exact ioP_mem.mpr ⟨j, by omega, h1⟩
        obtain ⟨x1, x2, x3⟩ := S.io j hjo
        have x0 : (start c.c.N vs)[j]? = some (some v) := sl_pad.mpr h2
        rw [x0] at x1
        rw [isL_pad, ioD j h1] at x2
        obtain ⟨l, hl2⟩ := isL_iff.mp x2
        obtain ⟨u, hu, ru⟩ := S.si.slot j _ hl2
        rw [x1] at hu
        have hu := Option.some.inj (Option.some.inj hu)
        subst hu
        rw [x3, flag_gam, flag_pm h1] at ru
        obtain ⟨a, xs, rfl, nz, ha, rl⟩ := ru
        refine ⟨l, a, xs, ?_, rfl, nz, ha, rl⟩
        show (getN n' (0 + j)).getD .non = _
        rw [Nat.zero_add, hl2]; rfl
    have fin : (denB Φ f.body (ds.map some ++ List.replicate (f.len - f.np) none)).fine := by
      cases e : denB Φ f.body (ds.map some ++ List.replicate (f.len - f.np) none) with
      | bad => rw [e] at hg; cases hg
      | ex z m => rw [e] at hg; cases hg
      | _ => exact ⟨fun e => (by cases e), fun x m e => (by cases e)⟩
    have key := hq _ (start c.c.N vs) H Z I0 hlen { nx := fun _ H' => Q .non H', rt := Q } fin ⟨fun n' Γ' e1 e2 σ' H' Z' S => ?_, fun n' e1 σ' H' Z' S => ?_, fun n' e1 σ' H' Z' S => ?_, fun d' n' e1 v Γ' σ' H' Z' S rv => ?_⟩
    · refine wpAny_mono ((PSs.nox ht).run [] s1 (start c.c.N vs) H _ I key) (fun fl s' hs => ?_) fun e s' hs => hs
      cases fl with
      | ret u =>
        obtain ⟨v, σ', H', J, rv, q⟩ := hs
        exact ⟨v, H', J.os, J.bare, J.base, J.hok, rv, q⟩
      | next =>
        obtain ⟨σ', H', J, q⟩ := hs
        exact ⟨.non, H', J.os, J.bare, J.base, J.hok, rfl, q⟩
      | brk => obtain ⟨_, _, _, q⟩ := hs; exact q.elim
      | cont => obtain ⟨_, _, _, q⟩ := hs; exact q.elim
    · rw [e1] at hg
      refine res S ?_ hg
      unfold RetV
      split
      · exact ⟨by simp only [RpO, Rp], fun l a e => by cases e⟩
      · simp only [Rp]
    · rw [e1] at hg; cases hg
    · rw [e1] at hg; cases hg
    · rw [e1] at hg
      exact res S rv hg
  · cases hg
end
end Sc
namespace Sc
open PySem PySem.Spec PyProof.Rows L2
def CR.fine : CR → Bool
  | .bad => false
  | _ => true
/-- all that is looked at, of a def -/
def fnB (f : FnIR) (c : Cs) (pm : List Pm) (ps : List Str) (scope : Scope) (body : List Stmt) : Bool :=
  scope.kind == .function && !scope.isCoroutine && !scope.isGenerator && decide c.c.N.Nodup && decide (c.c.N.take ps.length = ps) && ps.all (fun x => scope.names.lookup x == some .local || scope.names.lookup x == some .cell) && scope.names.all (fun y => y.2 != .free) &&
  decide (c.c.io = ioP 0 pm) && decide (f.io = ioP 0 pm) && decide (f.len = c.c.N.length) && decide (f.np = ps.length) && decide (pm.length = ps.length) && (chkSs c [] (gam0 pm (c.c.N.length - ps.length)) f.body body).fine
theorem fn_chk {f : FnIR} {c : Cs} {pm : List Pm} {ps : List Str} {scope : Scope} {body : List Stmt} (h : fnB f c pm ps scope body = true) (h1 : c.c.sc = scope) (h2 : c.c.sw = scope) : FnChk f c pm ps scope body := by
  unfold fnB at h
  simp only [Bool.and_eq_true, Bool.not_eq_true', decide_eq_true_eq, List.all_eq_true, Bool.or_eq_true, beq_iff_eq, bne_iff_ne, ne_eq] at h
  obtain ⟨⟨⟨⟨⟨⟨⟨⟨⟨⟨⟨⟨a1, a2⟩, a3⟩, a4⟩, a5⟩, a6⟩, a7⟩, a8⟩, a9⟩, a10⟩, a11⟩, a12⟩, a13⟩ := h
  exact ⟨⟨a1, a2, a3, a4, a5, a6, a7⟩, h1, h2, a8, a9, a10, a11, a12, fun e => by rw [e] at a13; cases a13⟩
def tb (l : List (FSig × Fn)) : Fns := fun i => ((l[i]?).map Prod.snd).getD fun _ => .bad
/-- a def that may be called -/
structure CalD (P : Program) (w : World) (K : PySem.W.Frag) (mg : Str → Option Value) (base : Heap) (k : Nat) (s : FSig) (g : Fn) : Prop where
  ex : ∃ f fd ps, mg s.name = some (.ref f) ∧ PySem.W.keepIn K (.ref f) = true ∧ (s.po = true → Binds K fd ps []) ∧ (∀ q ∈ s.kb, KwB K fd ps q) ∧ ps.length = s.pm.length ∧ FnD P w K mg base k f fd ps s.pm s.ro g
theorem CalD.mono {P : Program} {w : World} {K : PySem.W.Frag} {mg : Str → Option Value} {base : Heap} {j k : Nat} {s : FSig} {g : Fn} (c : CalD P w K mg base j s g) (h : j ≤ k) : CalD P w K mg base k s g := by
  obtain ⟨f, fd, ps, h1, h2, h3, h3k, h4, h5⟩ := c.ex
  exact ⟨f, fd, ps, h1, h2, h3, h3k, h4, h5.mono h⟩
section
variable {P : Program} {w : World} {K : PySem.W.Frag} {mg : Str → Option Value} {base : Heap} {k : Nat}
theorem gf_of {c : Cx0} {l : List (FSig × Fn)} (hF : c.F = l.map Prod.fst) (hG : ∀ g ∈ c.G, ∃ u v, mg g.1 = some u ∧ RelV v u ∧ ∀ H Z, Rp K H Z g.2 v) (bn : ∀ x ∈ bnames, mg x = none) (h : ∀ p ∈ l, CalD P w K mg base k p.1 p.2) : GF P w K mg base k c (tb l) := by
  refine ⟨bn, hG, fun i s hs => ?_⟩
  rw [hF, List.getElem?_map] at hs
  cases e : l[i]? with
  | none => rw [e] at hs; cases hs
  | some p =>
    rw [e] at hs
    cases hs
    have e2 : tb l i = p.2 := by unfold tb; rw [e]; rfl
    rw [e2]
    exact (h p (List.mem_of_getElem? e)).ex
theorem fnD_of {x qual : Str} {params : Arguments} {body : List Stmt} {scope : Scope} {dvs : List V} {kws : List (Str × V)} {f : Addr} {fd : FuncData} {ir : FnIR} {c : Cs} {pm : List Pm} {ps : List Str} {Φ : Fns} (F : FunD K x qual params body scope dvs kws f fd) (C : FnChk ir c pm ps scope body) (gf : GF P w K mg base k c.c Φ) :
    FnD P w K mg base (k + 1) f fd ps pm c.ro (ir.run Φ) := by
  obtain ⟨oc, od, dV, kV, doc, pm0, an, cdv, ct, osl, rfl, lk, hcd, _, _⟩ := F.ex
  exact fn_D lk hcd C gf
end
/-- the law's call -/
theorem law_callD {P : Program} {w : World} {K : PySem.W.Frag} {mg mb : Str → Option Value} {k : Nat} {fa a : Addr} {fd : FuncData} {x : Str} {g : Fn} {s₁ : Shared} {vs : List Value} {ns : List Int}
    (inK : K.In s₁.heap) (gl : s₁.heap.Ns mainGlobals mg) (bl : s₁.heap.Ns builtinsNs mb) (blb : ∀ x : Str, x ≠ "__name__" → mb x = bootBuiltins x) (nolim : s₁.heap.NoLimit) (gens : s₁.gens = #[])
    (scr : s₁.heap.get? a = some { cls := .type "list", data := .seq vs.toArray }) (areI : IntsAre vs ns) (few : ns.length ≤ sizeLine) (room : Room k callerA)
    (F : ∀ base : Heap, K.In base → base.Ns mainGlobals mg → FnD P w K mg base k fa fd [x] [.eat] false g) (bind : ∀ (s : Shared) (u : Value), BindsTo s fd ⟨[u], []⟩ [(x, u)]) (pure : g [.scr (ns.map .int)] = .ok (.bl true) []) :
    codeAny (model P w) callerA (.call (.ref fa) ⟨[.ref a], []⟩) (fun r s' => r = .ok (.ret (.bool true)) ∧ OldK s₁.heap s'.heap ∧ s'.os = s₁.os ∧ AllBare s'.gens) s₁ := by
  have rv := vals_ints areI
  have lenV := areI.length
  have core : ∀ H : Hp, Only H → SqL K H a (ns.map V.int) → HOk P w H s₁.heap → (∀ b, H b ≠ none → b = a) → (H a ≠ none → K.lookup a = none) → codeAny (model P w) callerA (.call (.ref fa) ⟨[.ref a], []⟩) (fun r s' => r = .ok (.ret (.bool true)) ∧ OldK s₁.heap s'.heap ∧ s'.os = s₁.os ∧ AllBare s'.gens) s₁ := by
    intro H only seq hok onlyA notK
    have hidden : ∀ {b : Addr} {o : Obj}, s₁.heap.get? b = some o → H b = none → (hidT s₁.heap H).get? b = some o := fun e n => hidT_get e n
    have dicts : ∀ {b : Addr} {o : Obj} {es : Array DictEntry} {ep : Nat}, s₁.heap.get? b = some o → o.data = .dict es ep → H b = none := fun {b o es ep} e d => by
      cases q : H b with
      | none => rfl
      | some u =>
        have e' : b = a := onlyA b (by rw [q]; simp)
        subst e'
        rw [scr] at e; cases e
        have d' : Data.seq vs.toArray _ = Data.dict es ep := d
        cases d'
    have nsH : ∀ {b : Addr} {m : Str → Option Value}, s₁.heap.Ns b m → (hidT s₁.heap H).Ns b m := fun {b m} ⟨o, es, ep, e, d, r⟩ => ⟨o, es, ep, hidden e (dicts e d), d, r⟩
    have inH : K.In (hidT s₁.heap H) := fun b o e => hidden (inK b o e) (by
      cases q : H b with
      | none => rfl
      | some u =>
        have e' : b = a := onlyA b (by rw [q]; simp)
        subst e'
        rw [notK (by rw [q]; simp)] at e; cases e)
    have md : Mod K mg (hidT s₁.heap H) := ⟨inH, nsH gl, ⟨mb, nsH bl, blb⟩, let ⟨mc, h1, h2⟩ := nolim; ⟨mc, nsH h1, h2⟩⟩
    have env0 : Env0 P w K mg (hidT s₁.heap H) callerA [] s₁ H := ⟨rfl, md, fun b o e => of_hidT e, Nat.le_of_eq (hidT_size _ _), trivial, fun b hb => absurd (show b ∈ ([] : List Addr) from hb) (by simp), hok, .of_eq gens⟩
    obtain ⟨Z, zok, sz⟩ : ∃ Z : AP1, ZOk H Z ∧ ScrZ K H Z a (ns.map V.int) := by
      rcases seq with h | h
      · exact ⟨fun b => b = a, fun p e => by rw [show p = a from e]; exact rd_some h, .inl ⟨rfl, h⟩⟩
      · exact ⟨fun _ => False, fun _ h => h.elim, .inr (.inr h)⟩
    have rl : ∀ ms : List Int, RpL K H Z (ms.map .int) (ms.map V.int) := fun ms => by
      induction ms with
      | nil => exact RpL.nil
      | cons m ms ih => exact .cons (by simp only [Rp]) ih
    have rp : Rp K H Z (.scr (ns.map .int)) (.ref a) := by
      simp only [Rp]
      exact ⟨a, _, rfl, sz, rl ns⟩
    have ao : ArgsOk K H Z [.eat] [.scr (ns.map .int)] [.ref a] := by
      refine ⟨rfl, rfl, ⟨rfl, fun i d hd => ?_, fun i j p hij h1 h2 => ?_, fun i j p h1 h2 => ?_, zok⟩⟩
      · rw [getN_map] at hd
        match i, hd with
        | 0, hd =>
          cases hd
          exact ⟨.ref a, rfl, rp⟩
        | i + 1, hd => simp at hd
      · have := flag_pm_own h1
        match i, this with
        | 0, h => cases h
        | i + 1, h => simp at h
      · have := flag_pm_own h1
        match i, this with
        | 0, h => cases h
        | i + 1, h => simp at h
    refine codeAny_mono ((F _ inH (nsH gl)).run callerA [] s₁ H ⟨[.ref a], []⟩ [.ref a] [.ref a] Z [.scr (ns.map .int)] (.bl true) [] (fun v _ => v = .bl true) room rfl env0 (bind s₁ (.ref a)) (.cons rfl .nil) ao pure fun v H' Z' ro => by
      have := ro.res
      simpa [Rp] using this) fun r s' h => ?_
    cases r with
    | error e => exact h.elim
    | ok fl =>
      cases fl with
      | next => exact False.elim h
      | brk => exact False.elim h
      | cont => exact False.elim h
      | ret u =>
        obtain ⟨v, H', os, bare, un, hok', r', q⟩ := h
        have q' : v = .bl true := q
        subst q'
        obtain rfl : u = Value.bool true := r'
        refine ⟨rfl, OldK.of_keep fun b o e => ?_, os, bare⟩
        cases q : H b with
        | none => exact un.keep b o e q (by intro z; exact absurd (show b ∈ ([] : List Addr) from z) (by simp)) (by simp)
        | some u =>
          rcases only b with z | ⟨ob, xs, z⟩
          · rw [q] at z; cases z
          · have z2 := un.frzs b ob _ z
            obtain ⟨e1, _⟩ := hok b _ z
            obtain ⟨e2, _⟩ := hok' b _ z2
            rw [e] at e1; cases e1
            exact e2
  cases lk : K.lookup a with
  | some o =>
    have e := inK a o lk
    rw [scr] at e
    cases e
    exact core (fun _ => none) (fun _ => .inl rfl) (.inr ⟨_, vs.toArray, _, lk, rfl, rfl, rfl, by rw [List.size_toArray, lenV]; exact few, by simpa using rv⟩) (fun b u z => by cases (show (none : Option HO) = some u from z)) (fun b z => absurd rfl z) fun z => absurd rfl z
  | none =>
    refine core (fun b => if b = a then some (.frz { cls := .type "list", data := .seq vs.toArray } (.lst (ns.map V.int))) else none) (fun b => ?_) (.inl (.inr ⟨{ cls := .type "list", data := .seq vs.toArray }, if_pos rfl⟩)) (fun b u z => ?_) (fun b z => ?_) fun _ => lk
    · by_cases e : b = a
      · exact .inr ⟨_, _, if_pos e⟩
      · exact .inl (if_neg e)
    · by_cases e : b = a
      · have z' := (if_pos e).symm.trans z
        cases z'
        subst e
        exact ⟨scr, by rw [List.length_map]; exact few, vs, _, rv, scr⟩
      · have z' := (if_neg e).symm.trans z
        cases z'
    · by_cases e : b = a
      · exact e
      · exact absurd (if_neg e) z
/-- a law's end -/
theorem walk_D {l : PySem.W.OpenLaw} {n k : Nat} {q : Program} {loose : List Str} {XP : (Str → Option Value) → Heap → Prop} {YP : World → Heap → Prop} {d : DefRec} {x : Str} {g : Fn}
    (most : l.most = some n) (few : n ≤ sizeLine) (dflt : d.params.defaults = []) (room : Room k callerA)
    (F : ∀ (w : World) (mg : Str → Option Value) (fa : Addr) (h : Heap), YP w h → h.Ns mainGlobals mg → mg d.name = some (.ref fa) →
      ∃ (K : PySem.W.Frag) (fd : FuncData), K.In h ∧ (∀ (s : Shared) (u : Value), BindsTo s fd ⟨[u], []⟩ [(x, u)]) ∧ ∀ base : Heap, K.In base → base.Ns mainGlobals mg → FnD l.prog w K mg base k fa fd [x] [.eat] false g)
    (pure : ∀ ns : List Int, ns.length ≤ n → g [.scr (ns.map .int)] = .ok (.bl true) []) : PySem.W.WalkO q loose XP YP l.row.toRowW d [] (fun f vs => PySem.call f vs) := by
  refine Att.attach_call most dflt fun w s₀ s₁ mg mb fa o pm cd doc a vs ns G Y ho hd hcd hmg hobj hints hlen hg => ?_
  obtain ⟨K, fd, inK, hb, hF⟩ := F w mg fa _ Y G.T.g hmg
  exact law_callD inK G.T.g G.T.b G.T.builtins G.T.nolimit hg hobj hints (Nat.le_trans hlen few) room hF hb (pure ns hlen)
/-- the module's names as they are told -/
theorem free_bn {K : PySem.W.Frag} {h : Heap} {mg : Str → Option Value} {fa : List He.Fa} {fn : List He.DefD} (inK : K.In h) (gl : h.Ns mainGlobals mg) (c : He.SaysD fa fn K) (hb : ∀ x ∈ bnames, He.Fa.free x ∈ fa) : ∀ x ∈ bnames, mg x = none := fun x hx => by
  obtain ⟨i, hi⟩ := List.mem_iff_getElem?.mp (hb x hx)
  exact He.free_ok inK gl (c.fact i hi)
/-- no constants of the module are read -/
theorem noG {K : PySem.W.Frag} {mg : Str → Option Value} {G : List (Str × D)} (h : G = []) : ∀ g ∈ G, ∃ u v, mg g.1 = some u ∧ RelV v u ∧ ∀ H Z, Rp K H Z g.2 v := fun g hg => by rw [h] at hg; simp at hg
theorem intG {K : PySem.W.Frag} {h : Heap} {mg : Str → Option Value} {x : Str} {i : Int} (X : K.In h) (G : h.Ns mainGlobals mg) (c : (He.Fa.int x i).ok K = true) : ∃ u v, mg x = some u ∧ RelV v u ∧ ∀ H Z, Rp K H Z (.int i) v := by
  obtain ⟨t, e⟩ := He.int_ok X G c
  exact ⟨_, .int i, e, ⟨t, rfl⟩, fun H Z => by simp only [Rp]⟩
theorem strG {K : PySem.W.Frag} {h : Heap} {mg : Str → Option Value} {x z : Str} (X : K.In h) (G : h.Ns mainGlobals mg) (c : (He.Fa.str x z).ok K = true) : ∃ u v, mg x = some u ∧ RelV v u ∧ ∀ H Z, Rp K H Z (.str z) v := by
  obtain ⟨t, e⟩ := He.str_ok X G c
  exact ⟨_, .str z, e, ⟨t, rfl⟩, fun H Z => by simp only [Rp]⟩
theorem cal_of {P : Program} {w : World} {K : PySem.W.Frag} {mg : Str → Option Value} {base : Heap} {k : Nat} {x : Str} {params : Arguments} {body : List Stmt} {scope : Scope} {dvs : List V} {kws : List (Str × V)} {fd : FuncData} {ir : FnIR} {c : Cs} {s : FSig} {ps : List Str} {l : List (FSig × Fn)} {f : Addr} (F : FunD K x x params body scope dvs kws f fd)
    (gl : mg x = some (.ref f)) (hx : s.name = x) (hr : s.ro = c.ro) (bd : s.po = true → Binds K fd ps []) (kb : ∀ q ∈ s.kb, KwB K fd ps q)
    (ck : fnB ir c s.pm ps scope body = true) (h1 : c.c.sc = scope) (h2 : c.c.sw = scope) (hF : c.c.F = l.map Prod.fst) (hG : ∀ g ∈ c.c.G, ∃ u v, mg g.1 = some u ∧ RelV v u ∧ ∀ H Z, Rp K H Z g.2 v) (bn : ∀ x ∈ bnames, mg x = none) (cs : ∀ p ∈ l, CalD P w K mg base k p.1 p.2) : CalD P w K mg base (k + 1) s (ir.run (tb l)) := by
  have C := fn_chk ck h1 h2
  refine ⟨f, fd, ps, by rw [hx]; exact gl, F.kp, bd, kb, C.pml.symm, ?_⟩
  rw [hr]
  exact fnD_of F C (gf_of hF hG bn cs)
def permFlat (perm : List Pk) : Bool := perm.all fun p => match p with
  | .df d => flatD d
  | .at _ => true
theorem perm_flat {perm : List Pk} (h : permFlat perm = true) : ∀ d, Pk.df d ∈ perm → flatD d = true := fun d hd => List.all_eq_true.mp h _ hd
/-- a call that writes all by names or places -/
theorem kbn0 {K : PySem.W.Frag} {x qual : Str} {params : Arguments} {body : List Stmt} {scope : Scope} {kws : List (Str × V)} {f : Addr} {fd : FuncData} {ps : List Str} (F : FunD K x qual params body scope [] kws f fd) (n : Nat) (ks : List Str) (g : {α : Type} → List α → List α → List α)
    (hrel : ∀ {vs zs : List V} {us ws : List Value}, Vals vs us → Vals zs ws → Vals (g vs zs) (g us ws))
    (h : ∀ (kV doc pm : Value) (an : Option Addr) (cdv ct : Value) (us ws : List Value), us.length = n → ws.length = ks.length → bindArgs (PySem.W.fnOf x qual params body scope .none kV doc pm an cdv ct) ⟨us, ks.zip ws⟩ = pure (ps.zip (g us ws))) :
    KBn K fd ps n ks (fun us ws => g us ws) (fun vs zs => g vs zs) := by
  obtain ⟨oc, od, dV, kV, doc, pm, an, cdv, ct, osl, rfl, lk, hcd, hD, hK⟩ := F.ex
  rcases hD with ⟨_, rfl⟩ | ⟨e, _⟩
  · exact ⟨fun s us ws X l1 l2 => .of_eq (h kV doc pm an cdv ct us ws l1 l2), fun r1 r2 => hrel r1 r2⟩
  · exact absurd rfl e
end Sc
namespace Sc
open PySem PySem.Spec PyProof.Rows L2
/-! ### what is asked of an outcome -/
def WE {α : Type} (r : ER α) (Q : α → Env → Prop) : Prop := match r with
  | .ok a n => Q a n
  | _ => False
def WL {α : Type} (r : Option α) (Q : α → Prop) : Prop := match r with
  | some a => Q a
  | none => False
def WR (r : FRes) (Q : D → List D → Prop) : Prop := match r with
  | .ok d o => Q d o
  | _ => False
structure Post where
  nx : Env → Prop
  rt : D → Env → Prop
  bk : Env → Prop := fun _ => False
  ct : Env → Prop := fun _ => False
def WF (f : Fl) (P : Post) : Prop := match f with
  | .nx n => P.nx n
  | .rt d n => P.rt d n
  | .bk n => P.bk n
  | .ct n => P.ct n
  | _ => False
theorem WE.ex {α : Type} {r : ER α} {Q : α → Env → Prop} (h : WE r Q) : ∃ a n, r = .ok a n ∧ Q a n := by
  cases r with
  | ok a n => exact ⟨a, n, rfl, h⟩
  | ex _ _ => exact h.elim
  | bad => exact h.elim
theorem WE.mono {α : Type} {r : ER α} {Q R : α → Env → Prop} (h : WE r Q) (q : ∀ a n, Q a n → R a n) : WE r R := by
  cases r with
  | ok a n => exact q _ _ h
  | ex _ _ => exact h.elim
  | bad => exact h.elim
theorem WR.mono {r : FRes} {Q R : D → List D → Prop} (h : WR r Q) (q : ∀ a n, Q a n → R a n) : WR r R := by
  cases r with
  | ok a n => exact q _ _ h
  | ex _ _ => exact h.elim
  | bad => exact h.elim
theorem WR.ex {r : FRes} {Q : D → List D → Prop} (h : WR r Q) : ∃ d o, r = .ok d o ∧ Q d o := by
  cases r with
  | ok a n => exact ⟨a, n, rfl, h⟩
  | ex _ _ => exact h.elim
  | bad => exact h.elim
theorem WR.of {r : FRes} {Q : D → List D → Prop} {d : D} {o : List D} (h : r = .ok d o) (q : Q d o) : WR r Q := by rw [h]; exact q
theorem WF.mono {f : Fl} {P R : Post} (h : WF f P) (h1 : ∀ n, P.nx n → R.nx n) (h2 : ∀ d n, P.rt d n → R.rt d n) (h3 : ∀ n, P.bk n → R.bk n) (h4 : ∀ n, P.ct n → R.ct n) : WF f R := by
  cases f with
  | nx n => exact h1 _ h
  | rt d n => exact h2 _ _ h
  | bk n => exact h3 _ h
  | ct n => exact h4 _ h
  | ex _ _ => exact h.elim
  | bad => exact h.elim
@[simp] theorem we_ok {α : Type} {a : α} {n : Env} {Q : α → Env → Prop} : WE (.ok a n) Q = Q a n := rfl
@[simp] theorem we_bad {α : Type} {Q : α → Env → Prop} : WE .bad Q = False := rfl
@[simp] theorem we_bind {α β : Type} {r : ER α} {f : α → Env → ER β} {Q : β → Env → Prop} : WE (r.bind f) Q = WE r fun a n => WE (f a n) Q := by cases r <;> rfl
@[simp] theorem we_lift {α : Type} {r : Option α} {n : Env} {Q : α → Env → Prop} : WE (lift r n) Q = WL r fun a => Q a n := by cases r <;> rfl
@[simp] theorem we_toBl {r : ER D} {Q : Bool → Env → Prop} : WE (toBl r) Q = WE r fun x n => ∃ b, x = .bl b ∧ Q b n := by
  unfold toBl
  rw [we_bind]
  congr 1
  funext x n
  cases x <;> simp [WE]
@[simp] theorem wl_some {α : Type} {a : α} {Q : α → Prop} : WL (some a) Q = Q a := rfl
@[simp] theorem wl_none {α : Type} {Q : α → Prop} : WL (none : Option α) Q = False := rfl
@[simp] theorem wl_ite {α : Type} {c : Prop} [Decidable c] {a : α} {Q : α → Prop} : WL (if c then some a else none) Q = (c ∧ Q a) := by
  by_cases h : c <;> simp [h, WL]
@[simp] theorem wl_map {α β : Type} {r : Option α} {f : α → β} {Q : β → Prop} : WL (r.map f) Q = WL r fun a => Q (f a) := by cases r <;> rfl
@[simp] theorem wl_bind {α β : Type} {r : Option α} {f : α → Option β} {Q : β → Prop} : WL (r.bind f) Q = WL r fun a => WL (f a) Q := by cases r <;> rfl
theorem WL.of {α : Type} {r : Option α} {a : α} {Q : α → Prop} (h : r = some a) (q : Q a) : WL r Q := by rw [h]; exact q
@[simp] theorem wr_ok {d : D} {o : List D} {Q : D → List D → Prop} : WR (.ok d o) Q = Q d o := rfl
@[simp] theorem we_ite {α : Type} {c : Prop} [Decidable c] {a b : ER α} {Q : α → Env → Prop} : WE (if c then a else b) Q = if c then WE a Q else WE b Q := by split <;> rfl
section
variable {Φ : Fns} {n : Env} {Q : D → Env → Prop}
theorem we_var {i : Nat} : WE ((E.var i).den Φ n) Q = WL (getN n i) fun d => Q d n := by simp only [E.den, we_lift]
theorem we_cst {d : D} : WE ((E.cst d).den Φ n) Q = Q d n := by simp only [E.den, we_ok]
theorem we_glb {x : Str} {d : D} : WE ((E.glb x d).den Φ n) Q = Q d n := by simp only [E.den, we_ok]
theorem we_bin {o : Bop} {a b : E} : WE ((E.bin o a b).den Φ n) Q = WE (a.den Φ n) fun x n => WE (b.den Φ n) fun y n => WL (binD o x y) fun z => Q z n := by simp only [E.den, we_bind, we_lift]
theorem we_neg {a : E} : WE ((E.neg a).den Φ n) Q = WE (a.den Φ n) fun x n => ∃ i, x = .int i ∧ Q (.int (-i)) n := by
  simp only [E.den, we_bind]
  congr 1
  funext x n
  cases x <;> simp [WE]
theorem we_nt {a : E} : WE ((E.nt a).den Φ n) Q = WE (a.den Φ n) fun x n => ∃ b, x = .bl b ∧ Q (.bl (!b)) n := by simp only [E.den, we_bind, we_toBl, we_ok]
theorem we_an {a b : E} : WE ((E.an a b).den Φ n) Q = WE (a.den Φ n) fun x n => ∃ t, x = .bl t ∧ if t = true then WE (b.den Φ n) fun y n => ∃ u, y = .bl u ∧ Q (.bl u) n else Q (.bl false) n := by simp only [E.den, we_bind, we_toBl, we_ite, we_ok]
theorem we_or {a b : E} : WE ((E.or a b).den Φ n) Q = WE (a.den Φ n) fun x n => ∃ t, x = .bl t ∧ if t = true then Q (.bl true) n else WE (b.den Φ n) fun y n => ∃ u, y = .bl u ∧ Q (.bl u) n := by simp only [E.den, we_bind, we_toBl, we_ite, we_ok]
theorem we_cmp {o : Cop} {a b : E} : WE ((E.cmp o a b).den Φ n) Q = WE (a.den Φ n) fun x n => WE (b.den Φ n) fun y n => WL (cmpD o x y) fun z => Q (.bl z) n := by simp only [E.den, we_bind, we_lift, wl_map]
theorem we_chn {o p : Cop} {a b c : E} : WE ((E.chn o p a b c).den Φ n) Q = WE (a.den Φ n) fun x n => WE (b.den Φ n) fun y n => WL (cmpD o x y) fun r => if r = true then WE (c.den Φ n) fun z n => WL (cmpD p y z) fun s => Q (.bl s) n else Q (.bl false) n := by simp only [E.den, we_bind, we_lift, we_ite, wl_map, we_ok]
theorem we_ife {c a b : E} : WE ((E.ife c a b).den Φ n) Q = WE (c.den Φ n) fun x n => ∃ t, x = .bl t ∧ if t = true then WE (a.den Φ n) Q else WE (b.den Φ n) Q := by simp only [E.den, we_bind, we_toBl, we_ite]
theorem we_idx {a b : E} : WE ((E.idx a b).den Φ n) Q = WE (a.den Φ n) fun x n => WE (b.den Φ n) fun y n => WL (idxD x y) fun z => Q z n := by simp only [E.den, we_bind, we_lift]
def WO (e : E) (r : Env → ER D) (n : Env) (Q : D → Env → Prop) : Prop := WE (optR e (r n) n) Q
theorem wo_no {r : Env → ER D} : WO .no r n Q = Q .non n := rfl
theorem we_opt {e : E} {r : ER D} (h : e.isNo = false) : WE (optR e r n) Q = WE r fun x n => ∃ i, x = .int i ∧ Q (.int i) n := by
  have : optR e r n = r.bind fun x n => match x with
    | .int i => ER.ok (D.int i) n
    | _ => .bad := by cases e <;> first | rfl | exact Bool.noConfusion h
  rw [this, we_bind]
  congr 1
  funext x n
  cases x <;> simp [WE]
theorem we_opt0 {r : ER D} : WE (optR .no r n) Q = Q .non n := rfl
theorem we_slc {a lo hi : E} : WE ((E.slc a lo hi).den Φ n) Q = WE (a.den Φ n) fun x n => WE (optR lo (lo.den Φ n) n) fun y n => WE (optR hi (hi.den Φ n) n) fun z n => WL (slcD x y z) fun d => Q d n := by simp only [E.den, we_bind, we_lift]
def WLs (r : ER (List D)) (Q : List D → Env → Prop) : Prop := WE r Q
theorem we_tup {es : List E} : WE ((E.tup es).den Φ n) Q = WE (denL Φ es n) fun xs n => xs.length ≤ big ∧ Q (.tup xs) n := by
  simp only [E.den, we_bind]
  congr 1
  funext x n
  by_cases h : x.length ≤ big <;> simp [h]
theorem we_lst {es : List E} : WE ((E.lst es).den Φ n) Q = WE (denL Φ es n) fun xs n => xs.length ≤ big ∧ Q (.lst xs) n := by
  simp only [E.den, we_bind]
  congr 1
  funext x n
  by_cases h : x.length ≤ big <;> simp [h]
theorem wd_nil {Q : List D → Env → Prop} : WE (denL Φ [] n) Q = Q [] n := by simp only [denL, we_ok]
theorem wd_cons {e : E} {es : List E} {Q : List D → Env → Prop} : WE (denL Φ (e :: es) n) Q = WE (e.den Φ n) fun x n => WE (denL Φ es n) fun xs n => Q (x :: xs) n := by simp only [denL, we_bind, we_ok]
theorem we_call {f : Nat} {args : List E} {io : List Nat} : WE ((E.call f args io).den Φ n) Q = WE (denL Φ args n) fun ds n => WR (Φ f ds) fun d outs => outs.length = io.length ∧ Q d (setOuts io outs n) := by
  simp only [E.den, we_bind]
  congr 1
  funext ds n
  cases Φ f ds with
  | ok d outs => by_cases h : outs.length = io.length <;> simp [h]
  | ex _ _ => rfl
  | bad => rfl
theorem we_callr {f : Nat} {args : List E} {io : List Nat} : WE ((E.callr f args io).den Φ n) Q = WE (denL Φ args n) fun ds n => WR (Φ f (reread io n args ds)) fun d outs => outs.length = io.length ∧ Q d (setOuts io outs n) := by
  simp only [E.den, we_bind]
  congr 1
  funext ds n
  cases Φ f (reread io n args ds) with
  | ok d outs => by_cases h : outs.length = io.length <;> simp [h]
  | ex _ _ => rfl
  | bad => rfl
theorem we_callk {f np : Nat} {ks : List Str} {args : List E} {perm : List Pk} : WE ((E.callk f np ks args perm).den Φ n) Q = WE (denL Φ args n) fun ds n => WR (Φ f (permD perm ds)) fun d outs => outs = [] ∧ Q d n := by
  simp only [E.den, we_bind]
  congr 1
  funext ds n
  cases Φ f (permD perm ds) with
  | ok d outs => cases outs <;> simp [WE, WR]
  | ex _ _ => rfl
  | bad => rfl
theorem we_bi {b : Bi} {args : List E} : WE ((E.bi b args).den Φ n) Q = WE (denL Φ args n) fun ds n => WL (biD b ds) fun d => Q d n := by simp only [E.den, we_bind, we_lift]
theorem we_mth {m : Mt} {a : E} {args : List E} : WE ((E.mth m a args).den Φ n) Q = WE (a.den Φ n) fun x n => WE (denL Φ args n) fun ds n => WL (mtD m x ds) fun d => Q d n := by simp only [E.den, we_bind, we_lift]
theorem we_rng {a b : E} : WE ((E.rng a b).den Φ n) Q = WE (optR a (a.den Φ n) n) fun x n => WE (b.den Φ n) fun y n => WL (rngD (nz x) y) fun l => Q (.lst l) n := by simp only [E.den, we_bind, we_lift, wl_map]
theorem we_tr {a b : E} : WE ((E.tr a b).den Φ n) Q = WE (optR a (a.den Φ n) n) fun x n => WE (b.den Φ n) fun y n => WL (rngD (nz x) y) fun l => Q (.tup l) n := by simp only [E.den, we_bind, we_lift, wl_map]
theorem we_rvr {a b : E} : WE ((E.rvr a b).den Φ n) Q = WE (optR a (a.den Φ n) n) fun x n => WE (b.den Φ n) fun y n => WL (rngD (nz x) y) fun l => Q (.lst l.reverse) n := by simp only [E.den, we_bind, we_lift, wl_map]
theorem we_zip {a b : E} : WE ((E.zip a b).den Φ n) Q = WE (a.den Φ n) fun x n => WE (b.den Φ n) fun y n => WL (seqD x) fun l => WL (seqD y) fun m => Q (.lst (zipD l m)) n := by simp only [E.den, we_bind, we_lift, we_ok]
theorem we_lz {a b : E} : WE ((E.lz a b).den Φ n) Q = WE (a.den Φ n) fun x n => WE (b.den Φ n) fun y n => WL (lzD x y) fun z => Q z n := by simp only [E.den, we_bind, we_lift]
theorem we_enm {a : E} : WE ((E.enm a).den Φ n) Q = WE (a.den Φ n) fun x n => WL (seqD x) fun l => Q (.lst (enmD 0 l)) n := by simp only [E.den, we_bind, we_lift, we_ok]
theorem we_rev {a : E} : WE ((E.rev a).den Φ n) Q = WE (a.den Φ n) fun x n => WL (seqD x) fun l => Q (.lst l.reverse) n := by simp only [E.den, we_bind, we_lift, we_ok]
theorem we_zp3 {a b c : E} : WE ((E.zp3 a b c).den Φ n) Q = WE (a.den Φ n) fun x n => WE (b.den Φ n) fun y n => WE (c.den Φ n) fun z n => WL (seqD x) fun l => WL (seqD y) fun m => WL (seqD z) fun q => Q (.lst (zip3D l m q)) n := by simp only [E.den, we_bind, we_lift, we_ok]
theorem we_rdn {a : E} : WE ((E.rdn a).den Φ n) Q = WE (a.den Φ n) fun x n => WL (rdnD x) fun l => Q (.lst l) n := by simp only [E.den, we_bind, we_lift, wl_map]
theorem we_rvt {a : E} : WE ((E.rvt a).den Φ n) Q = WE (a.den Φ n) fun x n => WL (rvD x) fun d => Q d n := by simp only [E.den, we_bind, we_lift]
theorem we_lc {elt it c : E} {tg : Tg} {own : List Nat} : WE ((E.lc elt tg it c own).den Φ n) Q = WE (it.den Φ n) fun x n1 => WL (seqD x) fun ds => WE (lcGo (asgD tg) (fun m => cndR c (c.den Φ m) m) (fun m => elt.den Φ m) (fun m => wipeN m own) ds n1) fun xs n2 => Q (.lst xs) (mrg (c.wr ++ elt.wr) n1 n2) := by simp only [E.den, we_bind, we_lift, we_ok]
theorem we_lc2 {elt it it1 c : E} {tg tg1 : Tg} {own own1 : List Nat} : WE ((E.lc2 elt tg it tg1 it1 c own own1).den Φ n) Q = WE (it.den Φ n) fun x n1 => WL (seqD x) fun ds => WE (lc2Go (asgD tg) (fun m => (it1.den Φ m).bind fun y m => lift (seqD y) m) (asgD tg1) (fun m => cndR c (c.den Φ m) m) (fun m => elt.den Φ m) (fun m => wipeN m own) (fun m => wipeN m own1) ds n1) fun xs n2 => Q (.lst xs) n1 := by simp only [E.den, we_bind, we_lift, we_ok]
theorem wc_no {r : ER D} {Q : Bool → Env → Prop} : WE (cndR .no r n) Q = Q true n := rfl
theorem wc_some {e : E} {r : ER D} {Q : Bool → Env → Prop} (h : e.isNo = false) : WE (cndR e r n) Q = WE r fun x n => ∃ b, x = .bl b ∧ Q b n := by
  have : cndR e r n = toBl r := by cases e <;> first | rfl | exact Bool.noConfusion h
  rw [this, we_toBl]
end
/-! ### statements -/
def WS (Φ : Fns) (ss : List S) (n : Env) (P : Post) : Prop := WF (denB Φ ss n) P
@[simp] theorem wf_fl {α : Type} {r : ER α} {f : α → Env → Fl} {P : Post} : WF (r.fl f) P = WE r fun a n => WF (f a n) P := by cases r <;> rfl
@[simp] theorem wf_nx {n : Env} {P : Post} : WF (.nx n) P = P.nx n := rfl
@[simp] theorem wf_rt {d : D} {n : Env} {P : Post} : WF (.rt d n) P = P.rt d n := rfl
@[simp] theorem wf_bk {n : Env} {P : Post} : WF (.bk n) P = P.bk n := rfl
@[simp] theorem wf_ct {n : Env} {P : Post} : WF (.ct n) P = P.ct n := rfl
theorem wf_seq {r : Fl} {f : Env → Fl} {P : Post} : WF (r.seq f) P = WF r { P with nx := fun m => WF (f m) P } := by cases r <;> rfl
theorem wf_asO {o : Option Env} {P : Post} : WF (asO o) P = WL o P.nx := by cases o <;> rfl
section
variable {Φ : Fns} {n : Env} {r : List S} {P : Post}
theorem ws_nil : WS Φ [] n P = P.nx n := by simp only [WS, denB, wf_nx]
theorem ws_fz {l : List Nat} : WS Φ (.fz l :: r) n P = WS Φ r n P := by simp only [WS, denB, S.den, wf_seq, wf_nx]
theorem ws_asg {i : Nat} {e : E} : WS Φ (.asg i e :: r) n P = WE (e.den Φ n) fun d n => WS Φ r (n.set i (some d)) P := by simp only [WS, denB, S.den, wf_seq, wf_fl, wf_nx]
theorem ws_asgT {t : Tg} {e : E} : WS Φ (.asgT t e :: r) n P = WE (e.den Φ n) fun d n => WL (asgD t d n) fun m => WS Φ r m P := by simp only [WS, denB, S.den, wf_seq, wf_fl, wf_asO]
theorem ws_par {i j : Nat} {a b : E} : WS Φ (.par i j a b :: r) n P = WE (a.den Φ n) fun d n => WE (b.den Φ n) fun c n => WS Φ r ((n.set i (some d)).set j (some c)) P := by simp only [WS, denB, S.den, wf_seq, wf_fl, wf_nx]
theorem ws_aug {i : Nat} {o : Bop} {e : E} : WS Φ (.aug i o e :: r) n P = WL (getN n i) fun x => WE (e.den Φ n) fun y n => WL (augD o x y) fun z => WS Φ r (n.set i (some z)) P := by simp only [WS, denB, S.den, wf_seq, wf_fl, we_lift, wf_nx]
theorem ws_setI {i : Nat} {ix e : E} : WS Φ (.setI i ix e :: r) n P = WE (e.den Φ n) fun d n => WL (getN n i) fun x => WE (ix.den Φ n) fun k n => WL (setD x k d) fun z => WS Φ r (n.set i (some z)) P := by simp only [WS, denB, S.den, wf_seq, wf_fl, we_lift, wf_nx]
theorem ws_ex {e : E} : WS Φ (.ex e :: r) n P = WE (e.den Φ n) fun _ n => WS Φ r n P := by simp only [WS, denB, S.den, wf_seq, wf_fl, wf_nx]
theorem ws_mut {m : Mu} {i : Nat} {args : List E} : WS Φ (.mut m i args :: r) n P = WL (getN n i) fun x => WE (denL Φ args n) fun ds n => WL (muD m x ds) fun z => WS Φ r (n.set i (some z.1)) P := by simp only [WS, denB, S.den, wf_seq, wf_fl, we_lift, wf_nx]
theorem ws_ext {i : Nat} {e : E} : WS Φ (.ext i e :: r) n P = WL (getN n i) fun x => WE (e.den Φ n) fun d n => WL (muD .extend x [d]) fun z => WS Φ r (n.set i (some z.1)) P := by simp only [WS, denB, S.den, wf_seq, wf_fl, we_lift, wf_nx]
theorem ws_rmv {i : Nat} {e : E} : WS Φ (.rmv i e :: r) n P = WL (getN n i) fun x => WE (e.den Φ n) fun d n => WL (muD .remove x [d]) fun z => WS Φ r (n.set i (some z.1)) P := by simp only [WS, denB, S.den, wf_seq, wf_fl, we_lift, wf_nx]
theorem ws_rvs {i : Nat} : WS Φ (.rvs i :: r) n P = WL (getN n i) fun x => WL (muD .reverse x []) fun z => WS Φ r (n.set i (some z.1)) P := by simp only [WS, denB, S.den, wf_seq, wf_fl, we_lift, wf_nx]
theorem ws_clr {i : Nat} : WS Φ (.clr i :: r) n P = WL (getN n i) fun x => WL (muD .clear x []) fun z => WS Φ r (n.set i (some z.1)) P := by simp only [WS, denB, S.den, wf_seq, wf_fl, we_lift, wf_nx]
theorem ws_ite {c : E} {a b : List S} : WS Φ (.ite c a b :: r) n P = WE (c.den Φ n) fun x n => ∃ t, x = .bl t ∧ if t = true then WS Φ a n { P with nx := fun m => WS Φ r m P } else WS Φ b n { P with nx := fun m => WS Φ r m P } := by
  simp only [WS, denB, S.den, wf_seq, wf_fl, we_toBl]
  congr 1
  funext x n
  congr 1
  funext t
  cases t <;> simp
theorem ws_fr {t : Tg} {it : E} {b : List S} : WS Φ (.fr t it b :: r) n P = WE (it.den Φ n) fun x n => WL (seqD x) fun ds => WF (forGo (asgD t) (fun m => denB Φ b m) ds n) { P with nx := fun m => WS Φ r m P } := by simp only [WS, denB, S.den, wf_seq, wf_fl, we_lift]
theorem ws_wh {c : E} {b : List S} : WS Φ (.wh c b :: r) n P = WF (whGo (fun m => toBl (c.den Φ m)) (fun m => denB Φ b m) n) { P with nx := fun m => WS Φ r m P } := by simp only [WS, denB, S.den, wf_seq]
theorem ws_ret {e : E} : WS Φ (.ret e :: r) n P = WE (e.den Φ n) fun d n => P.rt d n := by simp only [WS, denB, S.den, wf_seq, wf_fl, wf_rt]
theorem ws_retN : WS Φ (.retN :: r) n P = P.rt .non n := by simp only [WS, denB, S.den, wf_seq, wf_rt]
theorem ws_brk : WS Φ (.brk :: r) n P = P.bk n := by simp only [WS, denB, S.den, wf_seq, wf_bk]
theorem ws_cnt : WS Φ (.cnt :: r) n P = P.ct n := by simp only [WS, denB, S.den, wf_seq, wf_ct]
theorem ws_pas : WS Φ (.pas :: r) n P = WS Φ r n P := by simp only [WS, denB, S.den, wf_seq, wf_nx]
end
/-- a for by an invariant -/
theorem wf_for {asg : D → Env → Option Env} {body : Env → Fl} {P : Post} : ∀ (ds : List D) (I : Nat → Env → Prop) (n : Env), I 0 n →
    (∀ i d n, ds[i]? = some d → I i n → WL (asg d n) fun m => WF (body m) { nx := I (i + 1), ct := I (i + 1), bk := P.nx, rt := P.rt }) → (∀ n, I ds.length n → P.nx n) → WF (forGo asg body ds n) P
  | [], I, n, h0, hs, hd => hd n h0
  | d :: r, I, n, h0, hs, hd => by
    have h := hs 0 d n rfl h0
    rw [forGo]
    cases e : asg d n with
    | none => rw [e] at h; exact h.elim
    | some m =>
      rw [e] at h
      have h : WF (body m) _ := h
      dsimp only
      cases eb : body m with
      | nx k =>
        rw [eb] at h
        exact wf_for r (fun i => I (i + 1)) k h (fun i d n hd hi => hs (i + 1) d n (by simpa using hd) hi) hd
      | ct k =>
        rw [eb] at h
        exact wf_for r (fun i => I (i + 1)) k h (fun i d n hd hi => hs (i + 1) d n (by simpa using hd) hi) hd
      | bk k => rw [eb] at h; exact h
      | rt d k => rw [eb] at h; exact h
      | ex _ _ => rw [eb] at h; exact h.elim
      | bad => rw [eb] at h; exact h.elim
/-- a while by an invariant and a measure -/
theorem wf_wh {c : Env → ER Bool} {body : Env → Fl} {P : Post} (I : Env → Prop) (μ : Env → Nat) (hs : ∀ n, I n → WE (c n) fun b m => if b = true then WF (body m) { nx := fun k => I k ∧ μ k < μ n, ct := fun k => I k ∧ μ k < μ n, bk := P.nx, rt := P.rt } else P.nx m) (n : Env) (h0 : I n) : WF (whGo c body n) P := by
  have key : ∀ (N : Nat) (n : Env), μ n < N → I n → ∃ f, WhR c body n f ∧ WF f P := by
    intro N
    induction N with
    | zero => intro n h; omega
    | succ N ih =>
      intro n hn hi
      obtain ⟨b, m, e, h⟩ := (hs n hi).ex
      cases b with
      | false =>
        rw [if_neg Bool.false_ne_true] at h
        exact ⟨_, .stop e, h⟩
      | true =>
        rw [if_pos rfl] at h
        cases eb : body m with
        | nx k =>
          rw [eb] at h
          obtain ⟨f, w, q⟩ := ih k (by have := h.2; omega) h.1
          exact ⟨f, .next e (.inl eb) w, q⟩
        | ct k =>
          rw [eb] at h
          obtain ⟨f, w, q⟩ := ih k (by have := h.2; omega) h.1
          exact ⟨f, .next e (.inr eb) w, q⟩
        | bk k => rw [eb] at h; exact ⟨_, .brk e eb, h⟩
        | rt d k => rw [eb] at h; exact ⟨_, .out e eb (fun _ h => by cases h) (fun _ h => by cases h) (fun _ h => by cases h), h⟩
        | ex _ _ => rw [eb] at h; exact h.elim
        | bad => rw [eb] at h; exact h.elim
  obtain ⟨f, w, q⟩ := key (μ n + 1) n (by omega) h0
  rw [whGo_eq w]; exact q
/-- a def's run -/
theorem wr_run {Φ : Fns} {f : FnIR} {ds : List D} {Q : D → List D → Prop} (h1 : ds.length = f.np) (h2 : (f.io.all fun i => isL (ds.map some) i) = true)
    (h : WS Φ f.body (ds.map some ++ List.replicate (f.len - f.np) none) ⟨fun n => Q .non (f.io.map fun i => (getN n i).getD .non), fun d n => Q d (f.io.map fun i => (getN n i).getD .non), fun _ => False, fun _ => False⟩) : WR (f.run Φ ds) Q := by
  unfold FnIR.run
  rw [if_pos ⟨h1, h2⟩]
  unfold WS at h
  cases e : denB Φ f.body (ds.map some ++ List.replicate (f.len - f.np) none) with
  | nx n => rw [e] at h; exact h
  | rt d n => rw [e] at h; exact h
  | bk n => rw [e] at h; exact h.elim
  | ct n => rw [e] at h; exact h.elim
  | ex _ _ => rw [e] at h; exact h.elim
  | bad => rw [e] at h; exact h.elim
/-! ### comprehensions -/
theorem wc_ind {asg : D → Env → Option Env} {cond : Env → ER Bool} {elt : Env → ER D} {wp : Env → Env} {R : List D → Env → Prop} (P : Nat → List D → Env → Prop) (ds : List D) (n : Env) (h0 : P 0 [] n) (hl : ds.length ≤ big)
    (hs : ∀ i d acc n, ds[i]? = some d → P i acc n → WL (asg d (wp n)) fun m => WE (cond m) fun b m => if b = true then WE (elt m) fun x m => P (i + 1) (acc ++ [x]) m else P (i + 1) acc m) (hd : ∀ acc n, P ds.length acc n → R acc n) : WE (lcGo asg cond elt wp ds n) R := by
  have key : ∀ (ds : List D) (P : Nat → List D → Env → Prop) (acc : List D) (n : Env), ds.length ≤ big → P 0 acc n → (∀ i d acc n, ds[i]? = some d → P i acc n → WL (asg d (wp n)) fun m => WE (cond m) fun b m => if b = true then WE (elt m) fun x m => P (i + 1) (acc ++ [x]) m else P (i + 1) acc m) →
      WE (lcGo asg cond elt wp ds n) fun xs n => P ds.length (acc ++ xs) n ∧ xs.length ≤ ds.length := by
    intro ds
    induction ds with
    | nil => intro P acc n _ h0 _; exact ⟨by simpa using h0, Nat.le_refl _⟩
    | cons d r ih =>
      intro P acc n hl h0 hs
      have h := hs 0 d acc n rfl h0
      rw [lcGo]
      cases e : asg d (wp n) with
      | none => rw [e] at h; exact h.elim
      | some m =>
        rw [e] at h
        have h : WE (cond m) _ := h
        dsimp only
        rw [we_bind]
        refine h.mono fun b m2 h => ?_
        have hs2 : ∀ i d acc n, r[i]? = some d → P (i + 1) acc n → WL (asg d (wp n)) fun m => WE (cond m) fun b m => if b = true then WE (elt m) fun x m => P (i + 1 + 1) (acc ++ [x]) m else P (i + 1 + 1) acc m := fun i d acc n hd hp => hs (i + 1) d acc n (by simpa using hd) hp
        simp only [List.length_cons] at hl
        cases b with
        | false =>
          rw [if_neg Bool.false_ne_true] at h ⊢
          exact (ih (fun i => P (i + 1)) acc m2 (by omega) h hs2).mono fun xs k q => ⟨q.1, by simp only [List.length_cons]; omega⟩
        | true =>
          rw [if_pos rfl] at h ⊢
          rw [we_bind]
          refine h.mono fun x m3 h => ?_
          rw [we_bind]
          refine (ih (fun i => P (i + 1)) (acc ++ [x]) m3 (by omega) h hs2).mono fun xs k q => ?_
          rw [if_pos (by omega)]
          refine ⟨?_, by simp only [List.length_cons]; omega⟩
          have := q.1
          rwa [List.append_assoc] at this
  exact (key ds P [] n hl h0 hs).mono fun xs k q => hd _ _ (by simpa using q.1)
/-- where nothing is changed but its own names -/
theorem wc_pure {asg : D → Env → Option Env} {cond : Env → ER Bool} {elt : Env → ER D} {wp : Env → Env} {R : List D → Env → Prop} (b : D → Bool) (f : D → D) (ds : List D) (n : Env) (hl : ds.length ≤ big)
    (hs : ∀ d ∈ ds, WL (asg d (wp n)) fun m => wp m = wp n ∧ WE (cond m) fun t k => k = m ∧ t = b d ∧ (t = true → WE (elt m) fun x k => k = m ∧ x = f d)) (hd : ∀ n', R ((ds.filter b).map f) n') : WE (lcGo asg cond elt wp ds n) R := by
  refine wc_ind (fun i acc m => wp m = wp n ∧ acc = ((ds.take i).filter b).map f) ds n ⟨rfl, rfl⟩ hl (fun i d acc m hd ⟨e1, e2⟩ => ?_) fun acc m ⟨_, e⟩ => by rw [e, List.take_length]; exact hd m
  have h := hs d (List.mem_of_getElem? hd)
  rw [e1]
  cases ea : asg d (wp n) with
  | none => rw [ea] at h; exact h.elim
  | some m1 =>
    rw [ea] at h
    obtain ⟨q1, q2⟩ := h
    have ht : ds.take (i + 1) = ds.take i ++ [d] := by
      rw [List.take_succ, hd]; rfl
    refine q2.mono fun t k ⟨hk, hb, hx⟩ => ?_
    subst hk
    rw [ht, List.filter_append, List.map_append]
    cases t with
    | false =>
      rw [if_neg Bool.false_ne_true]
      refine ⟨q1, ?_⟩
      rw [e2, List.filter_cons, ← hb]
      simp
    | true =>
      rw [if_pos rfl]
      refine (hx rfl).mono fun x k2 ⟨hk, hx2⟩ => ?_
      subst hk
      rw [hx2]
      refine ⟨q1, ?_⟩
      rw [e2, List.filter_cons, ← hb]
      simp
end Sc
namespace Sc
open PySem PySem.Spec PyProof.Rows L2
/-! ### what the operations tell, as it is asked -/
@[simp] theorem gN0 {x : Option D} {r : Env} : getN (x :: r) 0 = x := by unfold getN; cases x <;> rfl
@[simp] theorem gNS {x : Option D} {r : Env} {i : Nat} : getN (x :: r) (i + 1) = getN r i := rfl
@[simp] theorem set0 {α : Type} {x y : α} {r : List α} : (x :: r).set 0 y = y :: r := rfl
@[simp] theorem setS {α : Type} {x y : α} {r : List α} {i : Nat} : (x :: r).set (i + 1) y = x :: r.set i y := rfl
theorem cEq {i j : Int} : cmpD .eq (.int i) (.int j) = some (decide (i = j)) := rfl
theorem cNe {i j : Int} : cmpD .ne (.int i) (.int j) = some (!decide (i = j)) := rfl
theorem cLt {i j : Int} : cmpD .lt (.int i) (.int j) = some (decide (i < j)) := rfl
theorem cLe {i j : Int} : cmpD .le (.int i) (.int j) = some (decide (i ≤ j)) := rfl
theorem cGt {i j : Int} : cmpD .gt (.int i) (.int j) = some (decide (j < i)) := rfl
theorem cGe {i j : Int} : cmpD .ge (.int i) (.int j) = some (decide (j ≤ i)) := rfl
theorem cSeq {i j : Str} : cmpD .eq (.str i) (.str j) = some (decide (i = j)) := rfl
theorem cSne {i j : Str} : cmpD .ne (.str i) (.str j) = some (!decide (i = j)) := rfl
theorem cIs {a : D} : cmpD .is_ a .non = some (isNonD a) := by cases a <;> rfl
theorem cIsn {a : D} : cmpD .isn a .non = some (!isNonD a) := by cases a <;> rfl
theorem bAdd {i j : Int} : binD .add (.int i) (.int j) = some (.int (i + j)) := rfl
theorem bSub {i j : Int} : binD .sub (.int i) (.int j) = some (.int (i - j)) := rfl
theorem bMul {i j : Int} : binD .mul (.int i) (.int j) = if mulOk i j = true then some (.int (i * j)) else none := rfl
theorem bDiv {i j : Int} : binD .fdiv (.int i) (.int j) = if 0 < j ∧ j.natAbs < 2 ^ 4000 then some (.int (i / j)) else none := rfl
theorem bMod {i j : Int} : binD .mod (.int i) (.int j) = if 0 < j then some (.int (i % j)) else none := rfl
theorem bPow {i j : Int} : binD .pow (.int i) (.int j) = if 0 ≤ j ∧ j ≤ 1000 ∧ i.natAbs < 2 ^ 64 then some (.int (i ^ j.toNat)) else none := rfl
theorem bTup {l m : List D} : binD .add (.tup l) (.tup m) = if l.length + m.length ≤ big then some (.tup (l ++ m)) else none := rfl
theorem bLst {l m : List D} : binD .add (.lst l) (.lst m) = if l.length + m.length ≤ big then some (.lst (l ++ m)) else none := rfl
theorem aAdd {i j : Int} : augD .add (.int i) (.int j) = some (.int (i + j)) := rfl
theorem aSub {i j : Int} : augD .sub (.int i) (.int j) = some (.int (i - j)) := rfl
theorem aMul {i j : Int} : augD .mul (.int i) (.int j) = if i.natAbs < 2 ^ 64 ∨ j.natAbs < 2 ^ 64 then some (.int (i * j)) else none := rfl
theorem aDiv {i j : Int} : augD .fdiv (.int i) (.int j) = if 0 < j ∧ j.natAbs < 2 ^ 4000 then some (.int (i / j)) else none := rfl
theorem ixT {l : List D} {i : Int} : idxD (.tup l) (.int i) = atD l i := rfl
theorem ixL {l : List D} {i : Int} : idxD (.lst l) (.int i) = atD l i := rfl
theorem at0 {x : D} {r : List D} : atD (x :: r) 0 = some x := rfl
theorem at1 {x y : D} {r : List D} : atD (x :: y :: r) 1 = some y := rfl
theorem at2 {x y z : D} {r : List D} : atD (x :: y :: z :: r) 2 = some z := rfl
theorem at3 {x y z u : D} {r : List D} : atD (x :: y :: z :: u :: r) 3 = some u := rfl
theorem atN {l : List D} {i : Nat} : atD l (i : Int) = l[i]? := by unfold atD; rw [if_pos (by omega)]; rfl
theorem atP {l : List D} {i : Int} (h : 0 ≤ i) : atD l i = l[i.toNat]? := by unfold atD; rw [if_pos h]
theorem atLast {l : List D} (h : l ≠ []) : atD l (-1) = l.getLast? := by
  have hp := List.length_pos_iff.mpr h
  unfold atD
  rw [if_neg (by decide), if_pos (by omega), List.getLast?_eq_getElem?]
  congr 1
  omega
theorem sqL {l : List D} : seqD (.lst l) = some l := rfl
theorem sqT {l : List D} : seqD (.tup l) = some l := rfl
theorem biLen {l : List D} : biD .len [.lst l] = some (.int l.length) := rfl
theorem biLenT {l : List D} : biD .len [.tup l] = some (.int l.length) := rfl
theorem biTup {l : List D} : biD .tuple [.lst l] = some (.tup l) := rfl
theorem biTupT {l : List D} : biD .tuple [.tup l] = some (.tup l) := rfl
theorem biLst {l : List D} : biD .list [.lst l] = some (.lst l) := rfl
theorem biLstT {l : List D} : biD .list [.tup l] = some (.lst l) := rfl
theorem biMax {i j : Int} : biD .max [.int i, .int j] = some (.int (if j > i then j else i)) := rfl
theorem biMin {i j : Int} : biD .min [.int i, .int j] = some (.int (if j < i then j else i)) := rfl
theorem biIntB {b : Bool} : biD .int [.bl b] = some (.int (if b then 1 else 0)) := rfl
theorem intsD_map : ∀ ns : List Int, intsD (ns.map .int) = some ns
  | [] => rfl
  | i :: r => by simp only [List.map_cons, intsD, intsD_map r, Option.map_some]
theorem biSrt {l : List D} {ns : List Int} (h : l = ns.map .int) : biD .sorted [.lst l] = some (.lst ((srtI ns).map .int)) := by
  subst h
  show (intsD _).map _ = _
  rw [intsD_map]
  rfl
theorem biAbs {i : Int} : biD .abs [.int i] = some (.int (if i < 0 then -i else i)) := rfl
theorem biIsB {b : Bool} : biD .isi [.bl b, .ty "bool"] = some (.bl true) := rfl
theorem blE {a b : Bool} : (D.bl a = D.bl b) = (b = a) := by simp only [D.bl.injEq, eq_comm]
theorem exB {a : Bool} {Q : Bool → Prop} : (∃ b, D.bl a = .bl b ∧ Q b) = Q a := by
  apply propext
  constructor
  · rintro ⟨b, e, q⟩; cases e; exact q
  · exact fun q => ⟨a, rfl, q⟩
theorem exI {a : Int} {Q : Int → Prop} : (∃ b, D.int a = .int b ∧ Q b) = Q a := by
  apply propext
  constructor
  · rintro ⟨b, e, q⟩; cases e; exact q
  · exact fun q => ⟨a, rfl, q⟩
theorem asN {i : Nat} {d : D} {n : Env} : asgD (.nm i) d n = if i < n.length then some (n.set i (some d)) else none := by simp only [asgD]
theorem asT {l : List Tg} {xs : List D} {n : Env} : asgD (.tp l) (.tup xs) n = asgL l xs n := by simp only [asgD]
theorem asL0 {n : Env} : asgL [] [] n = some n := by simp only [asgL]
theorem asLS {t : Tg} {r : List Tg} {d : D} {s : List D} {n : Env} : asgL (t :: r) (d :: s) n = (asgD t d n).bind fun m => asgL r s m := by simp only [asgL]
theorem muApp {l : List D} {d : D} : muD .append (.lst l) [d] = if l.length < big then some (.lst (l ++ [d]), .non) else none := rfl
theorem muExt {l m : List D} : muD .extend (.lst l) [.lst m] = if l.length + m.length ≤ big then some (.lst (l ++ m), .non) else none := rfl
theorem muRev {l : List D} : muD .reverse (.lst l) [] = some (.lst l.reverse, .non) := rfl
theorem muClr {l : List D} : muD .clear (.lst l) [] = some (.lst [], .non) := rfl
theorem rvL {l : List D} : rvD (.lst l) = some (.lst l.reverse) := rfl
theorem rvT {l : List D} : rvD (.tup l) = some (.tup l.reverse) := rfl
theorem lzL {l m : List D} : lzD (.lst l) (.lst m) = some (.lst (zipD l m)) := rfl
theorem mulL {i j : Int} (h : i.natAbs < 2 ^ 64) : mulOk i j = true := by simp [mulOk, h]
theorem mulR {i j : Int} (h : j.natAbs < 2 ^ 64) : mulOk i j = true := by simp [mulOk, h]
theorem pw4000 {n k : Nat} (h : n < 2 ^ k) (hk : k ≤ 4000) : n < 2 ^ 4000 := Nat.lt_of_lt_of_le h (Nat.pow_le_pow_right (by decide) hk)
theorem so0 {n : Env} : setOuts [] [] n = n := rfl
theorem soS {i : Nat} {r : List Nat} {d : D} {s : List D} {n : Env} : setOuts (i :: r) (d :: s) n = setOuts r s (n.set i (some d)) := rfl
theorem mr0 {n m : Env} : mrg [] n m = n := rfl
theorem mrS {v : Nat} {r : List Nat} {n m : Env} : mrg (v :: r) n m = (mrg r n m).set v ((m[v]?).bind id) := rfl
theorem wp0 {n : Env} : wipeN n [] = n := rfl
theorem wpS {v : Nat} {r : List Nat} {n : Env} : wipeN n (v :: r) = (wipeN n r).set v none := rfl
theorem rg {i j : Int} : rngD (.int i) (.int j) = if i.natAbs < 2 ^ 60 ∧ j.natAbs < 2 ^ 60 ∧ (j - i).toNat ≤ big then some ((List.range (j - i).toNat).map fun k : Nat => .int (i + (k : Int))) else none := rfl
theorem nzN : nz .non = .int 0 := rfl
theorem nzI {i : Int} : nz (.int i) = .int i := rfl
theorem wpA : type_of% (And.intro @ws_nil (And.intro @ws_fz (And.intro @ws_asg (And.intro @ws_asgT (And.intro @ws_par (And.intro @ws_aug (And.intro @ws_setI (And.intro @ws_ex (And.intro @ws_mut (And.intro @ws_ext (And.intro @ws_rmv (And.intro @ws_rvs (And.intro @ws_clr (And.intro @ws_ite (And.intro @ws_fr (And.intro @ws_wh (And.intro @ws_ret (And.intro @ws_retN (And.intro @ws_brk (And.intro @ws_cnt @ws_pas)))))))))))))))))))) :=
  (And.intro @ws_nil (And.intro @ws_fz (And.intro @ws_asg (And.intro @ws_asgT (And.intro @ws_par (And.intro @ws_aug (And.intro @ws_setI (And.intro @ws_ex (And.intro @ws_mut (And.intro @ws_ext (And.intro @ws_rmv (And.intro @ws_rvs (And.intro @ws_clr (And.intro @ws_ite (And.intro @ws_fr (And.intro @ws_wh (And.intro @ws_ret (And.intro @ws_retN (And.intro @ws_brk (And.intro @ws_cnt @ws_pas))))))))))))))))))))
theorem wpB : type_of% (And.intro @we_ok (And.intro @we_bad (And.intro @we_bind (And.intro @we_lift (And.intro @we_toBl (And.intro @we_ite (And.intro @wl_some (And.intro @wl_none (And.intro @wl_ite (And.intro @wl_map (And.intro @wl_bind (And.intro @wr_ok (And.intro @wf_nx (And.intro @wf_rt (And.intro @wf_bk (And.intro @wf_ct (And.intro @we_var (And.intro @we_cst (And.intro @we_glb (And.intro @we_bin (And.intro @we_neg (And.intro @we_nt (And.intro @we_an (And.intro @we_or (And.intro @we_cmp (And.intro @we_chn (And.intro @we_ife (And.intro @we_idx (And.intro @we_slc (And.intro @we_opt0 (And.intro @we_tup (And.intro @we_lst (And.intro @wd_nil (And.intro @wd_cons (And.intro @we_call (And.intro @we_callk (And.intro @we_bi (And.intro @we_mth (And.intro @we_rng (And.intro @we_tr (And.intro @we_rvr (And.intro @we_zip (And.intro @we_lz (And.intro @we_enm (And.intro @we_rev (And.intro (And.intro @we_zp3 (And.intro @we_rdn @we_rvt)) (And.intro @we_lc (And.intro @we_lc2 @wc_no)))))))))))))))))))))))))))))))))))))))))))))))) :=
  (And.intro @we_ok (And.intro @we_bad (And.intro @we_bind (And.intro @we_lift (And.intro @we_toBl (And.intro @we_ite (And.intro @wl_some (And.intro @wl_none (And.intro @wl_ite (And.intro @wl_map (And.intro @wl_bind (And.intro @wr_ok (And.intro @wf_nx (And.intro @wf_rt (And.intro @wf_bk (And.intro @wf_ct (And.intro @we_var (And.intro @we_cst (And.intro @we_glb (And.intro @we_bin (And.intro @we_neg (And.intro @we_nt (And.intro @we_an (And.intro @we_or (And.intro @we_cmp (And.intro @we_chn (And.intro @we_ife (And.intro @we_idx (And.intro @we_slc (And.intro @we_opt0 (And.intro @we_tup (And.intro @we_lst (And.intro @wd_nil (And.intro @wd_cons (And.intro @we_call (And.intro @we_callk (And.intro @we_bi (And.intro @we_mth (And.intro @we_rng (And.intro @we_tr (And.intro @we_rvr (And.intro @we_zip (And.intro @we_lz (And.intro @we_enm (And.intro @we_rev (And.intro (And.intro @we_zp3 (And.intro @we_rdn @we_rvt)) (And.intro @we_lc (And.intro @we_lc2 @wc_no))))))))))))))))))))))))))))))))))))))))))))))))
theorem wpC : type_of% (And.intro @gN0 (And.intro @gNS (And.intro @set0 (And.intro @setS (And.intro @cEq (And.intro @cNe (And.intro @cLt (And.intro @cLe (And.intro @cGt (And.intro @cGe (And.intro @cSeq (And.intro @cSne (And.intro @cIs (And.intro @cIsn (And.intro @bAdd (And.intro @bSub (And.intro @bMul (And.intro @bDiv (And.intro @bMod (And.intro @bPow (And.intro @bTup (And.intro @bLst (And.intro @aAdd (And.intro @aSub (And.intro @aMul (And.intro @aDiv (And.intro @ixT (And.intro @ixL (And.intro @at0 (And.intro @at1 (And.intro @at2 (And.intro @at3 (And.intro @sqL (And.intro @sqT (And.intro @biLen (And.intro @biLenT (And.intro @biTup (And.intro @biTupT (And.intro @biLst (And.intro @biLstT (And.intro @biMax (And.intro @biMin (And.intro @biIntB (And.intro @biAbs (And.intro @biIsB (And.intro @exB (And.intro @exI (And.intro @asN (And.intro @asT (And.intro @asL0 (And.intro @asLS (And.intro @muApp (And.intro @muExt (And.intro @muRev (And.intro @muClr (And.intro @rvL (And.intro @rvT (And.intro @lzL (And.intro @so0 (And.intro @soS (And.intro @mr0 (And.intro @mrS (And.intro @wp0 (And.intro @wpS (And.intro @nzN @nzI))))))))))))))))))))))))))))))))))))))))))))))))))))))))))))))))) :=
  (And.intro @gN0 (And.intro @gNS (And.intro @set0 (And.intro @setS (And.intro @cEq (And.intro @cNe (And.intro @cLt (And.intro @cLe (And.intro @cGt (And.intro @cGe (And.intro @cSeq (And.intro @cSne (And.intro @cIs (And.intro @cIsn (And.intro @bAdd (And.intro @bSub (And.intro @bMul (And.intro @bDiv (And.intro @bMod (And.intro @bPow (And.intro @bTup (And.intro @bLst (And.intro @aAdd (And.intro @aSub (And.intro @aMul (And.intro @aDiv (And.intro @ixT (And.intro @ixL (And.intro @at0 (And.intro @at1 (And.intro @at2 (And.intro @at3 (And.intro @sqL (And.intro @sqT (And.intro @biLen (And.intro @biLenT (And.intro @biTup (And.intro @biTupT (And.intro @biLst (And.intro @biLstT (And.intro @biMax (And.intro @biMin (And.intro @biIntB (And.intro @biAbs (And.intro @biIsB (And.intro @exB (And.intro @exI (And.intro @asN (And.intro @asT (And.intro @asL0 (And.intro @asLS (And.intro @muApp (And.intro @muExt (And.intro @muRev (And.intro @muClr (And.intro @rvL (And.intro @rvT (And.intro @lzL (And.intro @so0 (And.intro @soS (And.intro @mr0 (And.intro @mrS (And.intro @wp0 (And.intro @wpS (And.intro @nzN @nzI)))))))))))))))))))))))))))))))))))))))))))))))))))))))))))))))))
end Sc
namespace Sc
open PySem PySem.Spec PyProof.Rows L2
/-! ### plain rules over the denotations -/
@[simp] theorem getN0 {x : Option D} {r : Env} : getN (x :: r) 0 = x := by unfold getN; cases x <;> rfl
@[simp] theorem getNS {x : Option D} {r : Env} {i : Nat} : getN (x :: r) (i + 1) = getN r i := rfl
theorem eqD_nil {l : List Int} : eqD (.lst (l.map .int)) (.lst []) = some (decide (l = [])) := by
  have h : isPyL (l.map D.int) = true := by
    rw [isPyL_all]; simp [D.isPy]
  have h2 : ∀ k, fitL (k + 1) (l.map D.int) = true := fun k => by
    induction l with
    | nil => rfl
    | cons a r ih => simp only [List.map_cons, fitL, fit, Bool.true_and]; exact ih (by rw [isPyL_all]; simp [D.isPy])
  have e : (D.lst (l.map .int)).isPy = true := by simp only [D.isPy]; exact h
  have e2 : fit 60 (D.lst (l.map .int)) = true := by simp only [fit]; exact h2 58
  have e3 : eqD (.lst (l.map .int)) (.lst []) = if (D.lst (l.map .int)).isPy && (D.lst []).isPy && fit 60 (D.lst (l.map .int)) && fit 60 (D.lst []) then some (PyData.eqv (D.lst (l.map .int)).py (D.lst []).py) else none := rfl
  rw [e3, e, e2]
  have : (true && (D.lst []).isPy && true && fit 60 (D.lst [])) = true := rfl
  rw [this, if_pos rfl]
  cases l with
  | nil => rfl
  | cons a r => simp [D.py, pyL, PyData.eqv, PyData.eqvAll]
@[simp] theorem cmp_nil {l : List Int} : cmpD .ne (.lst (l.map .int)) (.lst []) = some (!decide (l = [])) := by show (eqD _ _).map _ = _; rw [eqD_nil]; rfl
@[simp] theorem cmp_nil0 : cmpD .ne (.lst []) (.lst []) = some false := cmp_nil (l := [])
@[simp] theorem cmp_gt {i j : Int} : cmpD .gt (.int i) (.int j) = some (decide (j < i)) := rfl
@[simp] theorem cmp_lt {i j : Int} : cmpD .lt (.int i) (.int j) = some (decide (i < j)) := rfl
@[simp] theorem cmp_ge {i j : Int} : cmpD .ge (.int i) (.int j) = some (decide (j ≤ i)) := rfl
@[simp] theorem cmp_le {i j : Int} : cmpD .le (.int i) (.int j) = some (decide (i ≤ j)) := rfl
@[simp] theorem cmp_eq {i j : Int} : cmpD .eq (.int i) (.int j) = some (decide (i = j)) := rfl
@[simp] theorem cmp_ne {i j : Int} : cmpD .ne (.int i) (.int j) = some (!decide (i = j)) := rfl
@[simp] theorem b_add {i j : Int} : binD .add (.int i) (.int j) = some (.int (i + j)) := rfl
@[simp] theorem b_sub {i j : Int} : binD .sub (.int i) (.int j) = some (.int (i - j)) := rfl
theorem b_mod {i j : Int} (h : 0 < j) : binD .mod (.int i) (.int j) = some (.int (i % j)) := by simp only [binD]; rw [if_pos h]
theorem b_fdiv {i j : Int} (h : 0 < j) (h2 : j < 2 ^ 64) : binD .fdiv (.int i) (.int j) = some (.int (i / j)) := by
  have h3 : j.natAbs < 2 ^ 4000 := Nat.lt_of_lt_of_le (show j.natAbs < 2 ^ 64 by omega) (Nat.pow_le_pow_right (by decide) (by decide))
  simp only [binD]
  rw [if_pos ⟨h, h3⟩]
theorem b_mulL {i j : Int} (h : i.natAbs < 2 ^ 64) : binD .mul (.int i) (.int j) = some (.int (i * j)) := by
  have hk : mulOk i j = true := by simp [mulOk, h]
  simp only [binD]
  rw [if_pos hk]
theorem b_mulR {i j : Int} (h : j.natAbs < 2 ^ 64) : binD .mul (.int i) (.int j) = some (.int (i * j)) := by
  have hk : mulOk i j = true := by simp [mulOk, h]
  simp only [binD]
  rw [if_pos hk]
theorem b_pow {i j : Int} (h0 : 0 ≤ j) (h : j ≤ 1000) (h2 : i.natAbs < 2 ^ 64) : binD .pow (.int i) (.int j) = some (.int (i ^ j.toNat)) := by simp only [binD]; rw [if_pos ⟨h0, h, h2⟩]
@[simp] theorem idx0 {x : D} {r : List D} : idxD (.lst (x :: r)) (.int 0) = some x := rfl
@[simp] theorem idx1 {x y : D} {r : List D} : idxD (.lst (x :: y :: r)) (.int 1) = some y := rfl
@[simp] theorem idx2 {x y z : D} {r : List D} : idxD (.lst (x :: y :: z :: r)) (.int 2) = some z := rfl
@[simp] theorem idxt0 {x : D} {r : List D} : idxD (.tup (x :: r)) (.int 0) = some x := rfl
@[simp] theorem idxt1 {x y : D} {r : List D} : idxD (.tup (x :: y :: r)) (.int 1) = some y := rfl
@[simp] theorem set1 {x y d : D} {r : List D} : setD (.lst (x :: y :: r)) (.int 1) d = some (.lst (x :: d :: r)) := by simp [setD]
@[simp] theorem set2 {x y z d : D} {r : List D} : setD (.lst (x :: y :: z :: r)) (.int 2) d = some (.lst (x :: y :: d :: r)) := by simp [setD]
@[simp] theorem bi_len {l : List D} : biD .len [.lst l] = some (.int l.length) := rfl
@[simp] theorem bi_lenT {l : List D} : biD .len [.tup l] = some (.int l.length) := rfl
theorem bi_abs {i : Int} : biD .abs [.int i] = some (.int (if i < 0 then -i else i)) := rfl
@[simp] theorem toBl_ok {b : Bool} {n : Env} : toBl (.ok (.bl b) n) = .ok b n := rfl
@[simp] theorem seq_nx {n : Env} {f : Env → Fl} : (Fl.nx n).seq f = f n := rfl
@[simp] theorem seq_rt {n : Env} {d : D} {f : Env → Fl} : (Fl.rt d n).seq f = .rt d n := rfl
theorem idx_at {l : List Int} {i : Int} (h : 0 ≤ i) (h2 : i < l.length) : ∃ x, idxD (.lst (l.map .int)) (.int i) = some (.int x) ∧ l[i.toNat]? = some x := by
  have hl : i.toNat < l.length := by omega
  refine ⟨l[i.toNat], ?_, by simp [hl]⟩
  simp [idxD, atD, h, hl]
/-- a def's run -/
theorem run_rt {Φ : Fns} {f : FnIR} {ds : List D} {d : D} {n : Env} (h1 : ds.length = f.np) (h2 : (f.io.all fun i => isL (ds.map some) i) = true) (h : denB Φ f.body (ds.map some ++ List.replicate (f.len - f.np) none) = .rt d n) : f.run Φ ds = .ok d (f.io.map fun i => (getN n i).getD .non) := by
  unfold FnIR.run
  rw [if_pos ⟨h1, h2⟩, h]
section
variable {Φ : Fns} {n n1 : Env} {r : List S} {fl : Fl}
theorem st_asg {i : Nat} {e : E} {d : D} (h : e.den Φ n = .ok d n1) (q : denB Φ r (n1.set i (some d)) = fl) : denB Φ (.asg i e :: r) n = fl := by
  simp only [denB, S.den, h, ER.fl_ok, seq_nx]; exact q
theorem st_set {i : Nat} {ix e : E} {d x kx z : D} {n2 : Env} (h : e.den Φ n = .ok d n1) (h2 : getN n1 i = some x) (h3 : ix.den Φ n1 = .ok kx n2) (h4 : setD x kx d = some z) (q : denB Φ r (n2.set i (some z)) = fl) : denB Φ (.setI i ix e :: r) n = fl := by
  simp only [denB, S.den, h, h2, h3, h4, ER.fl_ok, lift_some, seq_nx]; exact q
theorem st_ite {c : E} {a b : List S} {t : Bool} (h : c.den Φ n = .ok (.bl t) n1) (q : denB Φ ((if t then a else b) ++ r) n1 = fl) : denB Φ (.ite c a b :: r) n = fl := by
  have app : ∀ (a : List S) (n : Env), denB Φ (a ++ r) n = (denB Φ a n).seq fun m => denB Φ r m := fun a => by
    induction a with
    | nil => intro n; simp only [List.nil_append, denB, seq_nx]
    | cons s a ih =>
      intro n
      simp only [List.cons_append, denB]
      cases s.den Φ n with
      | nx m => simp only [seq_nx]; exact ih m
      | _ => rfl
  rw [app] at q
  simp only [denB, S.den, h, toBl_ok, ER.fl_ok]
  cases t <;> exact q
theorem st_ret {e : E} {d : D} (h : e.den Φ n = .ok d n1) (q : Fl.rt d n1 = fl) : denB Φ (.ret e :: r) n = fl := by
  simp only [denB, S.den, h, ER.fl_ok, seq_rt]; exact q
theorem st_fz {l : List Nat} (q : denB Φ r n = fl) : denB Φ (.fz l :: r) n = fl := by
  simp only [denB, S.den, seq_nx]; exact q
theorem st_ex {e : E} {d : D} (h : e.den Φ n = .ok d n1) (q : denB Φ r n1 = fl) : denB Φ (.ex e :: r) n = fl := by
  simp only [denB, S.den, h, ER.fl_ok, seq_nx]; exact q
theorem st_app {i : Nat} {e : E} {l : List D} {d : D} (h0 : getN n i = some (.lst l)) (h : e.den Φ n = .ok d n1) (hb : l.length < big) (q : denB Φ r (n1.set i (some (.lst (l ++ [d])))) = fl) : denB Φ (.mut .append i [e] :: r) n = fl := by
  simp only [denB, S.den, h0, lift_some, ER.fl_ok, denL, h, ER.bind_ok, muD, hb, if_true, seq_nx]; exact q
theorem den_cst {d : D} : (E.cst d).den Φ n = .ok d n := by simp only [E.den]
theorem den_var {i : Nat} {d : D} (h : getN n i = some d) : (E.var i).den Φ n = .ok d n := by simp only [E.den, h, lift_some]
theorem den_bin {o : Bop} {a b : E} {n1 n2 : Env} {x y z : D} (h1 : a.den Φ n = .ok x n1) (h2 : b.den Φ n1 = .ok y n2) (h3 : binD o x y = some z) : (E.bin o a b).den Φ n = .ok z n2 := by simp only [E.den, h1, ER.bind_ok, h2, h3, lift_some]
theorem den_cmp {o : Cop} {a b : E} {n1 n2 : Env} {x y : D} {z : Bool} (h1 : a.den Φ n = .ok x n1) (h2 : b.den Φ n1 = .ok y n2) (h3 : cmpD o x y = some z) : (E.cmp o a b).den Φ n = .ok (.bl z) n2 := by simp only [E.den, h1, ER.bind_ok, h2, h3, Option.map_some, lift_some]
theorem den_idx {a b : E} {n1 n2 : Env} {x y z : D} (h1 : a.den Φ n = .ok x n1) (h2 : b.den Φ n1 = .ok y n2) (h3 : idxD x y = some z) : (E.idx a b).den Φ n = .ok z n2 := by simp only [E.den, h1, ER.bind_ok, h2, h3, lift_some]
theorem denL_nil : denL Φ [] n = .ok [] n := by simp only [denL]
theorem denL_cons2 {e : E} {es : List E} {n1 n2 : Env} {x : D} {xs : List D} (h1 : e.den Φ n = .ok x n1) (h2 : denL Φ es n1 = .ok xs n2) : denL Φ (e :: es) n = .ok (x :: xs) n2 := by simp only [denL, h1, ER.bind_ok, h2]
theorem den_bi {b : Bi} {es : List E} {n1 : Env} {xs : List D} {z : D} (h1 : denL Φ es n = .ok xs n1) (h3 : biD b xs = some z) : (E.bi b es).den Φ n = .ok z n1 := by simp only [E.den, h1, ER.bind_ok, h3, lift_some]
theorem den_bi1 {b : Bi} {e : E} {n1 : Env} {x z : D} (h1 : e.den Φ n = .ok x n1) (h3 : biD b [x] = some z) : (E.bi b [e]).den Φ n = .ok z n1 := den_bi (denL_cons2 h1 denL_nil) h3
theorem den_bi2 {b : Bi} {e f : E} {n1 n2 : Env} {x y z : D} (h1 : e.den Φ n = .ok x n1) (h2 : f.den Φ n1 = .ok y n2) (h3 : biD b [x, y] = some z) : (E.bi b [e, f]).den Φ n = .ok z n2 := den_bi (denL_cons2 h1 (denL_cons2 h2 denL_nil)) h3
theorem den_tup {es : List E} {n1 : Env} {xs : List D} (h1 : denL Φ es n = .ok xs n1) (h : xs.length ≤ big) : (E.tup es).den Φ n = .ok (.tup xs) n1 := by simp only [E.den, h1, ER.bind_ok, h, if_true]
theorem den_lst {es : List E} {n1 : Env} {xs : List D} (h1 : denL Φ es n = .ok xs n1) (h : xs.length ≤ big) : (E.lst es).den Φ n = .ok (.lst xs) n1 := by simp only [E.den, h1, ER.bind_ok, h, if_true]
theorem den_lz {a b : E} {n1 n2 : Env} {x y z : D} (h1 : a.den Φ n = .ok x n1) (h2 : b.den Φ n1 = .ok y n2) (h3 : lzD x y = some z) : (E.lz a b).den Φ n = .ok z n2 := by simp only [E.den, h1, ER.bind_ok, h2, h3, lift_some]
theorem den_not {a : E} {n1 : Env} {b : Bool} (h1 : a.den Φ n = .ok (.bl b) n1) : (E.nt a).den Φ n = .ok (.bl (!b)) n1 := by simp only [E.den, h1, toBl_ok, ER.bind_ok]
theorem den_orF {a b : E} {n1 n2 : Env} {y : Bool} (h1 : a.den Φ n = .ok (.bl false) n1) (h2 : b.den Φ n1 = .ok (.bl y) n2) : (E.or a b).den Φ n = .ok (.bl y) n2 := by simp only [E.den, h1, toBl_ok, ER.bind_ok, h2, Bool.false_eq_true, if_false]
theorem den_rng1 {b : E} {n1 : Env} {j : Int} (h1 : b.den Φ n = .ok (.int j) n1) {l : List D} (h : rngD (.int 0) (.int j) = some l) : (E.rng .no b).den Φ n = .ok (.lst l) n1 := by simp only [E.den, optR, nz, ER.bind_ok, h1, h, Option.map_some, lift_some]
theorem sp_asg {i : Nat} {e : E} {d : D} (h : e.den Φ n = .ok d n) (q : denB Φ r (n.set i (some d)) = fl) : denB Φ (.asg i e :: r) n = fl := st_asg h q
theorem sp_set {i : Nat} {ix e : E} {d x kx z : D} (h : e.den Φ n = .ok d n) (h2 : getN n i = some x) (h3 : ix.den Φ n = .ok kx n) (h4 : setD x kx d = some z) (q : denB Φ r (n.set i (some z)) = fl) : denB Φ (.setI i ix e :: r) n = fl := st_set h h2 h3 h4 q
theorem sp_ite {c : E} {a b : List S} (t : Bool) (h : c.den Φ n = .ok (.bl t) n) (q : denB Φ ((if t then a else b) ++ r) n = fl) : denB Φ (.ite c a b :: r) n = fl := st_ite h q
theorem sp_ret {e : E} {d : D} (h : e.den Φ n = .ok d n) (q : Fl.rt d n = fl) : denB Φ (.ret e :: r) n = fl := st_ret h q
end
end Sc
namespace Sc
open PySem PySem.Spec PyProof.Rows L2
def Li.pen : FnIR := ⟨1, 1, [], [], true, [
  .ret (.lst [.bi .list [.slc (.var 0) (.no) (.cst (.int 63))], .cst (.int 0), .cst (.int 0)])]⟩
def Li.draw : FnIR := ⟨6, 2, [0], [], false, [
  .ite (.cmp .gt (.idx (.var 0) (.cst (.int 2))) (.cst (.int 0))) [.asg 5 (.bin .mod (.idx (.var 0) (.cst (.int 2))) (.var 1)), .setI 0 (.cst (.int 2)) (.bin .fdiv (.idx (.var 0) (.cst (.int 2))) (.var 1)), .ret (.var 5)] [],
  .asg 2 (.idx (.var 0) (.cst (.int 1))),
  .setI 0 (.cst (.int 1)) (.bin .add (.var 2) (.cst (.int 1))),
  .asg 3 (.bin .add (.bin .mul (.cst (.int 60013)) (.var 2)) (.cst (.int 71))),
  .ite (.cmp .ne (.idx (.var 0) (.cst (.int 0))) (.lst [])) [.asg 3 (.idx (.idx (.var 0) (.cst (.int 0))) (.bin .mod (.var 2) (.bi .len [.idx (.var 0) (.cst (.int 0))])))] [],
  .ite (.an (.cmp .lt (.var 2) (.bi .len [.idx (.var 0) (.cst (.int 0))])) (.cmp .ge (.bi .abs [.var 3]) (.bin .pow (.cst (.int 10)) (.cst (.int 18))))) [.setI 0 (.cst (.int 2)) (.bin .fdiv (.bi .abs [.var 3]) (.var 1)), .ret (.bin .mod (.bi .abs [.var 3]) (.var 1))] [],
  .asg 4 (.bin .mod (.bin .pow (.bin .add (.bin .add (.bin .mod (.var 3) (.cst (.int 2147483549))) (.bin .mul (.cst (.int 50023)) (.var 2))) (.cst (.int 41))) (.cst (.int 5))) (.cst (.int 2147483579))),
  .asg 4 (.bin .mod (.bin .pow (.bin .add (.bin .mul (.var 4) (.bin .add (.bin .mul (.cst (.int 2)) (.var 2)) (.cst (.int 9)))) (.cst (.int 80021))) (.cst (.int 3))) (.cst (.int 2147483629))),
  .ret (.bin .mod (.bin .fdiv (.var 4) (.cst (.int 16))) (.var 1))]⟩
def Li.anyHouse : FnIR := ⟨8, 2, [0], [], false, [
  .asg 2 (.idx (.lst [.cst (.int 1), .cst (.int 2), .cst (.int 3), .cst (.int 4)]) (.call 0 [.var 0, .cst (.int 4)] [0])),
  .asg 3 (.lc (.bi .max [.cst (.int 2), .bin .mul (.var 2) (.bin .add (.cst (.int 1)) (.call 0 [.var 0, .bin .fdiv (.cst (.int 64)) (.var 2)] [0]))]) (.nm 6) (.rng .no (.bin .add (.cst (.int 1)) (.call 0 [.var 0, .var 1] [0]))) (.no) [6]),
  .asg 4 (.call 0 [.var 0, .cst (.int 2)] [0]),
  .asg 5 (.lc (.bin .add (.cst (.int 1)) (.bin .mul (.var 4) (.call 0 [.var 0, .bin .sub (.var 7) (.cst (.int 1))] [0]))) (.nm 7) (.var 3) (.no) [7]),
  .ret (.tup [.idx (.lst [.cst (.int 1), .cst (.int 1), .cst (.int 2), .cst (.int 3)]) (.call 0 [.var 0, .cst (.int 4)] [0]), .bi .tuple [.lz (.var 3) (.var 5)]])]⟩
def Li.stand : FnIR := ⟨5, 2, [0], [], false, [
  .asg 2 (.idx (.lst [.cst (.int 0), .bin .sub (.call 0 [.var 0, .cst (.int 1000)] [0]) (.cst (.int 500)), .bin .pow (.cst (.int 10)) (.cst (.int 39)), .bin .sub (.cst (.int 0)) (.bin .pow (.cst (.int 10)) (.cst (.int 39)))]) (.call 0 [.var 0, .cst (.int 4)] [0])),
  .asg 3 (.idx (.lst [.cst (.int 2), .cst (.int 8), .cst (.int 64), .bin .pow (.cst (.int 10)) (.cst (.int 6))]) (.call 0 [.var 0, .cst (.int 4)] [0])),
  .ret (.bi .tuple [.lc (.bin .add (.var 2) (.call 0 [.var 0, .var 3] [0])) (.nm 4) (.idx (.var 1) (.cst (.int 1))) (.no) [4]])]⟩
def Li.divisor : FnIR := ⟨2, 2, [], [], false, [
  .wh (.cmp .gt (.var 1) (.cst (.int 0))) [.par 0 1 (.var 1) (.bin .mod (.var 0) (.var 1))],
  .ret (.var 0)]⟩
def Li.nearStand : FnIR := ⟨6, 2, [0], [], false, [
  .asg 2 (.bi .list [.call 0 [.var 0, .var 1] [0]]),
  .asg 3 (.call 1 [.var 0, .bi .len [.var 2]] [0]),
  .fr (.nm 4) (.rng .no (.bi .len [.var 2])) [.asg 5 (.call 2 [.idx (.idx (.idx (.var 1) (.cst (.int 1))) (.var 3)) (.cst (.int 0)), .idx (.idx (.idx (.var 1) (.cst (.int 1))) (.var 4)) (.cst (.int 0))] []), .setI 2 (.var 4) (.bin .add (.bin .add (.idx (.var 2) (.var 3)) (.bin .mul (.var 5) (.bin .sub (.call 1 [.var 0, .cst (.int 7)] [0]) (.cst (.int 3))))) (.bi .int [.an (.cmp .ne (.var 4) (.var 3)) (.cmp .eq (.call 1 [.var 0, .cst (.int 5)] [0]) (.cst (.int 0)))]))],
  .ret (.bi .tuple [.var 2])]⟩
def Li.some_ : FnIR := ⟨3, 2, [0], [], false, [
  .ret (.bi .tuple [.lc (.var 2) (.nm 2) (.rng .no (.var 1)) (.cmp .eq (.call 0 [.var 0, .cst (.int 2)] [0]) (.cst (.int 0))) [2]])]⟩
def Li.common : FnIR := ⟨3, 3, [], [], false, [
  .ret (.call 0 [.idx (.idx (.idx (.var 0) (.cst (.int 1))) (.var 1)) (.cst (.int 0)), .idx (.idx (.idx (.var 0) (.cst (.int 1))) (.var 2)) (.cst (.int 0))] [])]⟩
def Li.alike : FnIR := ⟨4, 4, [], [], false, [
  .ret (.cmp .eq (.bin .mod (.bin .sub (.idx (.var 1) (.var 2)) (.idx (.var 1) (.var 3))) (.call 0 [.var 0, .var 2, .var 3] [])) (.cst (.int 0)))]⟩
def Li.unlike : FnIR := ⟨6, 3, [], [], false, [
  .fr (.tp [.nm 3, .nm 4]) (.enm (.var 2)) [.fr (.nm 5) (.slc (.var 2) (.bin .add (.var 3) (.cst (.int 1))) (.no)) [.ite (.nt (.call 0 [.var 0, .var 1, .var 4, .var 5] [])) [.ret (.tup [.var 4, .var 5])] []]],
  .ret (.cst .non)]⟩
def Li.wAlike : FnIR := ⟨4, 4, [], [], false, [
  .ret (.cmp .eq (.bin .mod (.bin .sub (.idx (.var 1) (.var 2)) (.idx (.var 1) (.var 3))) (.call 0 [.idx (.idx (.idx (.var 0) (.cst (.int 1))) (.var 2)) (.cst (.int 0)), .idx (.idx (.idx (.var 0) (.cst (.int 1))) (.var 3)) (.cst (.int 0))] [])) (.cst (.int 0)))]⟩

def penD (ns : List Int) (at_ left : Int) : D := .lst [.lst (ns.map .int), .int at_, .int left]
def Pen (p : D) (b : Nat) : Prop := ∃ (ns : List Int) (at_ left : Int), p = penD ns at_ left ∧ ns.length ≤ 63 ∧ 0 ≤ at_ ∧ at_ ≤ (b : Int) ∧ 0 ≤ left
theorem Pen.up {p : D} {b c : Nat} (h : Pen p b) (hc : b ≤ c) : Pen p c := by
  obtain ⟨ns, a, l, e, h1, h2, h3, h4⟩ := h
  exact ⟨ns, a, l, e, h1, h2, by omega, h4⟩
theorem Pen.isL {p : D} {b : Nat} (h : Pen p b) {r : List (Option D)} : isL (some p :: r) 0 = true := by
  obtain ⟨ns, a, l, rfl, _⟩ := h
  rfl
def DrawOk (F : Fn) : Prop := ∀ p b m, Pen p b → b < 2 ^ 30 → 0 < m → m < 2 ^ 64 → WR (F [p, .int m]) fun d o => ∃ r p', d = .int r ∧ o = [p'] ∧ Pen p' (b + 1) ∧ 0 ≤ r ∧ r < m
theorem DrawOk.use {F : Fn} (h : DrawOk F) {p : D} {b : Nat} {m : Int} {Q : D → List D → Prop} (P : Pen p b) (hb : b < 2 ^ 30) (hm : 0 < m) (hm2 : m < 2 ^ 64) (q : ∀ r p', Pen p' (b + 1) → 0 ≤ r → r < m → Q (.int r) [p']) : WR (F [p, .int m]) Q := by
  refine (h p b m P hb hm hm2).mono ?_
  rintro _ _ ⟨r, p', rfl, rfl, h1, h2, h3⟩
  exact q r p' h1 h2 h3
theorem ne_nil0 {l : List Int} : cmpD .ne (.lst (l.map .int)) (.lst []) = some (!decide (l = [])) := by
  have h : isPyL (l.map D.int) = true := by rw [isPyL_all]; simp [D.isPy]
  have h2 : ∀ k, fitL (k + 1) (l.map D.int) = true := fun k => by
    induction l with
    | nil => rfl
    | cons a r ih => simp only [List.map_cons, fitL, fit, Bool.true_and]; exact ih (by rw [isPyL_all]; simp [D.isPy])
  have e : (D.lst (l.map .int)).isPy = true := by simp only [D.isPy]; exact h
  have e2 : fit 60 (D.lst (l.map .int)) = true := by simp only [fit]; exact h2 58
  have e3 : eqD (.lst (l.map .int)) (.lst []) = if (D.lst (l.map .int)).isPy && (D.lst []).isPy && fit 60 (D.lst (l.map .int)) && fit 60 (D.lst []) then some (PyData.eqv (D.lst (l.map .int)).py (D.lst []).py) else none := rfl
  show (eqD _ _).map _ = _
  rw [e3, e, e2]
  have : (true && (D.lst []).isPy && true && fit 60 (D.lst [])) = true := rfl
  rw [this, if_pos rfl]
  cases l with
  | nil => rfl
  | cons a r => simp [D.py, pyL, PyData.eqv, PyData.eqvAll]
theorem mem_at {l : List D} {i : Int} (h : 0 ≤ i) (h2 : i < l.length) : ∃ x, atD l i = some x ∧ x ∈ l := by
  have hl : i.toNat < l.length := by omega
  exact ⟨l[i.toNat], by rw [atP h]; simp [hl], List.getElem_mem hl⟩
theorem draw_old {Φ : Fns} {p : D} {b : Nat} (h : Pen p b) (hb : b < 2 ^ 30) {m : Int} (hm : 0 < m) (hm2 : m < 2 ^ 64) :
    ∃ r p', (Li.draw.run Φ) [p, .int m] = .ok (.int r) [p'] ∧ Pen p' (b + 1) ∧ 0 ≤ r ∧ r < m := by
  obtain ⟨ns, at_, left, rfl, h1, h2, h3, h4⟩ := h
  have fin : ∀ (r : Int) (n : Env) (ns2 : List Int) (at2 left2 : Int), denB (Φ) Li.draw.body ([penD ns at_ left, .int m].map some ++ List.replicate 4 none) = .rt (.int r) n → getN n 0 = some (penD ns2 at2 left2) → ns2.length ≤ 63 → 0 ≤ at2 → at2 ≤ b + 1 → 0 ≤ left2 → 0 ≤ r → r < m →
      ∃ r p', (Li.draw.run Φ) [penD ns at_ left, .int m] = .ok (.int r) [p'] ∧ Pen p' (b + 1) ∧ 0 ≤ r ∧ r < m := fun r n ns2 at2 left2 e g q1 q2 q3 q4 q5 q6 => by
    refine ⟨r, penD ns2 at2 left2, ?_, ⟨ns2, at2, left2, rfl, q1, q2, by omega, q4⟩, q5, q6⟩
    have := run_rt (f := Li.draw) (Φ := Φ) rfl rfl e
    rw [this]
    show FRes.ok _ [(getN n 0).getD .non] = _
    rw [g]; rfl
  by_cases c1 : 0 < left
  · refine fin (left % m) [some (penD ns at_ (left / m)), some (.int m), none, none, none, some (.int (left % m))] ns at_ (left / m) ?_ rfl h1 h2 (by omega) (Int.ediv_nonneg h4 (by omega)) (Int.emod_nonneg _ (by omega)) (Int.emod_lt_of_pos _ hm)
    refine sp_ite true (by simp [penD, E.den, c1]) ?_
    refine sp_asg (d := .int (left % m)) (by simp [penD, E.den, b_mod hm]) ?_
    refine sp_set (d := .int (left / m)) (x := penD ns at_ left) (kx := .int 2) (z := penD ns at_ (left / m)) (by simp [penD, E.den, b_fdiv hm hm2]) rfl (by simp [E.den]) (by simp [penD]) ?_
    exact sp_ret (d := .int (left % m)) (by simp [E.den]) rfl
  have bn : (b : Int) < 2 ^ 30 := by omega
  -- the cell
  obtain ⟨cell, e3⟩ : ∃ cell : Int, ∀ fl n5, (∀ n, n = [some (penD ns (at_ + 1) left), some (.int m), some (.int at_), some (.int cell), none, none] → denB (Φ) (Li.draw.body.drop 5) n = fl) →
      n5 = [some (penD ns at_ left), some (.int m), none, none, none, none] → denB (Φ) Li.draw.body n5 = fl := by
    have pre : ∀ fl, denB (Φ) (Li.draw.body.drop 4) [some (penD ns (at_ + 1) left), some (.int m), some (.int at_), some (.int (60013 * at_ + 71)), none, none] = fl →
        denB (Φ) Li.draw.body [some (penD ns at_ left), some (.int m), none, none, none, none] = fl := fun fl q => by
      refine sp_ite false (by simp [penD, E.den, c1]) ?_
      refine sp_asg (d := .int at_) (by simp [penD, E.den]) ?_
      refine sp_set (d := .int (at_ + 1)) (x := penD ns at_ left) (kx := .int 1) (z := penD ns (at_ + 1) left) (by simp [E.den]) rfl (by simp [E.den]) (by simp [penD]) ?_
      refine sp_asg (d := .int (60013 * at_ + 71)) (by simp [E.den, b_mulL]) ?_
      exact q
    by_cases c2 : ns = []
    · refine ⟨60013 * at_ + 71, fun fl n5 q e => ?_⟩
      subst e
      refine pre fl ?_
      refine sp_ite false (by simp [penD, E.den, denL, c2]) ?_
      exact q _ rfl
    · have hpos : 0 < (ns.length : Int) := by
        have := List.length_pos_iff.mpr c2
        omega
      obtain ⟨x, hx, _⟩ := idx_at (l := ns) (Int.emod_nonneg at_ (by omega)) (Int.emod_lt_of_pos at_ hpos)
      refine ⟨x, fun fl n5 q e => ?_⟩
      subst e
      refine pre fl ?_
      refine sp_ite true (by simp [penD, E.den, denL, c2]) ?_
      refine sp_asg (d := .int x) (by simp [penD, E.den, denL, b_mod hpos, hx]) ?_
      exact q _ rfl
  obtain ⟨A, hA, habs⟩ : ∃ A : Int, biD .abs [.int cell] = some (.int A) ∧ 0 ≤ A := ⟨_, bi_abs, by split <;> omega⟩
  by_cases c4 : at_ < ns.length ∧ (1000000000000000000 : Int) ≤ A
  · refine fin (A % m) [some (penD ns (at_ + 1) (A / m)), some (.int m), some (.int at_), some (.int cell), none, none] ns (at_ + 1) (A / m) ?_ rfl h1 (by omega) (by omega) (Int.ediv_nonneg habs (by omega)) (Int.emod_nonneg _ (by omega)) (Int.emod_lt_of_pos _ hm)
    refine e3 _ _ (fun n e => ?_) rfl
    subst e
    refine sp_ite true (by simp [penD, E.den, denL, b_pow, hA, c4]) ?_
    refine sp_set (d := .int (A / m)) (x := penD ns (at_ + 1) left) (kx := .int 2) (z := penD ns (at_ + 1) (A / m)) (by simp [E.den, denL, hA, b_fdiv hm hm2]) rfl (by simp [E.den]) (by simp [penD]) ?_
    exact sp_ret (d := .int (A % m)) (by simp [E.den, denL, hA, b_mod hm]) rfl
  · have k1 : 0 ≤ cell % 2147483549 := Int.emod_nonneg _ (by omega)
    have k2 : cell % 2147483549 < 2147483549 := Int.emod_lt_of_pos _ (by omega)
    generalize hN : (cell % 2147483549 + 50023 * at_ + 41) ^ 5 % 2147483579 = N
    have n1 : 0 ≤ N := by rw [← hN]; exact Int.emod_nonneg _ (by omega)
    have n2 : N < 2147483579 := by rw [← hN]; exact Int.emod_lt_of_pos _ (by omega)
    have n3 : 0 ≤ N * (2 * at_ + 9) := Int.mul_nonneg n1 (by omega)
    have n4 : N * (2 * at_ + 9) ≤ 2147483579 * (2 * 2 ^ 30 + 9) := Int.mul_le_mul (by omega) (by omega) (by omega) (by omega)
    generalize hM : (N * (2 * at_ + 9) + 80021) ^ 3 % 2147483629 = M
    have m1 : 0 ≤ M := by rw [← hM]; exact Int.emod_nonneg _ (by omega)
    refine fin (M / 16 % m) [some (penD ns (at_ + 1) left), some (.int m), some (.int at_), some (.int cell), some (.int M), none] ns (at_ + 1) left ?_ rfl h1 (by omega) (by omega) h4 (Int.emod_nonneg _ (by omega)) (Int.emod_lt_of_pos _ hm)
    refine e3 _ _ (fun n e => ?_) rfl
    subst e
    refine sp_ite false ?_ ?_
    · by_cases c5 : at_ < ns.length
      · have c6 : ¬ (1000000000000000000 : Int) ≤ A := fun h => c4 ⟨c5, h⟩
        simp only [Int.not_le] at c6
        simp [penD, E.den, denL, b_pow, hA, c5, c6]
      · simp [penD, E.den, denL, b_pow, c5]
    refine sp_asg (d := .int N) ?_ ?_
    · have hb5 : (cell % 2147483549 + 50023 * at_ + 41).natAbs < 2 ^ 64 := by omega
      simp [E.den, b_mod, b_mulL, b_pow, hb5, hN]
    refine sp_asg (d := .int M) ?_ ?_
    · have hb6 : (2 * at_ + 9).natAbs < 2 ^ 64 := by omega
      have hb7 : (N * (2 * at_ + 9) + 80021).natAbs < 2 ^ 64 := by omega
      simp [E.den, b_mod, b_mulL, b_mulR, b_pow, hb6, hb7, hM]
    exact sp_ret (d := .int (M / 16 % m)) (by simp [E.den, b_mod hm, b_fdiv]) rfl
theorem draw_ok {Φ : Fns} : DrawOk (Li.draw.run Φ) := fun p b m P hb hm hm2 => by
  obtain ⟨r, p', e, h1, h2, h3⟩ := draw_old (Φ := Φ) P hb hm hm2
  exact .of e ⟨r, p', rfl, rfl, h1, h2, h3⟩
theorem Pen.mono {p : D} {b c : Nat} (h : Pen p b) (hc : b ≤ c) : Pen p c := by
  obtain ⟨ns, a, l, e, h1, h2, h3, h4⟩ := h
  exact ⟨ns, a, l, e, h1, h2, by omega, h4⟩
theorem Pen.isLst {p : D} {b : Nat} (h : Pen p b) : ∃ l, p = .lst l := by
  obtain ⟨ns, a, l, e, _⟩ := h
  exact ⟨_, e⟩
section
variable {Φ : Fns}
/-- a draw, called -/
theorem den_draw {f : Nat} (hΦ : DrawOk (Φ f)) {i : Nat} {e : E} {n : Env} {p : D} {b : Nat} {m : Int} (hp : getN n i = some p) (h : Pen p b) (hb : b < 2 ^ 30) (he : e.den Φ n = .ok (.int m) n) (hm : 0 < m) (hm2 : m < 2 ^ 64) :
    ∃ r p', (E.call f [.var i, e] [i]).den Φ n = .ok (.int r) (n.set i (some p')) ∧ Pen p' (b + 1) ∧ 0 ≤ r ∧ r < m := by
  obtain ⟨_, _, e1, r, p', rfl, rfl, h1, h2, h3⟩ := (hΦ p b m h hb hm hm2).ex
  refine ⟨r, p', ?_, h1, h2, h3⟩
  simp only [E.den, denL, hp, lift_some, ER.bind_ok, he, e1, List.length_cons, List.length_nil, if_true, setOuts]
theorem lc_den {elt it c : E} {tg : Tg} {own : List Nat} {n n1 n2 : Env} {x : D} {ds xs : List D} (h1 : it.den Φ n = .ok x n1) (h2 : seqD x = some ds)
    (h3 : lcGo (asgD tg) (fun m => cndR c (c.den Φ m) m) (fun m => elt.den Φ m) (fun m => wipeN m own) ds n1 = .ok xs n2) : (E.lc elt tg it c own).den Φ n = .ok (.lst xs) (mrg (c.wr ++ elt.wr) n1 n2) := by
  simp only [E.den, h1, ER.bind_ok, h2, lift_some, h3]
end
theorem lcGo_ind {asg : D → Env → Option Env} {cond : Env → ER Bool} {elt : Env → ER D} {wp : Env → Env} (P : D → D → Prop) : ∀ (ds : List D) (I : Nat → Env → Prop) (n : Env), I 0 n → ds.length ≤ big →
    (∀ i d n, ds[i]? = some d → I i n → ∃ n1 n2 x n3, asg d (wp n) = some n1 ∧ cond n1 = .ok true n2 ∧ elt n2 = .ok x n3 ∧ P d x ∧ I (i + 1) n3) →
    ∃ xs n', lcGo asg cond elt wp ds n = .ok xs n' ∧ I ds.length n' ∧ xs.length = ds.length ∧ ∀ (i : Nat) d x, ds[i]? = some d → xs[i]? = some x → P d x
  | [], I, n, h0, hl, h => ⟨[], n, rfl, h0, rfl, fun i d x e => by simp at e⟩
  | d :: r, I, n, h0, hl, h => by
    obtain ⟨n1, n2, x, n3, e1, e2, e3, px, i1⟩ := h 0 d n rfl h0
    simp only [List.length_cons] at hl
    obtain ⟨xs, n', e4, i2, l2, p2⟩ := lcGo_ind P r (fun i => I (i + 1)) n3 i1 (by omega) fun i d n hd hi => h (i + 1) d n (by simpa using hd) hi
    refine ⟨x :: xs, n', ?_, i2, by simp [l2], fun i d' x' hd hx => ?_⟩
    · simp only [lcGo, e1, e2, ER.bind_ok, if_true, e3, e4]
      rw [if_pos (by omega)]
    · cases i with
      | zero =>
        simp at hd hx
        subst hd hx
        exact px
      | succ i => exact p2 i d' x' (by simpa using hd) (by simpa using hx)
/-- with a test, nothing else changed -/
theorem lcGo_pure {asg : D → Env → Option Env} {cond : Env → ER Bool} {elt : Env → ER D} {wp : Env → Env} {w : Env} {b : D → Bool} {x : D → D} : ∀ (ds : List D) (n : Env), wp n = w → ds.length ≤ big →
    (∀ d ∈ ds, ∃ n1, asg d w = some n1 ∧ cond n1 = .ok (b d) n1 ∧ (b d = true → elt n1 = .ok (x d) n1) ∧ wp n1 = w) → ∃ n', lcGo asg cond elt wp ds n = .ok ((ds.filter b).map x) n'
  | [], n, hw, hl, h => ⟨n, rfl⟩
  | d :: r, n, hw, hl, h => by
    obtain ⟨n1, e1, e2, e3, e4⟩ := h d List.mem_cons_self
    simp only [List.length_cons] at hl
    obtain ⟨n', e5⟩ := lcGo_pure r n1 e4 (by omega) fun d hd => h d (List.mem_cons_of_mem _ hd)
    refine ⟨n', ?_⟩
    cases hb : b d with
    | false => simp only [lcGo, hw, e1, e2, ER.bind_ok, hb, Bool.false_eq_true, if_false, e5, List.filter_cons]
    | true =>
      have : ((r.filter b).map x).length < big := by
        rw [List.length_map]
        have := List.length_filter_le b r
        omega
      simp only [lcGo, hw, e1, e2, ER.bind_ok, hb, if_true, e3 hb, e5, this, List.filter_cons, List.map_cons]
theorem rng_ok {i j : Int} (h1 : i.natAbs < 2 ^ 60) (h2 : j.natAbs < 2 ^ 60) (h3 : (j - i).toNat ≤ big) : rngD (.int i) (.int j) = some ((List.range (j - i).toNat).map fun k : Nat => .int (i + (k : Int))) := by
  simp only [rngD]
  rw [if_pos ⟨h1, h2, h3⟩]
@[simp] theorem setc0 {α : Type} {x y : α} {r : List α} : (x :: r).set 0 y = y :: r := rfl
@[simp] theorem setcS {α : Type} {x y : α} {r : List α} {i : Nat} : (x :: r).set (i + 1) y = x :: r.set i y := rfl
theorem pen_ok {Φ : Fns} {ns : List Int} (h : ns.length ≤ 63) : ∃ p, (Li.pen.run Φ) [.scr (ns.map .int)] = .ok p [] ∧ Pen p 0 := by
  refine ⟨penD ns 0 0, ?_, ns, 0, 0, rfl, h, by omega, by omega, by omega⟩
  have key : denB (Φ) Li.pen.body [some (.scr (ns.map .int))] = .rt (penD ns 0 0) [some (.scr (ns.map .int))] := by
    refine sp_ret ?_ rfl
    have hc : slcD (.scr (ns.map .int)) .non (.int 63) = some (.lst (ns.map .int)) := by
      simp only [slcD, cutD, endD, Option.bind_some, Option.map_some]
      congr 2
      have : min (63 : Int).toNat (ns.map D.int).length - (0 : Int).toNat = ns.length := by simp; omega
      simp only [List.length_map] at this ⊢
      rw [if_pos (by decide)]
      rw [this]
      simp
      exact List.take_of_length_le (by simp)
    simp [E.den, denL, optR, hc, biD, listD, seqD, penD, big]
  exact run_rt (f := Li.pen) (Φ := Φ) rfl rfl key
theorem idx_mem {l : List D} {r : Int} (h0 : 0 ≤ r) (h1 : r < l.length) : ∃ x, x ∈ l ∧ idxD (.lst l) (.int r) = some x := by
  have hl : r.toNat < l.length := by omega
  exact ⟨l[r.toNat], List.getElem_mem hl, by simp [idxD, atD, h0, hl]⟩
def combD (c : Int × Int) : D := .tup [.int c.1, .int c.2]
def combOk (c : Int × Int) : Prop := 2 ≤ c.1 ∧ c.1 ≤ 64 ∧ 1 ≤ c.2 ∧ c.2 ≤ 64
def houseD (hands : Int) (cs : List (Int × Int)) : D := .tup [.int hands, .tup (cs.map combD)]
structure House (h : D) (most : Nat) : Prop where
  ex : ∃ hands cs, h = houseD hands cs ∧ 1 ≤ hands ∧ hands ≤ 3 ∧ 1 ≤ cs.length ∧ cs.length ≤ most ∧ ∀ c ∈ cs, combOk c
theorem zip_combs : ∀ {ps ss : List D} {as bs : List Int}, ps = as.map .int → ss = bs.map .int → zipD ps ss = (as.zip bs).map combD
  | _, _, [], bs, rfl, rfl => by cases bs <;> rfl
  | _, _, a :: as, [], rfl, rfl => rfl
  | _, _, a :: as, b :: bs, rfl, rfl => by
    simp only [List.map_cons, zipD, List.zip_cons_cons, zip_combs rfl rfl]
    rfl
theorem ints_of {xs : List D} {Q : Int → Prop} (h : ∀ x ∈ xs, ∃ i, x = .int i ∧ Q i) : ∃ is : List Int, xs = is.map .int ∧ ∀ i ∈ is, Q i := by
  induction xs with
  | nil => exact ⟨[], rfl, fun i hi => by simp at hi⟩
  | cons x r ih =>
    obtain ⟨is, e, q⟩ := ih fun y hy => h y (List.mem_cons_of_mem _ hy)
    obtain ⟨i, rfl, qi⟩ := h x List.mem_cons_self
    exact ⟨i :: is, by rw [e]; rfl, fun j hj => by
      rcases List.mem_cons.mp hj with e | e
      · rw [e]; exact qi
      · exact q j e⟩
theorem any_house_ok {Φ : Fns} (hΦ : DrawOk (Φ 0)) {p : D} {b : Nat} (h : Pen p b) (hb : b < 2 ^ 29) {most : Nat} (hm : 0 < most) (hm2 : most ≤ 1000) :
    ∃ hd p', (Li.anyHouse.run Φ) [p, .int most] = .ok hd [p'] ∧ Pen p' (b + (2 * most + 4)) ∧ House hd most := by
  -- base
  obtain ⟨r1, p1, e1, P1, a1, a2⟩ := den_draw hΦ (i := 0) (e := .cst (.int 4)) (n := [some p, some (.int most), none, none, none, none, none, none]) (m := 4) getN0 h (by omega) (by simp [E.den]) (by omega) (by omega)
  obtain ⟨x1, m1, e2⟩ := idx_mem (l := [.int 1, .int 2, .int 3, .int 4]) a1 (by simpa using a2)
  obtain ⟨base, rfl, b1, b2⟩ : ∃ base : Int, x1 = .int base ∧ 1 ≤ base ∧ base ≤ 4 := by
    simp only [List.mem_cons, List.not_mem_nil, or_false] at m1
    rcases m1 with rfl | rfl | rfl | rfl
    · exact ⟨1, rfl, by omega, by omega⟩
    · exact ⟨2, rfl, by omega, by omega⟩
    · exact ⟨3, rfl, by omega, by omega⟩
    · exact ⟨4, rfl, by omega, by omega⟩
  -- pitches
  obtain ⟨r2, p2, e3, P2, a3, a4⟩ := den_draw hΦ (i := 0) (e := .var 1) (n := [some p1, some (.int most), some (.int base), none, none, none, none, none]) (m := most) getN0 P1 (by omega) (by simp [E.den]) (by omega) (by omega)
  have hr2 : (1 + r2 - 0).toNat ≤ most := by omega
  obtain ⟨ps, n3, e4, ⟨p3, x3, en3, P3⟩, l3, q3⟩ := lcGo_ind (asg := asgD (.nm 6)) (cond := fun m => cndR .no (E.den (Φ) .no m) m) (elt := fun m => E.den (Φ) (.bi .max [.cst (.int 2), .bin .mul (.var 2) (.bin .add (.cst (.int 1)) (.call 0 [.var 0, .bin .fdiv (.cst (.int 64)) (.var 2)] [0]))]) m) (wp := fun m => wipeN m [6])
    (fun _ x => ∃ i, x = .int i ∧ 2 ≤ i ∧ i ≤ 64) ((List.range (1 + r2 - 0).toNat).map fun k : Nat => D.int (0 + (k : Int))) (fun i n => ∃ p3 x3, n = [some p3, some (.int most), some (.int base), none, none, none, x3, none] ∧ Pen p3 (b + 2 + i)) [some p2, some (.int most), some (.int base), none, none, none, none, none] ⟨p2, none, rfl, P2.mono (by omega)⟩ (by simp [big]; omega) (by
      rintro i d n hd ⟨p3, x3, rfl, P3⟩
      have hi : i < (1 + r2 - 0).toNat := by
        have := (List.getElem?_eq_some_iff.mp hd).1
        simpa using this
      have hf : 0 < 64 / base := Int.le_ediv_of_mul_le (by omega) (by omega)
      have hf2 : 64 / base ≤ 64 := Int.ediv_le_self _ (by omega)
      obtain ⟨r, p4, e5, P4, c1, c2⟩ := den_draw hΦ (i := 0) (e := .bin .fdiv (.cst (.int 64)) (.var 2)) (n := [some p3, some (.int most), some (.int base), none, none, none, some d, none]) (m := 64 / base) getN0 P3 (by omega) (by simp [E.den, b_fdiv (show 0 < base by omega) (show base < 2 ^ 64 by omega)]) hf (by omega)
      have hmul : base * (1 + r) ≤ 64 := by
        have h1 : base * (1 + r) ≤ base * (64 / base) := Int.mul_le_mul_of_nonneg_left (by omega) (by omega)
        have h2 := Int.mul_ediv_self_le (x := 64) (k := base) (by omega)
        omega
      have hmul0 : 0 ≤ base * (1 + r) := Int.mul_nonneg (by omega) (by omega)
      have hb3 : base.natAbs < 2 ^ 64 := by omega
      refine ⟨[some p3, some (.int most), some (.int base), none, none, none, some d, none], [some p3, some (.int most), some (.int base), none, none, none, some d, none], .int (if base * (1 + r) > 2 then base * (1 + r) else 2), [some p4, some (.int most), some (.int base), none, none, none, some d, none], rfl, rfl, ?_, ⟨_, rfl, by split <;> omega, by split <;> omega⟩, p4, some d, rfl, P4.mono (by omega)⟩
      exact den_bi2 den_cst (den_bin (den_var rfl) (den_bin den_cst e5 rfl) (b_mulL hb3)) rfl)
  subst en3
  obtain ⟨pi, rfl, hpi⟩ := ints_of (xs := ps) (Q := fun i => 2 ≤ i ∧ i ≤ 64) fun x hx => by
    obtain ⟨i, hi⟩ := List.mem_iff_getElem?.mp hx
    have hil : i < ps.length := (List.getElem?_eq_some_iff.mp hi).1
    rw [l3] at hil
    exact q3 i _ x (List.getElem?_eq_getElem hil) hi
  have e5 : (E.lc (.bi .max [.cst (.int 2), .bin .mul (.var 2) (.bin .add (.cst (.int 1)) (.call 0 [.var 0, .bin .fdiv (.cst (.int 64)) (.var 2)] [0]))]) (.nm 6) (.rng .no (.bin .add (.cst (.int 1)) (.call 0 [.var 0, .var 1] [0]))) (.no) [6]).den (Φ) [some p1, some (.int most), some (.int base), none, none, none, none, none] = .ok (.lst (pi.map .int)) [some p3, some (.int most), some (.int base), none, none, none, none, none] :=
    lc_den (n1 := [some p2, some (.int most), some (.int base), none, none, none, none, none]) (den_rng1 (den_bin den_cst e3 rfl) (rng_ok (by decide) (by omega) (by simp [big]; omega))) rfl e4
  -- plain
  obtain ⟨r4, p4, e6, P4, a5, a6⟩ := den_draw hΦ (i := 0) (e := .cst (.int 2)) (n := [some p3, some (.int most), some (.int base), some (.lst (pi.map .int)), none, none, none, none]) (m := 2) getN0 P3 (by simp only [List.length_map, List.length_range]; omega) den_cst (by omega) (by omega)
  have hpl : pi.length = (1 + r2 - 0).toNat := by simpa using l3
  -- strides
  obtain ⟨ss, n5, e7, ⟨p5, x5, en5, P5⟩, l5, q5⟩ := lcGo_ind (asg := asgD (.nm 7)) (cond := fun m => cndR .no (E.den (Φ) .no m) m) (elt := fun m => E.den (Φ) (.bin .add (.cst (.int 1)) (.bin .mul (.var 4) (.call 0 [.var 0, .bin .sub (.var 7) (.cst (.int 1))] [0]))) m) (wp := fun m => wipeN m [7])
    (fun _ x => ∃ i, x = .int i ∧ 1 ≤ i ∧ i ≤ 64) (pi.map .int) (fun i n => ∃ p5 x5, n = [some p5, some (.int most), some (.int base), some (.lst (pi.map .int)), some (.int r4), none, none, x5] ∧ Pen p5 (b + 3 + most + i)) [some p4, some (.int most), some (.int base), some (.lst (pi.map .int)), some (.int r4), none, none, none] ⟨p4, none, rfl, P4.mono (by simp only [List.length_map, List.length_range]; omega)⟩ (by simp [big]; omega) (by
      rintro i d n hd ⟨p5, x5, rfl, P5⟩
      have hi : i < pi.length := by
        have := (List.getElem?_eq_some_iff.mp hd).1
        simpa using this
      obtain ⟨v, hv, rfl⟩ : ∃ v, v ∈ pi ∧ d = .int v := by
        rw [List.getElem?_map, List.getElem?_eq_getElem hi] at hd
        cases hd
        exact ⟨_, List.getElem_mem hi, rfl⟩
      have hv2 := hpi v hv
      obtain ⟨r, p6, e8, P6, c1, c2⟩ := den_draw hΦ (i := 0) (e := .bin .sub (.var 7) (.cst (.int 1))) (n := [some p5, some (.int most), some (.int base), some (.lst (pi.map .int)), some (.int r4), none, none, some (.int v)]) (m := v - 1) getN0 P5 (by omega) (den_bin (den_var rfl) den_cst rfl) (by omega) (by omega)
      have hb3 : r4.natAbs < 2 ^ 64 := by omega
      have hr4 : r4 = 0 ∨ r4 = 1 := by omega
      have hmul : 0 ≤ r4 * r ∧ r4 * r ≤ r := by rcases hr4 with e | e <;> subst e <;> omega
      refine ⟨[some p5, some (.int most), some (.int base), some (.lst (pi.map .int)), some (.int r4), none, none, some (.int v)], [some p5, some (.int most), some (.int base), some (.lst (pi.map .int)), some (.int r4), none, none, some (.int v)], .int (1 + r4 * r), [some p6, some (.int most), some (.int base), some (.lst (pi.map .int)), some (.int r4), none, none, some (.int v)], rfl, rfl, ?_, ⟨_, rfl, by omega, by omega⟩, p6, some (.int v), rfl, P6.mono (by omega)⟩
      exact den_bin den_cst (den_bin (den_var rfl) e8 (b_mulL hb3)) rfl)
  subst en5
  obtain ⟨si, rfl, hsi⟩ := ints_of (xs := ss) (Q := fun i => 1 ≤ i ∧ i ≤ 64) fun x hx => by
    obtain ⟨i, hi⟩ := List.mem_iff_getElem?.mp hx
    have hil : i < ss.length := (List.getElem?_eq_some_iff.mp hi).1
    rw [l5] at hil
    exact q5 i _ x (List.getElem?_eq_getElem hil) hi
  have hsl : si.length = pi.length := by simpa using l5
  -- hands
  obtain ⟨r6, p7, e9, P7, a7, a8⟩ := den_draw hΦ (i := 0) (e := .cst (.int 4)) (n := [some p5, some (.int most), some (.int base), some (.lst (pi.map .int)), some (.int r4), some (.lst (si.map .int)), none, none]) (m := 4) getN0 P5 (by simp only [List.length_map]; omega) den_cst (by omega) (by omega)
  obtain ⟨x7, m7, e10⟩ := idx_mem (l := [.int 1, .int 1, .int 2, .int 3]) a7 (by simpa using a8)
  obtain ⟨hands, rfl, b7, b8⟩ : ∃ base : Int, x7 = .int base ∧ 1 ≤ base ∧ base ≤ 3 := by
    simp only [List.mem_cons, List.not_mem_nil, or_false] at m7
    rcases m7 with rfl | rfl | rfl | rfl
    · exact ⟨1, rfl, by omega, by omega⟩
    · exact ⟨1, rfl, by omega, by omega⟩
    · exact ⟨2, rfl, by omega, by omega⟩
    · exact ⟨3, rfl, by omega, by omega⟩
  refine ⟨houseD hands (pi.zip si), p7, ?_, P7.mono (by simp only [List.length_map]; omega), hands, pi.zip si, rfl, b7, b8, by rw [List.length_zip]; omega, by rw [List.length_zip]; omega, fun c hc => ?_⟩
  · have key : denB (Φ) Li.anyHouse.body [some p, some (.int most), none, none, none, none, none, none] = .rt (houseD hands (pi.zip si)) [some p7, some (.int most), some (.int base), some (.lst (pi.map .int)), some (.int r4), some (.lst (si.map .int)), none, none] := by
      refine st_asg (den_idx (den_lst (denL_cons2 den_cst (denL_cons2 den_cst (denL_cons2 den_cst (denL_cons2 den_cst denL_nil)))) (by simp [big])) e1 e2) ?_
      refine st_asg e5 ?_
      refine st_asg e6 ?_
      refine st_asg (lc_den (den_var rfl) rfl e7) ?_
      refine st_ret (den_tup (denL_cons2 (den_idx (den_lst (denL_cons2 den_cst (denL_cons2 den_cst (denL_cons2 den_cst (denL_cons2 den_cst denL_nil)))) (by simp [big])) e9 e10) (denL_cons2 (den_bi1 (den_lz (den_var rfl) (den_var rfl) rfl) rfl) denL_nil)) (by simp [big])) ?_
      simp only [houseD, seqD, Option.map_some, zip_combs rfl rfl]
      rfl
    have hl : isL ([p, D.int most].map some) 0 = true := by
      obtain ⟨l, rfl⟩ := h.isLst
      rfl
    have := run_rt (f := Li.anyHouse) (Φ := Φ) (ds := [p, .int most]) rfl (by simp only [Li.anyHouse, List.all_cons, List.all_nil, Bool.and_true]; exact hl) key
    exact this
  · obtain ⟨h1, h2⟩ := List.of_mem_zip (show (c.1, c.2) ∈ pi.zip si from hc)
    have q1 := hpi _ h1
    have q2 := hsi _ h2
    exact ⟨q1.1, q1.2, q2.1, q2.2⟩
theorem stand_ok {Φ : Fns} (hΦ : DrawOk (Φ 0)) {p : D} {b : Nat} (h : Pen p b) (hb : b < 2 ^ 29) {hands : Int} {cs : List (Int × Int)} (hm : cs.length ≤ 1000) :
    ∃ ss : List Int, ∃ p', (Li.stand.run Φ) [p, houseD hands cs] = .ok (.tup (ss.map .int)) [p'] ∧ Pen p' (b + (cs.length + 3)) ∧ ss.length = cs.length ∧ ∀ s ∈ ss, s.natAbs < 2 ^ 140 := by
  obtain ⟨r1, p1, e1, P1, a1, a2⟩ := den_draw hΦ (i := 0) (e := .cst (.int 1000)) (n := [some p, some (houseD hands cs), none, none, none]) (m := 1000) getN0 h (by omega) den_cst (by omega) (by omega)
  obtain ⟨r2, p2, e2, P2, a3, a4⟩ := den_draw hΦ (i := 0) (e := .cst (.int 4)) (n := [some p1, some (houseD hands cs), none, none, none]) (m := 4) getN0 P1 (by omega) den_cst (by omega) (by omega)
  obtain ⟨x1, m1, e3⟩ := idx_mem (l := [.int 0, .int (r1 - 500), .int (10 ^ 39), .int (0 - 10 ^ 39)]) a3 (by simpa using a4)
  obtain ⟨away, rfl, b1⟩ : ∃ base : Int, x1 = .int base ∧ base.natAbs ≤ 10 ^ 39 := by
    simp only [List.mem_cons, List.not_mem_nil, or_false] at m1
    rcases m1 with rfl | rfl | rfl | rfl
    · exact ⟨_, rfl, by omega⟩
    · exact ⟨_, rfl, by omega⟩
    · exact ⟨_, rfl, by omega⟩
    · exact ⟨_, rfl, by omega⟩
  obtain ⟨r4, p4, e4, P4, a5, a6⟩ := den_draw hΦ (i := 0) (e := .cst (.int 4)) (n := [some p2, some (houseD hands cs), some (.int away), none, none]) (m := 4) getN0 P2 (by omega) den_cst (by omega) (by omega)
  obtain ⟨x5, m5, e5⟩ := idx_mem (l := [.int 2, .int 8, .int 64, .int (10 ^ 6)]) a5 (by simpa using a6)
  obtain ⟨wide, rfl, b2, b3⟩ : ∃ base : Int, x5 = .int base ∧ 1 ≤ base ∧ base ≤ 1000000 := by
    simp only [List.mem_cons, List.not_mem_nil, or_false] at m5
    rcases m5 with rfl | rfl | rfl | rfl
    · exact ⟨_, rfl, by omega, by omega⟩
    · exact ⟨_, rfl, by omega, by omega⟩
    · exact ⟨_, rfl, by omega, by omega⟩
    · exact ⟨_, rfl, by omega, by omega⟩
  obtain ⟨ss, n3, e6, ⟨p3, x3, en3, P3⟩, l3, q3⟩ := lcGo_ind (asg := asgD (.nm 4)) (cond := fun m => cndR .no (E.den (Φ) .no m) m) (elt := fun m => E.den (Φ) (.bin .add (.var 2) (.call 0 [.var 0, .var 3] [0])) m) (wp := fun m => wipeN m [4])
    (fun _ x => ∃ i : Int, x = .int i ∧ i.natAbs < 2 ^ 140) (cs.map combD) (fun i n => ∃ p3 x3, n = [some p3, some (houseD hands cs), some (.int away), some (.int wide), x3] ∧ Pen p3 (b + 3 + i)) [some p4, some (houseD hands cs), some (.int away), some (.int wide), none] ⟨p4, none, rfl, P4.mono (by omega)⟩ (by simp [big]; omega) (by
      rintro i d n hd ⟨p3, x3, rfl, P3⟩
      have hi : i < cs.length := by
        have := (List.getElem?_eq_some_iff.mp hd).1
        simpa using this
      obtain ⟨r, p6, e8, P6, c1, c2⟩ := den_draw hΦ (i := 0) (e := .var 3) (n := [some p3, some (houseD hands cs), some (.int away), some (.int wide), some d]) (m := wide) getN0 P3 (by omega) (den_var rfl) (by omega) (by omega)
      refine ⟨[some p3, some (houseD hands cs), some (.int away), some (.int wide), some d], [some p3, some (houseD hands cs), some (.int away), some (.int wide), some d], .int (away + r), [some p6, some (houseD hands cs), some (.int away), some (.int wide), some d], rfl, rfl, ?_, ⟨_, rfl, by omega⟩, p6, some d, rfl, P6.mono (by omega)⟩
      exact den_bin (den_var rfl) e8 b_add)
  subst en3
  obtain ⟨si, rfl, hsi⟩ := ints_of (xs := ss) (Q := fun i => i.natAbs < 2 ^ 140) fun x hx => by
    obtain ⟨i, hi⟩ := List.mem_iff_getElem?.mp hx
    have hil : i < ss.length := (List.getElem?_eq_some_iff.mp hi).1
    rw [l3] at hil
    exact q3 i _ x (List.getElem?_eq_getElem hil) hi
  refine ⟨si, p3, ?_, P3.mono (by simp only [List.length_map]; omega), by simpa using l3, hsi⟩
  have key : denB (Φ) Li.stand.body [some p, some (houseD hands cs), none, none, none] = .rt (.tup (si.map .int)) [some p3, some (houseD hands cs), some (.int away), some (.int wide), none] := by
    refine st_asg (den_idx (den_lst (denL_cons2 den_cst (denL_cons2 (den_bin e1 den_cst b_sub) (denL_cons2 (den_bin den_cst den_cst (b_pow (by decide) (by decide) (by decide))) (denL_cons2 (den_bin den_cst (den_bin den_cst den_cst (b_pow (by decide) (by decide) (by decide))) b_sub) denL_nil)))) (by simp [big])) e2 e3) ?_
    refine st_asg (den_idx (den_lst (denL_cons2 den_cst (denL_cons2 den_cst (denL_cons2 den_cst (denL_cons2 (den_bin den_cst den_cst (b_pow (by decide) (by decide) (by decide))) denL_nil)))) (by simp [big])) e4 e5) ?_
    refine st_ret (den_bi1 (lc_den (n1 := [some p4, some (houseD hands cs), some (.int away), some (.int wide), none]) (den_idx (den_var rfl) den_cst idxt1) rfl e6) rfl) rfl
  have hl : isL ([p, houseD hands cs].map some) 0 = true := by
    obtain ⟨l, rfl⟩ := h.isLst
    rfl
  have := run_rt (f := Li.stand) (Φ := Φ) (ds := [p, houseD hands cs]) rfl (by simp only [Li.stand, List.all_cons, List.all_nil, Bool.and_true]; exact hl) key
  exact this
/-- a thing whose text is told -/
def Tame (k B : Nat) (d : D) : Prop := d.isPy = true ∧ smallI d = true ∧ fit k d = true ∧ cost d ≤ B
theorem tame_l {k B : Nat} : ∀ {l : List D}, (∀ x ∈ l, Tame k B x) → isPyL l = true ∧ smallL l = true ∧ fitL k l = true ∧ costL l ≤ l.length * (B + 2)
  | [], _ => ⟨rfl, rfl, by cases k <;> rfl, Nat.zero_le _⟩
  | d :: r, h => by
    obtain ⟨a1, a2, a3, a4⟩ := h d List.mem_cons_self
    obtain ⟨b1, b2, b3, b4⟩ := tame_l (l := r) fun x hx => h x (List.mem_cons_of_mem _ hx)
    have hm : (r.length + 1) * (B + 2) = r.length * (B + 2) + (B + 2) := Nat.succ_mul _ _
    refine ⟨by simp [isPyL, a1, b1], by simp [smallL, a2, b2], ?_, by simp only [costL, List.length_cons]; omega⟩
    simp [fitL, a3, b3]
theorem tame_lst {k B C : Nat} {l : List D} (h : ∀ x ∈ l, Tame k B x) (hc : l.length * (B + 2) + 3 ≤ C) : Tame (k + 1) C (.lst l) := by
  obtain ⟨b1, b2, b3, b4⟩ := tame_l h
  exact ⟨b1, b2, b3, by simp only [cost]; omega⟩
theorem tame_tup {k B C : Nat} {l : List D} (h : ∀ x ∈ l, Tame k B x) (hc : l.length * (B + 2) + 3 ≤ C) : Tame (k + 1) C (.tup l) := by
  obtain ⟨b1, b2, b3, b4⟩ := tame_l h
  exact ⟨b1, b2, b3, by simp only [cost]; omega⟩
theorem tame_int {k : Nat} {i : Int} (h : i.natAbs < 2 ^ 1900) : Tame (k + 1) 1925 (.int i) := ⟨rfl, by simp only [smallI]; exact decide_eq_true h, rfl, Nat.le_refl _⟩
theorem Tame.up {k B C : Nat} {d : D} (h : Tame k B d) (hc : B ≤ C) : Tame k C d := ⟨h.1, h.2.1, h.2.2.1, Nat.le_trans h.2.2.2 hc⟩
theorem tame_repr {B : Nat} {d : D} (h : Tame 60 B d) (hb : B ≤ big) : ∃ s, biD .repr [d] = some (.str s) := by
  obtain ⟨h1, h2, h3, h4⟩ := h
  refine ⟨PyData.shown d.py, ?_⟩
  show reprD d = _
  unfold reprD
  rw [if_pos (by simp [h1, h2, h3]; omega)]
theorem small64 {i : Int} (h : i.natAbs < 2 ^ 140) : i.natAbs < 2 ^ 1900 := Nat.lt_of_lt_of_le h (Nat.pow_le_pow_right (by decide) (by decide))
theorem tame_ints {k : Nat} {is : List Int} {m : Nat} (hl : is.length ≤ m) (h : ∀ i ∈ is, i.natAbs < 2 ^ 140) : Tame (k + 2) (m * 1927 + 3) (.lst (is.map .int)) ∧ Tame (k + 2) (m * 1927 + 3) (.tup (is.map .int)) := by
  have q : ∀ x ∈ is.map D.int, Tame (k + 1) 1925 x := fun x hx => by
    obtain ⟨i, hi, rfl⟩ := List.mem_map.mp hx
    exact tame_int (small64 (h i hi))
  have hm : is.length * 1927 ≤ m * 1927 := Nat.mul_le_mul_right _ hl
  exact ⟨tame_lst q (by simp only [List.length_map]; omega), tame_tup q (by simp only [List.length_map]; omega)⟩
theorem tame_house {k hands : Nat} {h : Int} {cs : List (Int × Int)} {m : Nat} (hl : cs.length ≤ m) (hh : h.natAbs ≤ 1000) (hc : ∀ c ∈ cs, combOk c) : Tame (k + 4) ((m * 3859 + 5) * 2 + 3 + 4000) (houseD h cs) := by
  have q : ∀ x ∈ cs.map combD, Tame (k + 2) 3857 x := fun x hx => by
    obtain ⟨c, hc1, rfl⟩ := List.mem_map.mp hx
    have := hc c hc1
    unfold combOk at this
    refine tame_tup (B := 1925) (fun y hy => ?_) (by simp)
    simp only [List.mem_cons, List.not_mem_nil, or_false] at hy
    rcases hy with rfl | rfl
    · exact tame_int (small64 (by omega))
    · exact tame_int (small64 (by omega))
  have hm : cs.length * 3859 ≤ m * 3859 := Nat.mul_le_mul_right _ hl
  have t1 : Tame (k + 3) (m * 3859 + 3 + 1925) (.tup (cs.map combD)) := tame_tup q (by simp only [List.length_map]; omega)
  refine tame_tup (B := m * 3859 + 3 + 1925) (fun y hy => ?_) (by simp only [List.length_cons, List.length_nil]; omega)
  simp only [List.mem_cons, List.not_mem_nil, or_false] at hy
  rcases hy with rfl | rfl
  · exact (tame_int (small64 (by omega))).up (by omega)
  · exact t1
end Sc
namespace Sc
open PySem PySem.Spec PyProof.Rows L2
theorem ws_for {Φ : Fns} {t : Tg} {b : List S} {ds : List D} {n : Env} {P : Post} (I : Nat → Env → Prop) (h0 : I 0 n)
    (hs : ∀ i d n, ds[i]? = some d → I i n → WL (asgD t d n) fun m => WS Φ b m { nx := I (i + 1), ct := I (i + 1), bk := P.nx, rt := P.rt }) (hd : ∀ n, I ds.length n → P.nx n) : WF (forGo (asgD t) (fun m => denB Φ b m) ds n) P := wf_for ds I n h0 hs hd
theorem ws_while {Φ : Fns} {c : E} {b : List S} {n : Env} {P : Post} (I : Env → Prop) (μ : Env → Nat) (h0 : I n) (hs : ∀ n, I n → WE (c.den Φ n) fun x m => ∃ t, x = .bl t ∧ if t = true then WS Φ b m { nx := fun k => I k ∧ μ k < μ n, ct := fun k => I k ∧ μ k < μ n, bk := P.nx, rt := P.rt } else P.nx m) :
    WF (whGo (fun m => toBl (c.den Φ m)) (fun m => denB Φ b m) n) P := wf_wh I μ (fun n hi => by rw [we_toBl]; exact hs n hi) n h0
theorem eq_of_wr {r : FRes} {x : D} (h : WR r fun d o => d = x ∧ o = []) : r = .ok x [] := by
  obtain ⟨d, o, e, rfl, rfl⟩ := h.ex
  exact e
theorem enm_at {l : List D} {i : Nat} {d : D} (h : (enmD 0 l)[i]? = some d) : ∃ x, l[i]? = some x ∧ d = .tup [.int (i : Int), x] := by
  have key : ∀ (l : List D) (k i : Nat) (d : D), (enmD k l)[i]? = some d → ∃ x, l[i]? = some x ∧ d = .tup [.int ((k + i : Nat) : Int), x] := by
    intro l
    induction l with
    | nil => intro k i d h; simp [enmD] at h
    | cons a r ih =>
      intro k i d h
      cases i with
      | zero => simp [enmD] at h; exact ⟨a, rfl, by rw [← h]; simp⟩
      | succ i =>
        simp only [enmD, List.getElem?_cons_succ] at h ⊢
        obtain ⟨x, h1, h2⟩ := ih (k + 1) i d h
        exact ⟨x, h1, by rw [h2, show k + (i + 1) = k + 1 + i by omega]⟩
  obtain ⟨x, h1, h2⟩ := key l 0 i d h
  exact ⟨x, h1, by rw [h2, Nat.zero_add]⟩
theorem enm_len {l : List D} {k : Nat} : (enmD k l).length = l.length := by
  induction l generalizing k with
  | nil => rfl
  | cons a r ih => simp [enmD, ih]
def nD (k : Nat) : D := .int (k : Int)
def stD (ss : List Int) : D := .tup (ss.map .int)
def rowD (l : List Nat) : D := .tup (l.map nD)
theorem hCs {h : Int} {cs : List (Int × Int)} : idxD (houseD h cs) (.int 1) = some (.tup (cs.map combD)) := rfl
theorem hHd {h : Int} {cs : List (Int × Int)} : idxD (houseD h cs) (.int 0) = some (.int h) := rfl
theorem cPit {c : Int × Int} : idxD (combD c) (.int 0) = some (.int c.1) := rfl
theorem cStr {c : Int × Int} : idxD (combD c) (.int 1) = some (.int c.2) := rfl
theorem getD_at {α : Type} {l : List α} {j : Nat} {a : α} (h : j < l.length) : l[j]? = some (l.getD j a) := by
  rw [List.getD_eq_getElem?_getD, List.getElem?_eq_getElem h]; rfl
theorem cAt {cs : List (Int × Int)} {j : Nat} (h : j < cs.length) : idxD (.tup (cs.map combD)) (.int (j : Int)) = some (combD (cs.getD j (2, 1))) := by
  rw [ixT, atN, List.getElem?_map, getD_at (a := (2, 1)) h]; rfl
theorem sAt {ss : List Int} {j : Nat} (h : j < ss.length) : idxD (stD ss) (.int (j : Int)) = some (.int (ss.getD j 0)) := by
  show atD _ _ = _
  rw [atN, List.getElem?_map, getD_at (a := 0) h]; rfl
def P (cs : List (Int × Int)) (j : Nat) : Int := (cs.getD j (2, 1)).1
def com (cs : List (Int × Int)) (j k : Nat) : Int := (Int.gcd (P cs j) (P cs k) : Nat)
def al (cs : List (Int × Int)) (ss : List Int) (j k : Nat) : Bool := decide ((ss.getD j 0 - ss.getD k 0) % com cs j k = 0)
def Cs' (cs : List (Int × Int)) : Prop := (∀ c ∈ cs, combOk c) ∧ cs.length ≤ 1000
theorem P_pos {cs : List (Int × Int)} (h : Cs' cs) (j : Nat) : 2 ≤ P cs j ∧ P cs j ≤ 64 := by
  unfold P
  by_cases hj : j < cs.length
  · have : cs.getD j (2, 1) = cs[j] := by simp [List.getD_eq_getElem?_getD, hj]
    rw [this]
    have := h.1 _ (List.getElem_mem hj)
    exact ⟨this.1, this.2.1⟩
  · rw [List.getD_eq_getElem?_getD, List.getElem?_eq_none (by omega)]; decide
theorem com_pos {cs : List (Int × Int)} (h : Cs' cs) (j k : Nat) : 0 < com cs j k := by
  unfold com
  have := (P_pos h j).1
  have : Int.gcd (P cs j) (P cs k) ≠ 0 := fun e => by rw [Int.gcd_eq_zero_iff] at e; omega
  omega
def DivOk (F : Fn) : Prop := ∀ a b : Int, 0 ≤ a → 0 ≤ b → F [.int a, .int b] = .ok (.int (Int.gcd a b : Nat)) []
theorem divisor_ok {Φ : Fns} : DivOk (Li.divisor.run Φ) := fun a b ha hb => by
  refine eq_of_wr (wr_run rfl rfl ?_)
  show WS Φ Li.divisor.body [some (.int a), some (.int b)] _
  unfold Li.divisor
  simp only [wpA, wpB, wpC, we_callr, reread, List.length_cons, List.length_nil, List.map_cons, List.map_nil, Option.bind_some, id, Nat.reduceAdd, Nat.reduceLT, if_true, if_pos, true_and, and_true, reduceIte, Bool.not_true, Bool.not_false, decide_true, decide_false, List.getElem?_cons_zero, List.getElem?_cons_succ, E.wr, wrL, List.append_nil, List.nil_append, List.singleton_append, List.cons_append]
  refine ws_while (fun n => ∃ x y : Int, n = [some (.int x), some (.int y)] ∧ 0 ≤ x ∧ 0 ≤ y ∧ Int.gcd x y = Int.gcd a b) (fun n => match n with | [_, some (.int y)] => y.toNat | _ => 0) ⟨a, b, rfl, ha, hb, rfl⟩ ?_
  rintro _ ⟨x, y, rfl, hx, hy, hg⟩
  simp only [wpA, wpB, wpC, we_callr, reread, List.length_cons, List.length_nil, List.map_cons, List.map_nil, Option.bind_some, id, Nat.reduceAdd, Nat.reduceLT, if_true, if_pos, true_and, and_true, reduceIte, Bool.not_true, Bool.not_false, decide_true, decide_false, List.getElem?_cons_zero, List.getElem?_cons_succ, E.wr, wrL, List.append_nil, List.nil_append, List.singleton_append, List.cons_append]
  by_cases h : 0 < y
  · simp only [h, decide_true, if_true, true_and]
    refine ⟨⟨y, x % y, rfl, hy, Int.emod_nonneg _ (by omega), ?_⟩, ?_⟩
    · rw [← hg, Int.gcd_comm x y, Int.emod_def, Int.gcd_sub_mul_left_right]
    · have := Int.emod_lt_of_pos x h
      have := Int.emod_nonneg x (show y ≠ 0 by omega)
      show (x % y).toNat < y.toNat
      omega
  · have : y = 0 := by omega
    subst this
    rw [Int.gcd_zero_right] at hg
    simp only [Int.lt_irrefl, decide_false, Bool.false_eq_true, if_false]
    rw [← hg]
    congr 1
    omega
def CommonOk (F : Fn) : Prop := ∀ h cs (j k : Nat), Cs' cs → j < cs.length → k < cs.length → F [houseD h cs, .int (j : Int), .int (k : Int)] = .ok (.int (com cs j k)) []
theorem common_ok {Φ : Fns} (h0 : DivOk (Φ 0)) : CommonOk (Li.common.run Φ) := fun h cs j k hc hj hk => by
  refine eq_of_wr (wr_run rfl rfl ?_)
  show WS Φ Li.common.body [some (houseD h cs), some (.int (j : Int)), some (.int (k : Int))] _
  unfold Li.common
  have h1 := (P_pos hc j).1
  have h2 := (P_pos hc k).1
  unfold P at h1 h2
  have e := h0 (cs.getD j (2, 1)).1 (cs.getD k (2, 1)).1 (by omega) (by omega)
  simp only [wpA, wpB, wpC, we_callr, reread, List.length_cons, List.length_nil, List.map_cons, List.map_nil, Option.bind_some, id, Nat.reduceAdd, Nat.reduceLT, if_true, if_pos, true_and, and_true, reduceIte, Bool.not_true, Bool.not_false, decide_true, decide_false, List.getElem?_cons_zero, List.getElem?_cons_succ, E.wr, wrL, List.append_nil, List.nil_append, List.singleton_append, List.cons_append, hCs, cAt hj, cAt hk, cPit, e]
  rfl
def AlikeOk (F : Fn) : Prop := ∀ h cs ss (j k : Nat), Cs' cs → ss.length = cs.length → j < cs.length → k < cs.length → F [houseD h cs, stD ss, .int (j : Int), .int (k : Int)] = .ok (.bl (al cs ss j k)) []
theorem alike_ok {Φ : Fns} (h0 : CommonOk (Φ 0)) : AlikeOk (Li.alike.run Φ) := fun h cs ss j k hc hl hj hk => by
  refine eq_of_wr (wr_run rfl rfl ?_)
  show WS Φ Li.alike.body [some (houseD h cs), some (stD ss), some (.int (j : Int)), some (.int (k : Int))] _
  unfold Li.alike
  simp only [wpA, wpB, wpC, we_callr, reread, List.length_cons, List.length_nil, List.map_cons, List.map_nil, Option.bind_some, id, Nat.reduceAdd, Nat.reduceLT, if_true, if_pos, true_and, and_true, reduceIte, Bool.not_true, Bool.not_false, decide_true, decide_false, List.getElem?_cons_zero, List.getElem?_cons_succ, E.wr, wrL, List.append_nil, List.nil_append, List.singleton_append, List.cons_append, sAt (show j < ss.length by omega), sAt (show k < ss.length by omega), h0 h cs j k hc hj hk]
  exact ⟨com_pos hc j k, rfl⟩
theorem wAlike_ok {Φ : Fns} (h0 : DivOk (Φ 0)) : AlikeOk (Li.wAlike.run Φ) := fun h cs ss j k hc hl hj hk => by
  refine eq_of_wr (wr_run rfl rfl ?_)
  show WS Φ Li.wAlike.body [some (houseD h cs), some (stD ss), some (.int (j : Int)), some (.int (k : Int))] _
  unfold Li.wAlike
  have h1 := (P_pos hc j).1
  have h2 := (P_pos hc k).1
  unfold P at h1 h2
  have e := h0 (cs.getD j (2, 1)).1 (cs.getD k (2, 1)).1 (by omega) (by omega)
  simp only [wpA, wpB, wpC, we_callr, reread, List.length_cons, List.length_nil, List.map_cons, List.map_nil, Option.bind_some, id, Nat.reduceAdd, Nat.reduceLT, if_true, if_pos, true_and, and_true, reduceIte, Bool.not_true, Bool.not_false, decide_true, decide_false, List.getElem?_cons_zero, List.getElem?_cons_succ, E.wr, wrL, List.append_nil, List.nil_append, List.singleton_append, List.cons_append, sAt (show j < ss.length by omega), sAt (show k < ss.length by omega), hCs, cAt hj, cAt hk, cPit, e]
  exact ⟨com_pos hc j k, rfl⟩
def unl (f : Nat → Nat → Bool) : List Nat → Option (Nat × Nat)
  | [] => none
  | j :: r => match r.find? (fun k => !f j k) with
    | some k => some (j, k)
    | none => unl f r
def unlD : Option (Nat × Nat) → D
  | none => .non
  | some (j, k) => .tup [nD j, nD k]
theorem row_at {l : List Nat} {i : Nat} {d : D} (h : (l.map nD)[i]? = some d) : ∃ j, l[i]? = some j ∧ d = .int (j : Int) := by
  rw [List.getElem?_map] at h
  obtain ⟨j, h1, h2⟩ := Option.map_eq_some_iff.mp h
  exact ⟨j, h1, h2.symm⟩
theorem cut_from {l : List D} {i : Nat} (h : i ≤ l.length) : slcD (.tup l) (.int ((i : Nat) : Int)) .non = some (.tup (l.drop i)) := by
  simp only [slcD, cutD, endD, Option.bind_some, Option.map_some]
  congr 2
  rw [if_pos (by omega)]
  have : min (i : Int).toNat l.length = i := by omega
  rw [this]
  exact List.take_of_length_le (by simp)
def UnlikeOk (F : Fn) : Prop := ∀ h cs ss (l : List Nat), Cs' cs → ss.length = cs.length → (∀ k ∈ l, k < cs.length) → F [houseD h cs, stD ss, rowD l] = .ok (unlD (unl (al cs ss) l)) []
theorem unlike_ok {Φ : Fns} (h0 : AlikeOk (Φ 0)) : UnlikeOk (Li.unlike.run Φ) := fun h cs ss l hc hl hk => by
  refine eq_of_wr (wr_run rfl rfl ?_)
  show WS Φ Li.unlike.body [some (houseD h cs), some (stD ss), some (rowD l), none, none, none] _
  unfold Li.unlike rowD
  simp only [wpA, wpB, wpC, we_callr, reread, List.length_cons, List.length_nil, List.map_cons, List.map_nil, Option.bind_some, id, Nat.reduceAdd, Nat.reduceLT, if_true, if_pos, true_and, and_true, reduceIte, Bool.not_true, Bool.not_false, decide_true, decide_false, List.getElem?_cons_zero, List.getElem?_cons_succ, E.wr, wrL, List.append_nil, List.nil_append, List.singleton_append, List.cons_append]
  refine ws_for (fun i n => (∃ a b c, n = [some (houseD h cs), some (stD ss), some (.tup (l.map nD)), a, b, c]) ∧ unl (al cs ss) (l.drop i) = unl (al cs ss) l) ⟨⟨_, _, _, rfl⟩, rfl⟩ ?_ ?_
  · rintro i d n hd ⟨⟨a, b, c, rfl⟩, hu⟩
    obtain ⟨x, hx, rfl⟩ := enm_at hd
    obtain ⟨j, hj, rfl⟩ := row_at hx
    have hil : i < l.length := (List.getElem?_eq_some_iff.mp hj).1
    have hjm : j < cs.length := hk j (List.mem_of_getElem? hj)
    have ed : l.drop i = j :: l.drop (i + 1) := by
      rw [List.drop_eq_getElem_cons hil]
      rw [List.getElem?_eq_getElem hil] at hj
      cases hj; rfl
    rw [ed] at hu
    simp only [wpA, wpB, wpC, we_callr, reread, List.length_cons, List.length_nil, List.map_cons, List.map_nil, Option.bind_some, id, Nat.reduceAdd, Nat.reduceLT, if_true, if_pos, true_and, and_true, reduceIte, Bool.not_true, Bool.not_false, decide_true, decide_false, List.getElem?_cons_zero, List.getElem?_cons_succ, E.wr, wrL, List.append_nil, List.nil_append, List.singleton_append, List.cons_append, we_opt (show (E.bin Bop.add (E.var 3) (E.cst (D.int 1))).isNo = false from rfl), show ((i : Int) + 1) = ((i + 1 : Nat) : Int) from rfl, cut_from (show i + 1 ≤ (l.map nD).length from by rw [List.length_map]; omega), ← List.map_drop]
    refine ws_for (fun q n => (∃ c, n = [some (houseD h cs), some (stD ss), some (.tup (l.map nD)), some (.int (i : Int)), some (.int (j : Int)), c]) ∧ (∀ k ∈ (l.drop (i + 1)).take q, al cs ss j k = true)) ⟨⟨_, rfl⟩, by simp⟩ ?_ ?_
    · rintro q d n hd ⟨⟨c, rfl⟩, ha⟩
      obtain ⟨k, hkq, rfl⟩ := row_at hd
      have hkm : k < cs.length := hk k (List.mem_of_mem_drop (List.mem_of_getElem? hkq))
      simp only [wpA, wpB, wpC, we_callr, reread, List.length_cons, List.length_nil, List.map_cons, List.map_nil, Option.bind_some, id, Nat.reduceAdd, Nat.reduceLT, if_true, if_pos, true_and, and_true, reduceIte, Bool.not_true, Bool.not_false, decide_true, decide_false, List.getElem?_cons_zero, List.getElem?_cons_succ, E.wr, wrL, List.append_nil, List.nil_append, List.singleton_append, List.cons_append, h0 h cs ss j k hc hl hjm hkm]
      cases hb : al cs ss j k with
      | false =>
        simp only [Bool.not_false, if_true]
        rw [← hu, unl]
        have hf : (l.drop (i + 1)).find? (fun k => !al cs ss j k) = some k := by
          rw [List.find?_eq_some_iff_getElem]
          obtain ⟨hq, e⟩ := List.getElem?_eq_some_iff.mp hkq
          refine ⟨by simp [hb], q, hq, e, fun m hm => ?_⟩
          have := ha ((l.drop (i + 1))[m]) (List.mem_take_iff_getElem.mpr ⟨m, by omega, rfl⟩)
          show (!(!al cs ss j (l.drop (i + 1))[m])) = true
          rw [this]; rfl
        rw [hf]
        exact ⟨by decide, rfl⟩
      | true =>
        simp only [Bool.not_true, Bool.false_eq_true, if_false]
        refine ⟨⟨_, rfl⟩, fun k' hk' => ?_⟩
        rw [List.take_succ, hkq] at hk'
        rcases List.mem_append.mp hk' with h | h
        · exact ha k' h
        · simp at h; rw [h]; exact hb
    · rintro n ⟨⟨c, rfl⟩, ha⟩
      refine ⟨⟨_, _, _, rfl⟩, ?_⟩
      rw [← hu, unl]
      have hf : (l.drop (i + 1)).find? (fun k => !al cs ss j k) = none := by
        rw [List.find?_eq_none]
        intro k hk
        have := ha k (by rw [List.length_map, List.take_length]; exact hk)
        simp [this]
      rw [hf]
  · rintro n ⟨⟨a, b, c, rfl⟩, hu⟩
    simp only [wpA, wpB, wpC, we_callr, reread, List.length_cons, List.length_nil, List.map_cons, List.map_nil, Option.bind_some, id, Nat.reduceAdd, Nat.reduceLT, if_true, if_pos, true_and, and_true, reduceIte, Bool.not_true, Bool.not_false, decide_true, decide_false, List.getElem?_cons_zero, List.getElem?_cons_succ, E.wr, wrL, List.append_nil, List.nil_append, List.singleton_append, List.cons_append]
    rw [enm_len, List.length_map, List.drop_length] at hu
    rw [← hu]
    rfl
end Sc
namespace Sc
open PySem PySem.Spec PyProof.Rows L2
def Sm (i : Int) : Prop := i.natAbs < 2 ^ 200
theorem Sm.of {i : Int} (h : i.natAbs < 2 ^ 140) : Sm i := Nat.lt_trans h (by decide)
theorem rising_append {l : List Nat} {k : Nat} (h : l.Pairwise (· < ·)) (q : ∀ j ∈ l, j < k) : (l ++ [k]).Pairwise (· < ·) := by
  rw [List.pairwise_append]
  refine ⟨h, List.pairwise_singleton _ _, fun a ha b hb => ?_⟩
  rw [List.mem_singleton.mp hb]
  exact q a ha
theorem rising_len {n : Nat} : ∀ {l : List Nat} {lo : Nat}, l.Pairwise (· < ·) → (∀ k ∈ l, lo ≤ k) → (∀ k ∈ l, k < n) → lo ≤ n → lo + l.length ≤ n
  | [], lo, _, _, _, h => by simpa using h
  | a :: r, lo, hp, h1, h2, _ => by
    rw [List.pairwise_cons] at hp
    have := h1 a List.mem_cons_self
    have := h2 a List.mem_cons_self
    have := rising_len (lo := a + 1) hp.2 (fun k hk => hp.1 k hk) (fun k hk => h2 k (List.mem_cons_of_mem _ hk)) (by omega)
    simp only [List.length_cons]
    omega
theorem rgN {n : Nat} (h : n ≤ 16777216) : rngD (.int 0) (.int (n : Int)) = some ((List.range n).map nD) := by
  rw [rng_ok (by decide) (by omega) (by unfold big; omega)]
  congr 1
  have : ((n : Int) - 0).toNat = n := by omega
  rw [this]
  exact List.map_congr_left fun k _ => by simp [nD]
def SomeOk (F : Fn) : Prop := ∀ p b (m : Nat), Pen p b → b < 2 ^ 29 → m ≤ 1000 → WR (F [p, .int (m : Int)]) fun d o => ∃ l p', d = rowD l ∧ o = [p'] ∧ Pen p' (b + m) ∧ l.Pairwise (· < ·) ∧ ∀ k ∈ l, k < m
theorem some_ok {Φ : Fns} (h0 : DrawOk (Φ 0)) : SomeOk (Li.some_.run Φ) := fun p b m hp hb hm => by
  refine wr_run rfl (by have := hp.isL (r := [some (.int (m : Int))]); simp [Li.some_, this]) ?_
  show WS Φ Li.some_.body [some p, some (.int (m : Int)), none] _
  unfold Li.some_
  simp only [wpA, wpB, wpC, we_callr, reread, List.length_cons, List.length_nil, List.map_cons, List.map_nil, Option.bind_some, id, Nat.reduceAdd, Nat.reduceLT, if_true, if_pos, true_and, and_true, reduceIte, Bool.not_true, Bool.not_false, decide_true, decide_false, List.getElem?_cons_zero, List.getElem?_cons_succ, E.wr, wrL, List.append_nil, List.nil_append, List.singleton_append, List.cons_append, rgN (show m ≤ 16777216 by omega)]
  refine wc_ind (fun i acc n => ∃ p' x l, n = [some p', some (.int (m : Int)), x] ∧ Pen p' (b + i) ∧ acc = l.map nD ∧ l.Pairwise (· < ·) ∧ ∀ k ∈ l, k < i) _ _ ⟨p, none, [], rfl, hp, rfl, List.Pairwise.nil, fun k hk => by simp at hk⟩ (by simp [big]; omega) ?_ ?_
  · rintro i d acc n hd ⟨p', x, l, rfl, P', rfl, h1, h2⟩
    obtain ⟨k, hk, rfl⟩ := row_at hd
    have hi : i < m := by have := (List.getElem?_eq_some_iff.mp hk).1; simpa using this
    have hk : k = i := by rw [List.getElem?_range hi] at hk; exact (Option.some.inj hk).symm
    subst hk
    simp only [wpA, wpB, wpC, we_callr, reread, List.length_cons, List.length_nil, List.map_cons, List.map_nil, Option.bind_some, id, Nat.reduceAdd, Nat.reduceLT, if_true, if_pos, true_and, and_true, reduceIte, Bool.not_true, Bool.not_false, decide_true, decide_false, List.getElem?_cons_zero, List.getElem?_cons_succ, E.wr, wrL, List.append_nil, List.nil_append, List.singleton_append, List.cons_append, wc_some (show (E.cmp Cop.eq (E.call 0 [E.var 0, E.cst (D.int 2)] [0]) (E.cst (D.int 0))).isNo = false from rfl)]
    refine h0.use P' (by omega) (by decide) (by decide) fun r q Q r0 r1 => ?_
    simp only [wpA, wpB, wpC, we_callr, reread, List.length_cons, List.length_nil, List.map_cons, List.map_nil, Option.bind_some, id, Nat.reduceAdd, Nat.reduceLT, if_true, if_pos, true_and, and_true, reduceIte, Bool.not_true, Bool.not_false, decide_true, decide_false, List.getElem?_cons_zero, List.getElem?_cons_succ, E.wr, wrL, List.append_nil, List.nil_append, List.singleton_append, List.cons_append]
    by_cases hr : r = 0
    · rw [if_pos (by simpa using hr)]
      exact ⟨q, _, l ++ [k], rfl, Q, by rw [List.map_append]; rfl, rising_append h1 h2, fun j hj => by
        rcases List.mem_append.mp hj with h | h
        · have := h2 j h; omega
        · simp at h; omega⟩
    · rw [if_neg (by simpa using hr)]
      exact ⟨q, _, l, rfl, Q, rfl, h1, fun j hj => by have := h2 j hj; omega⟩
  · rintro acc n ⟨p', x, l, rfl, P', rfl, h1, h2⟩
    simp only [wpA, wpB, wpC, we_callr, reread, List.length_cons, List.length_nil, List.map_cons, List.map_nil, Option.bind_some, id, Nat.reduceAdd, Nat.reduceLT, if_true, if_pos, true_and, and_true, reduceIte, Bool.not_true, Bool.not_false, decide_true, decide_false, List.getElem?_cons_zero, List.getElem?_cons_succ, E.wr, wrL, List.append_nil, List.nil_append, List.singleton_append, List.cons_append]
    simp only [List.length_map, List.length_range] at P' h2
    exact ⟨l, p', rfl, rfl, P', h1, h2⟩
theorem sd {l : List D} {i : Nat} {d : D} (h : i < l.length) : setD (.lst l) (.int (i : Int)) d = some (.lst (l.set i d)) := by
  simp only [setD]
  rw [if_pos ⟨by omega, by omega⟩]; rfl
def NearOk (F : Fn) : Prop := ∀ p b h cs, Pen p b → b < 2 ^ 28 → Cs' cs → 1 ≤ cs.length → WR (F [p, houseD h cs]) fun d o => ∃ ss p', d = stD ss ∧ o = [p'] ∧ Pen p' (b + (3 * cs.length + 4)) ∧ ss.length = cs.length ∧ ∀ s ∈ ss, Sm s
def StandOk (F : Fn) : Prop := ∀ p b h cs, Pen p b → b < 2 ^ 29 → cs.length ≤ 1000 → WR (F [p, houseD h cs]) fun d o => ∃ ss p', d = stD ss ∧ o = [p'] ∧ Pen p' (b + (cs.length + 3)) ∧ ss.length = cs.length ∧ ∀ s ∈ ss, s.natAbs < 2 ^ 140
theorem standW_ok {Φ : Fns} (h0 : DrawOk (Φ 0)) : StandOk (Li.stand.run Φ) := fun p b h cs hp hb hc => by
  obtain ⟨ss, p', e, h1, h2, h3⟩ := stand_ok h0 (hands := h) hp hb hc
  exact .of e ⟨ss, p', rfl, rfl, h1, h2, h3⟩
theorem lAt {ss : List Int} {j : Nat} (h : j < ss.length) : idxD (.lst (ss.map .int)) (.int (j : Int)) = some (.int (ss.getD j 0)) := by
  show atD _ _ = _
  rw [atN, List.getElem?_map, getD_at (a := 0) h]; rfl
theorem getD_all {Q : Int → Prop} {ss : List Int} (h : ∀ s ∈ ss, Q s) {j : Nat} (hj : j < ss.length) : Q (ss.getD j 0) := by
  have : ss.getD j 0 = ss[j] := by simp [List.getD_eq_getElem?_getD, hj]
  rw [this]; exact h _ (List.getElem_mem hj)
theorem near_ok {Φ : Fns} (h0 : StandOk (Φ 0)) (h1 : DrawOk (Φ 1)) (h2 : DivOk (Φ 2)) : NearOk (Li.nearStand.run Φ) := fun p b h cs hp hb hc hl => by
  refine wr_run rfl (by have := hp.isL (r := [some (houseD h cs)]); simp [Li.nearStand, this]) ?_
  show WS Φ Li.nearStand.body [some p, some (houseD h cs), none, none, none, none] _
  unfold Li.nearStand
  simp only [wpA, wpB, wpC, we_callr, reread, List.length_cons, List.length_nil, List.map_cons, List.map_nil, Option.bind_some, id, Nat.reduceAdd, Nat.reduceLT, if_true, if_pos, true_and, and_true, reduceIte, Bool.not_true, Bool.not_false, decide_true, decide_false, List.getElem?_cons_zero, List.getElem?_cons_succ, E.wr, wrL, List.append_nil, List.nil_append, List.singleton_append, List.cons_append]
  refine (h0 p b h cs hp (by omega) hc.2).mono ?_
  rintro _ _ ⟨ss, p1, rfl, rfl, P1, l1, s1⟩
  unfold stD
  simp only [wpA, wpB, wpC, we_callr, reread, List.length_cons, List.length_nil, List.map_cons, List.map_nil, Option.bind_some, id, Nat.reduceAdd, Nat.reduceLT, if_true, if_pos, true_and, and_true, reduceIte, Bool.not_true, Bool.not_false, decide_true, decide_false, List.getElem?_cons_zero, List.getElem?_cons_succ, E.wr, wrL, List.append_nil, List.nil_append, List.singleton_append, List.cons_append]
  refine h1.use P1 (by have := hc.2; omega) (by rw [List.length_map]; omega) (by rw [List.length_map]; have := hc.2; omega) fun at_ p2 P2 a0 a1 => ?_
  rw [List.length_map] at a1
  simp only [wpA, wpB, wpC, we_callr, reread, List.length_cons, List.length_nil, List.map_cons, List.map_nil, Option.bind_some, id, Nat.reduceAdd, Nat.reduceLT, if_true, if_pos, true_and, and_true, reduceIte, Bool.not_true, Bool.not_false, decide_true, decide_false, List.getElem?_cons_zero, List.getElem?_cons_succ, E.wr, wrL, List.append_nil, List.nil_append, List.singleton_append, List.cons_append]
  obtain ⟨at2, rfl⟩ : ∃ n : Nat, at_ = n := ⟨at_.toNat, by omega⟩
  have hat : at2 < cs.length := by omega
  simp only [wpA, wpB, wpC, we_callr, reread, List.length_cons, List.length_nil, List.map_cons, List.map_nil, Option.bind_some, id, Nat.reduceAdd, Nat.reduceLT, if_true, if_pos, true_and, and_true, reduceIte, Bool.not_true, Bool.not_false, decide_true, decide_false, List.getElem?_cons_zero, List.getElem?_cons_succ, E.wr, wrL, List.append_nil, List.nil_append, List.singleton_append, List.cons_append, rgN (show (ss.map D.int).length ≤ 16777216 by rw [List.length_map]; have := hc.2; omega)]
  refine ws_for (fun i n => ∃ q qs x5 x6, n = [some q, some (houseD h cs), some (.lst (qs.map .int)), some (.int (at2 : Int)), x5, x6] ∧ Pen q (b + (cs.length + 4) + 2 * i) ∧ qs.length = cs.length ∧ ∀ s ∈ qs, s.natAbs < 2 ^ 140 + i * 1000) ⟨_, ss, _, _, rfl, P2.up (by omega), l1, fun s hs => by have := s1 s hs; omega⟩ ?_ ?_
  · rintro i d n hd ⟨q, qs, x5, x6, rfl, Q, lq, sq⟩
    obtain ⟨k, hk, rfl⟩ := row_at hd
    have hi : i < cs.length := by have := (List.getElem?_eq_some_iff.mp hk).1; simp at this; omega
    have hk : k = i := by rw [List.getElem?_range (by simp; omega)] at hk; exact (Option.some.inj hk).symm
    subst hk
    have g1 := P_pos hc at2
    have g2 := P_pos hc k
    unfold P at g1 g2
    have e := h2 (cs.getD at2 (2, 1)).1 (cs.getD k (2, 1)).1 (by omega) (by omega)
    have hg : Int.gcd (cs.getD at2 (2, 1)).1 (cs.getD k (2, 1)).1 ≤ 64 := by
      have := Int.gcd_le_natAbs_left (a := (cs.getD at2 (2, 1)).1) (b := (cs.getD k (2, 1)).1) (by omega)
      omega
    generalize Int.gcd (cs.getD at2 (2, 1)).1 (cs.getD k (2, 1)).1 = g at e hg
    simp only [wpA, wpB, wpC, we_callr, reread, List.length_cons, List.length_nil, List.map_cons, List.map_nil, Option.bind_some, id, Nat.reduceAdd, Nat.reduceLT, if_true, if_pos, true_and, and_true, reduceIte, Bool.not_true, Bool.not_false, decide_true, decide_false, List.getElem?_cons_zero, List.getElem?_cons_succ, E.wr, wrL, List.append_nil, List.nil_append, List.singleton_append, List.cons_append, hCs, cAt hat, cAt hi, cPit, e, lAt (show at2 < qs.length by omega)]
    refine h1.use Q (by have := hc.2; omega) (by decide) (by decide) fun r p3 P3 r0 r1 => ?_
    simp only [wpA, wpB, wpC, we_callr, reread, List.length_cons, List.length_nil, List.map_cons, List.map_nil, Option.bind_some, id, Nat.reduceAdd, Nat.reduceLT, if_true, if_pos, true_and, and_true, reduceIte, Bool.not_true, Bool.not_false, decide_true, decide_false, List.getElem?_cons_zero, List.getElem?_cons_succ, E.wr, wrL, List.append_nil, List.nil_append, List.singleton_append, List.cons_append]
    have hm : (g : Int).natAbs < 2 ^ 64 := by omega
    refine ⟨mulL hm, ?_⟩
    have hs := getD_all sq (show at2 < qs.length by omega)
    have hmul : ((g : Int) * (r - 3)).natAbs ≤ 192 + 64 := by
      rw [Int.natAbs_mul]
      have h1 : (g : Int).natAbs ≤ 64 := by omega
      have h2 : (r - 3).natAbs ≤ 4 := by omega
      exact Nat.le_trans (Nat.mul_le_mul h1 h2) (by decide)
    have fin : ∀ (q' : D) (x : Int), 0 ≤ x → x ≤ 1 → Pen q' (b + (cs.length + 4) + 2 * (k + 1)) → ∃ (q_1 : D) (qs_1 : List Int) (x5 x6 : Option D), [some q', some (houseD h cs), some (D.lst ((qs.map D.int).set k (.int (qs.getD at2 0 + (g : Int) * (r - 3) + x)))), some (.int (at2 : Int)), some (.int (k : Int)), some (.int (g : Int))] = [some q_1, some (houseD h cs), some (D.lst (qs_1.map D.int)), some (.int (at2 : Int)), x5, x6] ∧ Pen q_1 (b + (cs.length + 4) + 2 * (k + 1)) ∧ qs_1.length = cs.length ∧ ∀ s ∈ qs_1, s.natAbs < 2 ^ 140 + (k + 1) * 1000 := fun q' x x0 x1 Q' => by
      refine ⟨q', qs.set k (qs.getD at2 0 + (g : Int) * (r - 3) + x), _, _, by rw [List.map_set], Q', by simp [lq], fun s hs2 => ?_⟩
      rcases List.mem_or_eq_of_mem_set hs2 with h | h
      · have := sq s h; omega
      · rw [h]; omega
    by_cases hka : (k : Int) = (at2 : Int)
    · simp only [hka, decide_true, Bool.not_true, Bool.false_eq_true, if_false]
      simp only [wpA, wpB, wpC, we_callr, reread, List.length_cons, List.length_nil, List.map_cons, List.map_nil, Option.bind_some, id, Nat.reduceAdd, Nat.reduceLT, if_true, if_pos, true_and, and_true, reduceIte, Bool.not_true, Bool.not_false, decide_true, decide_false, List.getElem?_cons_zero, List.getElem?_cons_succ, E.wr, wrL, List.append_nil, List.nil_append, List.singleton_append, List.cons_append, sd (show at2 < (qs.map D.int).length by rw [List.length_map]; omega)]
      have ek : k = at2 := by omega
      subst ek
      exact fin p3 0 (by decide) (by decide) (P3.up (by omega))
    · have : (!decide ((k : Int) = (at2 : Int))) = true := by simp [hka]
      rw [this]
      simp only [wpA, wpB, wpC, we_callr, reread, List.length_cons, List.length_nil, List.map_cons, List.map_nil, Option.bind_some, id, Nat.reduceAdd, Nat.reduceLT, if_true, if_pos, true_and, and_true, reduceIte, Bool.not_true, Bool.not_false, decide_true, decide_false, List.getElem?_cons_zero, List.getElem?_cons_succ, E.wr, wrL, List.append_nil, List.nil_append, List.singleton_append, List.cons_append]
      refine h1.use P3 (by have := hc.2; omega) (by decide) (by decide) fun r' p4 P4 _ _ => ?_
      simp only [wpA, wpB, wpC, we_callr, reread, List.length_cons, List.length_nil, List.map_cons, List.map_nil, Option.bind_some, id, Nat.reduceAdd, Nat.reduceLT, if_true, if_pos, true_and, and_true, reduceIte, Bool.not_true, Bool.not_false, decide_true, decide_false, List.getElem?_cons_zero, List.getElem?_cons_succ, E.wr, wrL, List.append_nil, List.nil_append, List.singleton_append, List.cons_append, sd (show k < (qs.map D.int).length by rw [List.length_map]; omega)]
      exact fin p4 _ (by split <;> omega) (by split <;> omega) (P4.up (by omega))
  · rintro n ⟨q, qs, x5, x6, rfl, Q, lq, sq⟩
    simp only [wpA, wpB, wpC, we_callr, reread, List.length_cons, List.length_nil, List.map_cons, List.map_nil, Option.bind_some, id, Nat.reduceAdd, Nat.reduceLT, if_true, if_pos, true_and, and_true, reduceIte, Bool.not_true, Bool.not_false, decide_true, decide_false, List.getElem?_cons_zero, List.getElem?_cons_succ, E.wr, wrL, List.append_nil, List.nil_append, List.singleton_append, List.cons_append]
    simp only [List.length_map, List.length_range] at Q sq
    refine ⟨qs, q, rfl, rfl, Q.up (by omega), lq, fun s hs => ?_⟩
    have := sq s hs
    have := hc.2
    have : 2 ^ 140 + ss.length * 1000 < 2 ^ 200 := by
      have : ss.length * 1000 ≤ 1000000 := by omega
      have : (2 : Nat) ^ 140 + 1000000 < 2 ^ 200 := by decide
      omega
    unfold Sm
    omega
theorem tame_sm {k : Nat} {i : Int} (h : Sm i) : Tame (k + 1) 1925 (.int i) := tame_int (Nat.lt_of_lt_of_le h (Nat.pow_le_pow_right (by decide) (by decide)))
theorem tame_row {k : Nat} {ss : List Int} {m : Nat} (hl : ss.length ≤ m) (h : ∀ i ∈ ss, Sm i) : Tame (k + 2) (m * 1927 + 3) (stD ss) := by
  have q : ∀ x ∈ ss.map D.int, Tame (k + 1) 1925 x := fun x hx => by
    obtain ⟨i, hi, rfl⟩ := List.mem_map.mp hx
    exact tame_sm (h i hi)
  have hm : ss.length * 1927 ≤ m * 1927 := Nat.mul_le_mul_right _ hl
  exact tame_tup q (by simp only [List.length_map]; omega)
theorem ne_nilN {l : List Nat} : cmpD .ne (.lst (l.map nD)) (.lst []) = some (!decide (l = [])) := by
  have : l.map nD = (l.map fun k : Nat => (k : Int)).map D.int := by rw [List.map_map]; rfl
  rw [this, ne_nil0]
  simp
theorem tame_unl {k : Nat} {o : Option (Nat × Nat)} (h : ∀ j q, o = some (j, q) → j < 1000 ∧ q < 1000) : Tame (k + 3) 5000 (unlD o) := by
  cases o with
  | none => exact ⟨rfl, rfl, rfl, by decide⟩
  | some p =>
    obtain ⟨j, q⟩ := p
    obtain ⟨h1, h2⟩ := h j q rfl
    refine tame_tup (B := 1925) (fun x hx => ?_) (by simp)
    simp only [List.mem_cons, List.not_mem_nil, or_false] at hx
    rcases hx with rfl | rfl
    · exact tame_int (small64 (by omega))
    · exact tame_int (small64 (by omega))
theorem unl_mem {f : Nat → Nat → Bool} : ∀ {l : List Nat} {j q : Nat}, unl f l = some (j, q) → j ∈ l ∧ q ∈ l
  | [], j, q, h => by cases h
  | a :: r, j, q, h => by
    rw [unl] at h
    split at h
    · rename_i k hk
      cases h
      exact ⟨List.mem_cons_self, List.mem_cons_of_mem _ (List.mem_of_find?_eq_some hk)⟩
    · obtain ⟨h1, h2⟩ := unl_mem h
      exact ⟨List.mem_cons_of_mem _ h1, List.mem_cons_of_mem _ h2⟩
def HouseOk (F : Fn) (most : Nat) : Prop := ∀ p b, Pen p b → b < 2 ^ 29 → WR (F [p, .int (most : Int)]) fun d o => ∃ h cs p', d = houseD h cs ∧ o = [p'] ∧ Pen p' (b + (2 * most + 4)) ∧ 1 ≤ h ∧ h ≤ 3 ∧ 1 ≤ cs.length ∧ cs.length ≤ most ∧ ∀ c ∈ cs, combOk c
theorem anyHouse_ok {Φ : Fns} (h0 : DrawOk (Φ 0)) {most : Nat} (hm : 0 < most) (hm2 : most ≤ 1000) : HouseOk (Li.anyHouse.run Φ) most := fun p b hp hb => by
  obtain ⟨hd, p', e, P', ⟨h, cs, rfl, q⟩⟩ := any_house_ok h0 hp hb hm hm2
  exact .of e ⟨h, cs, p', rfl, rfl, P', q.1, q.2.1, q.2.2.1, q.2.2.2.1, q.2.2.2.2⟩
def PenOk (F : Fn) : Prop := ∀ ns : List Int, ns.length ≤ 63 → WR (F [.scr (ns.map .int)]) fun d o => Pen d 0 ∧ o = []
theorem penW_ok {Φ : Fns} : PenOk (Li.pen.run Φ) := fun ns h => by
  obtain ⟨p, e, P'⟩ := pen_ok (Φ := Φ) h
  exact .of e ⟨P', rfl⟩
end Sc
namespace Sc
open PySem PySem.Spec PyProof.Rows L2
def Li.groups : FnIR := ⟨6, 2, [], [], false, [
  .asg 2 (.lst [.tup []]),
  .fr (.nm 3) (.rng .no (.var 1)) [.asg 2 (.lc2 (.bin .add (.var 4) (.tup [.var 5])) (.nm 4) (.var 2) (.nm 5) (.rng .no (.var 0)) (.or (.cmp .eq (.var 4) (.tup [])) (.cmp .gt (.var 5) (.idx (.var 4) (.neg (.cst (.int 1)))))) [4, 5] [5])],
  .ret (.var 2)]⟩
def Li.crowds : FnIR := ⟨4, 3, [], [], false, [
  .ex (.call 0 [.var 0, .var 2] []),
  .ret (.lc (.var 3) (.nm 3) (.call 1 [.var 2, .idx (.var 0) (.cst (.int 0))] []) (.cmp .is_ (.call 2 [.var 0, .var 1, .bin .add (.var 3) (.tup [.var 2])] []) (.cst .non)) [3])]⟩
def Li.crowded : FnIR := ⟨3, 2, [], [], true, [
  .ret (.lc (.var 2) (.nm 2) (.rng .no (.bi .len [.var 1])) (.cmp .ne (.call 0 [.var 0, .var 1, .var 2] []) (.lst [])) [2])]⟩
def Li.atRest : FnIR := ⟨2, 2, [], [], false, [
  .ret (.cmp .eq (.call 0 [.var 0, .var 1] []) (.lst []))]⟩
def Li.wGroups : FnIR := ⟨7, 2, [], [], false, [
  .asg 2 (.lst [.tup []]),
  .fr (.nm 3) (.rng .no (.var 1)) [.asg 4 (.lst []), .fr (.nm 5) (.var 2) [.ext 4 (.lc (.bin .add (.var 5) (.tup [.var 6])) (.nm 6) (.rng .no (.var 0)) (.or (.cmp .eq (.var 5) (.tup [])) (.cmp .gt (.var 6) (.idx (.var 5) (.neg (.cst (.int 1)))))) [6])], .fz [4], .asg 2 (.var 4)],
  .ret (.var 2)]⟩
def Li.wMeet : FnIR := ⟨6, 3, [], [], false, [
  .fr (.tp [.nm 3, .nm 4]) (.enm (.var 2)) [.fr (.nm 5) (.slc (.var 2) (.bin .add (.var 3) (.cst (.int 1))) (.no)) [.ite (.cmp .ne (.bin .mod (.bin .sub (.idx (.var 1) (.var 4)) (.idx (.var 1) (.var 5))) (.call 0 [.idx (.idx (.idx (.var 0) (.cst (.int 1))) (.var 4)) (.cst (.int 0)), .idx (.idx (.idx (.var 0) (.cst (.int 1))) (.var 5)) (.cst (.int 0))] [])) (.cst (.int 0))) [.ret (.cst (.bl false))] []]],
  .ret (.cst (.bl true))]⟩
def Li.checkNumber : FnIR := ⟨2, 2, [], [], false, [
  .ite (.nt (.call 0 [.var 1, .cst (.int 0), .bin .sub (.bi .len [.idx (.var 0) (.cst (.int 1))]) (.cst (.int 1))] [])) [.nvr] []]⟩
def Li.isBetween : FnIR := ⟨3, 3, [], [], false, [
  .ret (.an (.call 0 [.var 0] []) (.chn .le .le (.var 1) (.var 0) (.var 2)))]⟩
def Li.isWhole : FnIR := ⟨1, 1, [], [], false, [
  .ret (.an (.bi .isi [.var 0, .cst (.ty "int")]) (.nt (.bi .isi [.var 0, .cst (.ty "bool")])))]⟩
theorem wc2_ind {asg : D → Env → Option Env} {src : Env → ER (List D)} {asg1 : D → Env → Option Env} {cond : Env → ER Bool} {elt : Env → ER D} {wp wp1 : Env → Env} {R : List D → Env → Prop} (I : Nat → List D → Env → Prop) (ds : List D) (n : Env) (h0 : I 0 [] n)
    (hs : ∀ i d acc n, ds[i]? = some d → I i acc n → WL (asg d (wp n)) fun m => WE (src m) fun es m2 => WE (lcGo asg1 cond elt wp1 es m2) fun xs m3 => I (i + 1) (acc ++ xs) m3) (hb : ∀ acc n, I ds.length acc n → acc.length ≤ big) (hd : ∀ acc n, I ds.length acc n → R acc n) : WE (lc2Go asg src asg1 cond elt wp wp1 ds n) R := by
  have key : ∀ (ds : List D) (I : Nat → List D → Env → Prop) (acc : List D) (n : Env), I 0 acc n → (∀ i d acc n, ds[i]? = some d → I i acc n → WL (asg d (wp n)) fun m => WE (src m) fun es m2 => WE (lcGo asg1 cond elt wp1 es m2) fun xs m3 => I (i + 1) (acc ++ xs) m3) → (∀ acc n, I ds.length acc n → acc.length ≤ big) →
      WE (lc2Go asg src asg1 cond elt wp wp1 ds n) fun xs n => I ds.length (acc ++ xs) n := by
    intro ds
    induction ds with
    | nil => intro I acc n h0 _ _; simpa [lc2Go] using h0
    | cons d r ih =>
      intro I acc n h0 hs hb
      have h := hs 0 d acc n rfl h0
      rw [lc2Go]
      cases e : asg d (wp n) with
      | none => rw [e] at h; exact h.elim
      | some m =>
        rw [e] at h
        have h : WE (src m) _ := h
        dsimp only
        rw [we_bind]
        refine h.mono fun es m2 h => ?_
        rw [we_bind]
        refine h.mono fun xs m3 h => ?_
        rw [we_bind]
        refine (ih (fun i => I (i + 1)) (acc ++ xs) m3 h (fun i d acc n hd hi => hs (i + 1) d acc n (by simpa using hd) hi) hb).mono fun ys m4 q => ?_
        have := hb _ _ q
        simp only [List.length_append] at this
        rw [if_pos (by omega)]
        show I (r.length + 1) (acc ++ (xs ++ ys)) m4
        rw [← List.append_assoc]
        exact q
  exact (key ds I [] n h0 hs hb).mono fun xs k q => hd _ _ (by simpa using q)
theorem py_row {l : List Nat} : isPyL (l.map nD) = true := by rw [isPyL_all]; simp [nD, D.isPy]
theorem fit_row {l : List Nat} {k : Nat} : fitL (k + 1) (l.map nD) = true := by
  induction l with
  | nil => rfl
  | cons a r ih => simp only [List.map_cons, fitL, nD, fit, Bool.true_and]; exact ih
theorem py_rows {l : List (List Nat)} : isPyL (l.map rowD) = true := by rw [isPyL_all]; simp [rowD, D.isPy, py_row]
theorem fit_rows {l : List (List Nat)} {k : Nat} : fitL (k + 2) (l.map rowD) = true := by
  induction l with
  | nil => rfl
  | cons a r ih =>
    simp only [List.map_cons, fitL, rowD, fit, Bool.and_eq_true]
    exact ⟨fit_row, ih⟩
theorem eq_nilL {l : List D} (h : isPyL l = true) (h2 : fitL 59 l = true) : cmpD .eq (.lst l) (.lst []) = some (decide (l = [])) := by
  have e3 : eqD (.lst l) (.lst []) = if (D.lst l).isPy && (D.lst []).isPy && fit 60 (D.lst l) && fit 60 (D.lst []) then some (PyData.eqv (D.lst l).py (D.lst []).py) else none := rfl
  rw [show cmpD .eq (.lst l) (.lst []) = eqD (.lst l) (.lst []) from rfl]
  have e1 : (D.lst l).isPy = true := h
  have e2 : fit 60 (D.lst l) = true := by simp only [fit]; exact h2
  rw [e3, e1, e2]
  have : (true && (D.lst []).isPy && true && fit 60 (D.lst [])) = true := rfl
  rw [this, if_pos rfl]
  cases l with
  | nil => rfl
  | cons a r => simp [D.py, pyL, PyData.eqv, PyData.eqvAll]
theorem eq_nilT {l : List D} (h : isPyL l = true) (h2 : fitL 59 l = true) : cmpD .eq (.tup l) (.tup []) = some (decide (l = [])) := by
  have e3 : eqD (.tup l) (.tup []) = if (D.tup l).isPy && (D.tup []).isPy && fit 60 (D.tup l) && fit 60 (D.tup []) then some (PyData.eqv (D.tup l).py (D.tup []).py) else none := rfl
  rw [show cmpD .eq (.tup l) (.tup []) = eqD (.tup l) (.tup []) from rfl]
  have e1 : (D.tup l).isPy = true := h
  have e2 : fit 60 (D.tup l) = true := by simp only [fit]; exact h2
  rw [e3, e1, e2]
  have : (true && (D.tup []).isPy && true && fit 60 (D.tup [])) = true := rfl
  rw [this, if_pos rfl]
  cases l with
  | nil => rfl
  | cons a r => simp [D.py, pyL, PyData.eqv, PyData.eqvAll]
theorem ne_nilL {l : List D} (h : isPyL l = true) (h2 : fitL 59 l = true) : cmpD .ne (.lst l) (.lst []) = some (!decide (l = [])) := by
  have := eq_nilL h h2
  show (eqD _ _).map _ = _
  rw [show eqD (.lst l) (.lst []) = some (decide (l = [])) from this]; rfl
theorem rowEq {l : List Nat} : cmpD .eq (.tup (l.map nD)) (.tup []) = some (decide (l = [])) := by
  rw [eq_nilT py_row fit_row]; simp
theorem rowsNe {l : List (List Nat)} : cmpD .ne (.lst (l.map rowD)) (.lst []) = some (!decide (l = [])) := by
  rw [ne_nilL py_rows fit_rows]; simp
theorem rowsEq {l : List (List Nat)} : cmpD .eq (.lst (l.map rowD)) (.lst []) = some (decide (l = [])) := by
  rw [eq_nilL py_rows fit_rows]; simp
theorem eq_nilN {l : List Nat} : cmpD .eq (.lst (l.map nD)) (.lst []) = some (decide (l = [])) := by
  rw [eq_nilL py_row fit_row]; simp
/-! ### rising rows -/
def nxt (row : List Nat) (k : Nat) : Bool := decide (row = []) || decide (row.getLast?.getD 0 < k)
def ext (many : Nat) (row : List Nat) : List (List Nat) := ((List.range many).filter (nxt row)).map fun k => row ++ [k]
def grps (many : Nat) : Nat → List (List Nat)
  | 0 => [[]]
  | s + 1 => (grps many s).flatMap (ext many)
theorem ext_len {many : Nat} {row : List Nat} : (ext many row).length ≤ many := by
  unfold ext
  rw [List.length_map]
  have := List.length_filter_le (nxt row) (List.range many)
  simpa using this
theorem flat_len {α β : Type} {f : α → List β} {m : Nat} (h : ∀ a, (f a).length ≤ m) : ∀ l : List α, (l.flatMap f).length ≤ l.length * m
  | [] => by simp
  | a :: r => by
    rw [List.flatMap_cons, List.length_append, List.length_cons, Nat.succ_mul]
    have := h a
    have := flat_len h r
    omega
theorem grps_len {many : Nat} : ∀ s, (grps many s).length ≤ many ^ s
  | 0 => Nat.le_refl _
  | s + 1 => by
    rw [grps, Nat.pow_succ]
    exact Nat.le_trans (flat_len (fun _ => ext_len) _) (Nat.mul_le_mul_right _ (grps_len s))
theorem pow7 {m s : Nat} (hm : m ≤ 7) (hs : s ≤ 7) : m ^ s ≤ 823543 := Nat.le_trans (Nat.pow_le_pow_left hm s) (Nat.le_trans (Nat.pow_le_pow_right (by decide) hs) (by decide))
theorem mem_grps {many : Nat} : ∀ {s : Nat} {row : List Nat}, row ∈ grps many s ↔ row.length = s ∧ row.Pairwise (· < ·) ∧ ∀ k ∈ row, k < many
  | 0, row => by
    simp only [grps, List.mem_singleton]
    constructor
    · rintro rfl; exact ⟨rfl, List.Pairwise.nil, fun k hk => by simp at hk⟩
    · rintro ⟨h, _⟩; exact List.length_eq_zero_iff.mp h
  | s + 1, row => by
    simp only [grps, List.mem_flatMap, ext, List.mem_map, List.mem_filter, List.mem_range]
    constructor
    · rintro ⟨r, hr, k, ⟨hk, hn⟩, rfl⟩
      obtain ⟨h1, h2, h3⟩ := mem_grps.mp hr
      refine ⟨by simp [h1], rising_append h2 fun j hj => ?_, fun j hj => ?_⟩
      · simp only [nxt, Bool.or_eq_true, decide_eq_true_eq] at hn
        rcases hn with rfl | hn
        · simp at hj
        · have hne : r ≠ [] := fun e => by subst e; simp at hj
          rw [List.getLast?_eq_some_getLast hne] at hn
          obtain ⟨m, hm, rfl⟩ := List.mem_iff_getElem.mp hj
          rw [List.getLast_eq_getElem] at hn
          simp only [Option.getD_some] at hn
          by_cases e : m = r.length - 1
          · subst e; exact hn
          · have := List.pairwise_iff_getElem.mp h2 m (r.length - 1) hm (by omega) (by omega)
            omega
      · rcases List.mem_append.mp hj with h | h
        · exact h3 j h
        · simp at h; omega
    · rintro ⟨h1, h2, h3⟩
      have hne : row ≠ [] := fun e => by subst e; simp at h1
      refine ⟨row.dropLast, mem_grps.mpr ⟨by simp [h1], ?_, fun k hk => h3 k ((List.dropLast_sublist row).subset hk)⟩, row.getLast hne, ⟨h3 _ (List.getLast_mem hne), ?_⟩, List.dropLast_concat_getLast hne⟩
      · exact h2.sublist (List.dropLast_sublist row)
      · simp only [nxt, Bool.or_eq_true, decide_eq_true_eq]
        by_cases e : row.dropLast = []
        · exact .inl e
        · right
          rw [List.getLast?_eq_some_getLast e]
          simp only [Option.getD_some]
          rw [List.getLast_eq_getElem, List.getLast_eq_getElem, List.getElem_dropLast]
          have hl : row.dropLast.length ≠ 0 := fun q => e (List.length_eq_zero_iff.mp q)
          simp only [List.length_dropLast] at hl ⊢
          exact List.pairwise_iff_getElem.mp h2 _ _ (by omega) (by omega) (by omega)
theorem last_row {l : List Nat} (h : l ≠ []) : atD (l.map nD) (-1) = some (.int ((l.getLast?.getD 0 : Nat) : Int)) := by
  rw [atLast (by simpa using h), List.getLast?_map, List.getLast?_eq_some_getLast h]
  rfl
theorem rowEqD {l : List Nat} : cmpD .eq (rowD l) (.tup []) = some (decide (l = [])) := rowEq
theorem rowLast {l : List Nat} (h : l ≠ []) : idxD (rowD l) (.int (-1)) = some (.int ((l.getLast?.getD 0 : Nat) : Int)) := last_row h
theorem rowAdd {l : List Nat} {k : Nat} (h : l.length ≤ 1000) : binD .add (rowD l) (.tup [.int (k : Int)]) = some (rowD (l ++ [k])) := by
  unfold rowD
  rw [bTup, if_pos (by simp [big]; omega), List.map_append]
  rfl
theorem ext_step {row : List Nat} {k : Nat} {b : Bool} (hb : nxt row k = b) : ((((List.range (k + 1)).filter (nxt row)).map fun k => row ++ [k]).map rowD) = ((((List.range k).filter (nxt row)).map fun k => row ++ [k]).map rowD) ++ (if b = true then [rowD (row ++ [k])] else []) := by
  rw [List.range_succ, List.filter_append, List.map_append, List.map_append, List.filter_cons, hb]
  cases b <;> rfl
def GroupsOk (F : Fn) : Prop := ∀ many size : Nat, many ≤ 7 → size ≤ 7 → F [.int (many : Int), .int (size : Int)] = .ok (.lst ((grps many size).map rowD)) []
/-- the turns within, alike in both texts -/
theorem ext_in {Φ : Fns} {r k : Nat} {mk : Option D → Env} {many : Nat} {row : List Nat} (hm : many ≤ 7) (hr : row.length ≤ 1000) (h1 : ∀ x, wipeN (mk x) [k] = mk none) (h2 : ∀ x, (mk none).set k x = mk x) (h3 : ∀ x, getN (mk x) r = some (rowD row)) (h4 : ∀ x, getN (mk x) k = x) (h5 : k < (mk none).length) {R : List D → Env → Prop} (hd : ∀ x, R ((ext many row).map rowD) (mk x)) (x : Option D) :
    WE (lcGo (asgD (.nm k)) (fun m => cndR (.or (.cmp .eq (.var r) (.tup [])) (.cmp .gt (.var k) (.idx (.var r) (.neg (.cst (.int 1)))))) ((E.or (.cmp .eq (.var r) (.tup [])) (.cmp .gt (.var k) (.idx (.var r) (.neg (.cst (.int 1)))))).den Φ m) m) (fun m => (E.bin .add (.var r) (.tup [.var k])).den Φ m) (fun m => wipeN m [k]) ((List.range many).map nD) (mk x)) R := by
  refine wc_ind (fun i acc n => ∃ x, n = mk x ∧ acc = (((List.range i).filter (nxt row)).map fun k => row ++ [k]).map rowD) _ _ ⟨_, rfl, rfl⟩ (by simp [big]; omega) ?_ ?_
  · rintro i d acc n hd ⟨x, rfl, rfl⟩
    obtain ⟨k', hk, rfl⟩ := row_at hd
    have hi : i < many := by have := (List.getElem?_eq_some_iff.mp hk).1; simpa using this
    have hk : k' = i := by rw [List.getElem?_range hi] at hk; exact (Option.some.inj hk).symm
    subst hk
    rw [h1, asN, if_pos h5, h2]
    simp only [wpA, wpB, wpC, we_callr, reread, List.length_cons, List.length_nil, List.map_cons, List.map_nil, Option.bind_some, id, Nat.reduceAdd, Nat.reduceLT, if_true, if_pos, true_and, and_true, reduceIte, Bool.not_true, Bool.not_false, decide_true, decide_false, List.getElem?_cons_zero, List.getElem?_cons_succ, E.wr, wrL, List.append_nil, List.nil_append, List.singleton_append, List.cons_append, h3, h4, rowEqD, wc_some (show (E.or (.cmp .eq (.var r) (.tup [])) (.cmp .gt (.var k) (.idx (.var r) (.neg (.cst (.int 1)))))).isNo = false from rfl)]
    refine ⟨by decide, ?_⟩
    by_cases he : row = []
    · have hn : nxt row k' = true := by simp [nxt, he]
      rw [if_pos (by simpa using he)]
      simp only [wpA, wpB, wpC, we_callr, reread, List.length_cons, List.length_nil, List.map_cons, List.map_nil, Option.bind_some, id, Nat.reduceAdd, Nat.reduceLT, if_true, if_pos, true_and, and_true, reduceIte, Bool.not_true, Bool.not_false, decide_true, decide_false, List.getElem?_cons_zero, List.getElem?_cons_succ, E.wr, wrL, List.append_nil, List.nil_append, List.singleton_append, List.cons_append, h3, h4, rowAdd hr]
      refine ⟨by decide, _, rfl, ?_⟩
      rw [ext_step hn, if_pos rfl]
    · rw [if_neg (by simpa using he)]
      simp only [wpA, wpB, wpC, we_callr, reread, List.length_cons, List.length_nil, List.map_cons, List.map_nil, Option.bind_some, id, Nat.reduceAdd, Nat.reduceLT, if_true, if_pos, true_and, and_true, reduceIte, Bool.not_true, Bool.not_false, decide_true, decide_false, List.getElem?_cons_zero, List.getElem?_cons_succ, E.wr, wrL, List.append_nil, List.nil_append, List.singleton_append, List.cons_append, rowLast he, rowAdd hr, h3, h4]
      by_cases hlt : ((row.getLast?.getD 0 : Nat) : Int) < (k' : Int)
      · have hn : nxt row k' = true := by simp [nxt]; right; omega
        rw [if_pos (by simpa using hlt)]
        refine ⟨by decide, _, rfl, ?_⟩
        rw [ext_step hn, if_pos rfl]
      · have hn : nxt row k' = false := by simp [nxt, he]; omega
        rw [if_neg (by simpa using hlt)]
        refine ⟨_, rfl, ?_⟩
        rw [ext_step hn, if_neg Bool.false_ne_true, List.append_nil]
  · rintro acc n ⟨x, rfl, rfl⟩
    rw [List.length_map, List.length_range]
    exact hd x
theorem grps_small {many s : Nat} (hm : many ≤ 7) (hs : s ≤ 7) : (grps many s).length ≤ 823543 := Nat.le_trans (grps_len s) (pow7 hm hs)
theorem groups_ok {Φ : Fns} : GroupsOk (Li.groups.run Φ) := fun many size hm hs => by
  refine eq_of_wr (wr_run rfl rfl ?_)
  show WS Φ Li.groups.body [some (.int (many : Int)), some (.int (size : Int)), none, none, none, none] _
  unfold Li.groups
  simp only [wpA, wpB, wpC, we_callr, reread, List.length_cons, List.length_nil, List.map_cons, List.map_nil, Option.bind_some, id, Nat.reduceAdd, Nat.reduceLT, if_true, if_pos, true_and, and_true, reduceIte, Bool.not_true, Bool.not_false, decide_true, decide_false, List.getElem?_cons_zero, List.getElem?_cons_succ, E.wr, wrL, List.append_nil, List.nil_append, List.singleton_append, List.cons_append, rgN (show size ≤ 16777216 by omega)]
  refine ⟨by decide, by decide, ?_⟩
  refine ws_for (fun i n => ∃ x3 x4 x5, n = [some (.int (many : Int)), some (.int (size : Int)), some (.lst ((grps many i).map rowD)), x3, x4, x5]) ⟨_, _, _, rfl⟩ ?_ ?_
  · rintro i d n hd ⟨x3, x4, x5, rfl⟩
    have hi : i < size := by have := (List.getElem?_eq_some_iff.mp hd).1; simpa using this
    simp only [wpA, wpB, wpC, we_callr, reread, List.length_cons, List.length_nil, List.map_cons, List.map_nil, Option.bind_some, id, Nat.reduceAdd, Nat.reduceLT, if_true, if_pos, true_and, and_true, reduceIte, Bool.not_true, Bool.not_false, decide_true, decide_false, List.getElem?_cons_zero, List.getElem?_cons_succ, E.wr, wrL, List.append_nil, List.nil_append, List.singleton_append, List.cons_append]
    refine wc2_ind (fun j acc n => ∃ x4 x5, n = [some (.int (many : Int)), some (.int (size : Int)), some (.lst ((grps many i).map rowD)), some d, x4, x5] ∧ acc = (((grps many i).take j).flatMap (ext many)).map rowD) _ _ ⟨_, _, rfl, rfl⟩ ?_ ?_ ?_
    · rintro j d2 acc n hd2 ⟨x4, x5, rfl, rfl⟩
      rw [List.getElem?_map] at hd2
      obtain ⟨row, hrow, rfl⟩ := Option.map_eq_some_iff.mp hd2
      have hlen : row.length ≤ 1000 := by
        have := (mem_grps.mp (List.mem_of_getElem? hrow)).1
        omega
      simp only [wpA, wpB, wpC, we_callr, reread, List.length_cons, List.length_nil, List.map_cons, List.map_nil, Option.bind_some, id, Nat.reduceAdd, Nat.reduceLT, if_true, if_pos, true_and, and_true, reduceIte, Bool.not_true, Bool.not_false, decide_true, decide_false, List.getElem?_cons_zero, List.getElem?_cons_succ, E.wr, wrL, List.append_nil, List.nil_append, List.singleton_append, List.cons_append, rgN (show many ≤ 16777216 by omega)]
      refine ext_in (r := 4) (k := 5) (mk := fun x => [some (.int (many : Int)), some (.int (size : Int)), some (.lst ((grps many i).map rowD)), some d, some (rowD row), x]) hm hlen (fun _ => rfl) (fun _ => rfl) (fun _ => rfl) (fun _ => rfl) (by decide : 5 < 6) (fun x => ⟨_, _, rfl, ?_⟩) none
      rw [List.take_succ, hrow, Option.toList_some, List.flatMap_append, List.map_append, List.flatMap_singleton]
    · rintro acc n ⟨x4, x5, rfl, rfl⟩
      rw [List.length_map]
      have h1 : (((grps many i).take ((grps many i).map rowD).length).flatMap (ext many)).length ≤ ((grps many i).take ((grps many i).map rowD).length).length * many := flat_len (fun _ => ext_len) _
      have h2 : ((grps many i).take ((grps many i).map rowD).length).length ≤ 823543 := by
        rw [List.length_take]
        have := grps_small hm (show i ≤ 7 by omega)
        omega
      have h3 : ((grps many i).take ((grps many i).map rowD).length).length * many ≤ 823543 * 7 := Nat.mul_le_mul h2 hm
      have : 823543 * 7 ≤ big := by decide
      omega
    · rintro acc n ⟨x4, x5, rfl, rfl⟩
      rw [List.length_map, List.take_length]
      exact ⟨_, _, _, rfl⟩
  · rintro n ⟨x3, x4, x5, rfl⟩
    simp only [wpA, wpB, wpC, we_callr, reread, List.length_cons, List.length_nil, List.map_cons, List.map_nil, Option.bind_some, id, Nat.reduceAdd, Nat.reduceLT, if_true, if_pos, true_and, and_true, reduceIte, Bool.not_true, Bool.not_false, decide_true, decide_false, List.getElem?_cons_zero, List.getElem?_cons_succ, E.wr, wrL, List.append_nil, List.nil_append, List.singleton_append, List.cons_append]
    rw [List.length_map, List.length_range]
end Sc
namespace Sc
open PySem PySem.Spec PyProof.Rows L2
theorem wGroups_ok {Φ : Fns} : GroupsOk (Li.wGroups.run Φ) := fun many size hm hs => by
  refine eq_of_wr (wr_run rfl rfl ?_)
  show WS Φ Li.wGroups.body [some (.int (many : Int)), some (.int (size : Int)), none, none, none, none, none] _
  unfold Li.wGroups
  simp only [wpA, wpB, wpC, we_callr, reread, List.length_cons, List.length_nil, List.map_cons, List.map_nil, Option.bind_some, id, Nat.reduceAdd, Nat.reduceLT, if_true, if_pos, true_and, and_true, reduceIte, Bool.not_true, Bool.not_false, decide_true, decide_false, List.getElem?_cons_zero, List.getElem?_cons_succ, E.wr, wrL, List.append_nil, List.nil_append, List.singleton_append, List.cons_append, rgN (show size ≤ 16777216 by omega)]
  refine ⟨by decide, by decide, ?_⟩
  refine ws_for (fun i n => ∃ x3 x4 x5 x6, n = [some (.int (many : Int)), some (.int (size : Int)), some (.lst ((grps many i).map rowD)), x3, x4, x5, x6]) ⟨_, _, _, _, rfl⟩ ?_ ?_
  · rintro i d n hd ⟨x3, x4, x5, x6, rfl⟩
    have hi : i < size := by have := (List.getElem?_eq_some_iff.mp hd).1; simpa using this
    simp only [wpA, wpB, wpC, we_callr, reread, List.length_cons, List.length_nil, List.map_cons, List.map_nil, Option.bind_some, id, Nat.reduceAdd, Nat.reduceLT, if_true, if_pos, true_and, and_true, reduceIte, Bool.not_true, Bool.not_false, decide_true, decide_false, List.getElem?_cons_zero, List.getElem?_cons_succ, E.wr, wrL, List.append_nil, List.nil_append, List.singleton_append, List.cons_append]
    refine ⟨by decide, ?_⟩
    refine ws_for (fun j n => ∃ x5 x6, n = [some (.int (many : Int)), some (.int (size : Int)), some (.lst ((grps many i).map rowD)), some d, some (.lst ((((grps many i).take j).flatMap (ext many)).map rowD)), x5, x6]) ⟨_, _, rfl⟩ ?_ ?_
    · rintro j d2 n hd2 ⟨x5, x6, rfl⟩
      rw [List.getElem?_map] at hd2
      obtain ⟨row, hrow, rfl⟩ := Option.map_eq_some_iff.mp hd2
      have hlen : row.length ≤ 1000 := by
        have := (mem_grps.mp (List.mem_of_getElem? hrow)).1
        omega
      have hj := (List.getElem?_eq_some_iff.mp hrow).1
      simp only [wpA, wpB, wpC, we_callr, reread, List.length_cons, List.length_nil, List.map_cons, List.map_nil, Option.bind_some, id, Nat.reduceAdd, Nat.reduceLT, if_true, if_pos, true_and, and_true, reduceIte, Bool.not_true, Bool.not_false, decide_true, decide_false, List.getElem?_cons_zero, List.getElem?_cons_succ, E.wr, wrL, List.append_nil, List.nil_append, List.singleton_append, List.cons_append, rgN (show many ≤ 16777216 by omega)]
      refine ext_in (r := 5) (k := 6) (mk := fun x => [some (.int (many : Int)), some (.int (size : Int)), some (.lst ((grps many i).map rowD)), some d, some (.lst ((((grps many i).take j).flatMap (ext many)).map rowD)), some (rowD row), x]) hm hlen (fun _ => rfl) (fun _ => rfl) (fun _ => rfl) (fun _ => rfl) (by decide : 6 < 7) (fun x => ?_) x6
      have h1 : (((grps many i).take (j + 1)).flatMap (ext many)).length ≤ ((grps many i).take (j + 1)).length * many := flat_len (fun _ => ext_len) _
      have h2 : ((grps many i).take (j + 1)).length ≤ 823543 := by
        rw [List.length_take]
        have := grps_small hm (show i ≤ 7 by omega)
        omega
      have h3 : ((grps many i).take (j + 1)).length * many ≤ 823543 * 7 := Nat.mul_le_mul h2 hm
      have h4 : 823543 * 7 ≤ big := by decide
      have e : ((grps many i).take (j + 1)).flatMap (ext many) = ((grps many i).take j).flatMap (ext many) ++ ext many row := by
        rw [List.take_succ, hrow, Option.toList_some, List.flatMap_append, List.flatMap_singleton]
      rw [e] at h1 ⊢
      rw [List.length_append] at h1
      refine ⟨by simp only [List.length_map]; omega, some (rowD row), x6, ?_⟩
      rw [List.map_append]
    · rintro n ⟨x5, x6, rfl⟩
      simp only [wpA, wpB, wpC, we_callr, reread, List.length_cons, List.length_nil, List.map_cons, List.map_nil, Option.bind_some, id, Nat.reduceAdd, Nat.reduceLT, if_true, if_pos, true_and, and_true, reduceIte, Bool.not_true, Bool.not_false, decide_true, decide_false, List.getElem?_cons_zero, List.getElem?_cons_succ, E.wr, wrL, List.append_nil, List.nil_append, List.singleton_append, List.cons_append]
      rw [List.length_map, List.take_length]
      exact ⟨_, _, _, _, rfl⟩
  · rintro n ⟨x3, x4, x5, x6, rfl⟩
    simp only [wpA, wpB, wpC, we_callr, reread, List.length_cons, List.length_nil, List.map_cons, List.map_nil, Option.bind_some, id, Nat.reduceAdd, Nat.reduceLT, if_true, if_pos, true_and, and_true, reduceIte, Bool.not_true, Bool.not_false, decide_true, decide_false, List.getElem?_cons_zero, List.getElem?_cons_succ, E.wr, wrL, List.append_nil, List.nil_append, List.singleton_append, List.cons_append]
    rw [List.length_map, List.length_range]
def mts (f : Nat → Nat → Bool) (l : List Nat) : Bool := (unl f l).isNone
def MeetOk (F : Fn) : Prop := ∀ h cs ss (l : List Nat), Cs' cs → ss.length = cs.length → (∀ k ∈ l, k < cs.length) → F [houseD h cs, stD ss, rowD l] = .ok (.bl (mts (al cs ss) l)) []
theorem wMeet_ok {Φ : Fns} (h0 : DivOk (Φ 0)) : MeetOk (Li.wMeet.run Φ) := fun h cs ss l hc hl hk => by
  refine eq_of_wr (wr_run rfl rfl ?_)
  show WS Φ Li.wMeet.body [some (houseD h cs), some (stD ss), some (rowD l), none, none, none] _
  unfold Li.wMeet rowD
  simp only [wpA, wpB, wpC, we_callr, reread, List.length_cons, List.length_nil, List.map_cons, List.map_nil, Option.bind_some, id, Nat.reduceAdd, Nat.reduceLT, if_true, if_pos, true_and, and_true, reduceIte, Bool.not_true, Bool.not_false, decide_true, decide_false, List.getElem?_cons_zero, List.getElem?_cons_succ, E.wr, wrL, List.append_nil, List.nil_append, List.singleton_append, List.cons_append]
  refine ws_for (fun i n => (∃ a b c, n = [some (houseD h cs), some (stD ss), some (.tup (l.map nD)), a, b, c]) ∧ unl (al cs ss) (l.drop i) = unl (al cs ss) l) ⟨⟨_, _, _, rfl⟩, rfl⟩ ?_ ?_
  · rintro i d n hd ⟨⟨a, b, c, rfl⟩, hu⟩
    obtain ⟨x, hx, rfl⟩ := enm_at hd
    obtain ⟨j, hj, rfl⟩ := row_at hx
    have hil : i < l.length := (List.getElem?_eq_some_iff.mp hj).1
    have hjm : j < cs.length := hk j (List.mem_of_getElem? hj)
    have ed : l.drop i = j :: l.drop (i + 1) := by
      rw [List.drop_eq_getElem_cons hil]
      rw [List.getElem?_eq_getElem hil] at hj
      cases hj; rfl
    rw [ed] at hu
    simp only [wpA, wpB, wpC, we_callr, reread, List.length_cons, List.length_nil, List.map_cons, List.map_nil, Option.bind_some, id, Nat.reduceAdd, Nat.reduceLT, if_true, if_pos, true_and, and_true, reduceIte, Bool.not_true, Bool.not_false, decide_true, decide_false, List.getElem?_cons_zero, List.getElem?_cons_succ, E.wr, wrL, List.append_nil, List.nil_append, List.singleton_append, List.cons_append, we_opt (show (E.bin Bop.add (E.var 3) (E.cst (D.int 1))).isNo = false from rfl), show ((i : Int) + 1) = ((i + 1 : Nat) : Int) from rfl, cut_from (show i + 1 ≤ (l.map nD).length from by rw [List.length_map]; omega), ← List.map_drop]
    refine ws_for (fun q n => (∃ c, n = [some (houseD h cs), some (stD ss), some (.tup (l.map nD)), some (.int (i : Int)), some (.int (j : Int)), c]) ∧ (∀ k ∈ (l.drop (i + 1)).take q, al cs ss j k = true)) ⟨⟨_, rfl⟩, by simp⟩ ?_ ?_
    · rintro q d n hd ⟨⟨c, rfl⟩, ha⟩
      obtain ⟨k, hkq, rfl⟩ := row_at hd
      have hkm : k < cs.length := hk k (List.mem_of_mem_drop (List.mem_of_getElem? hkq))
      have h1 := (P_pos hc j).1
      have h2 := (P_pos hc k).1
      unfold P at h1 h2
      have e := h0 (cs.getD j (2, 1)).1 (cs.getD k (2, 1)).1 (by omega) (by omega)
      simp only [wpA, wpB, wpC, we_callr, reread, List.length_cons, List.length_nil, List.map_cons, List.map_nil, Option.bind_some, id, Nat.reduceAdd, Nat.reduceLT, if_true, if_pos, true_and, and_true, reduceIte, Bool.not_true, Bool.not_false, decide_true, decide_false, List.getElem?_cons_zero, List.getElem?_cons_succ, E.wr, wrL, List.append_nil, List.nil_append, List.singleton_append, List.cons_append, sAt (show j < ss.length by omega), sAt (show k < ss.length by omega), hCs, cAt hjm, cAt hkm, cPit, e]
      refine ⟨com_pos hc j k, ?_⟩
      cases hb : al cs ss j k with
      | false =>
        have hb2 : ¬ (ss.getD j 0 - ss.getD k 0) % ((Int.gcd (cs.getD j (2, 1)).1 (cs.getD k (2, 1)).1 : Nat) : Int) = 0 := by simpa [al, com, P] using hb
        rw [if_pos (by simpa using hb2)]
        unfold mts
        rw [← hu, unl]
        have hf : (l.drop (i + 1)).find? (fun k => !al cs ss j k) = some k := by
          rw [List.find?_eq_some_iff_getElem]
          obtain ⟨hq, e⟩ := List.getElem?_eq_some_iff.mp hkq
          refine ⟨by simp [hb], q, hq, e, fun m hm => ?_⟩
          have := ha ((l.drop (i + 1))[m]) (List.mem_take_iff_getElem.mpr ⟨m, by omega, rfl⟩)
          show (!(!al cs ss j (l.drop (i + 1))[m])) = true
          rw [this]; rfl
        rw [hf]
        rfl
      | true =>
        have hb2 : (ss.getD j 0 - ss.getD k 0) % ((Int.gcd (cs.getD j (2, 1)).1 (cs.getD k (2, 1)).1 : Nat) : Int) = 0 := by simpa [al, com, P] using hb
        rw [if_neg (by rw [hb2]; simp)]
        refine ⟨⟨_, rfl⟩, fun k' hk' => ?_⟩
        rw [List.take_succ, hkq] at hk'
        rcases List.mem_append.mp hk' with h | h
        · exact ha k' h
        · simp at h; rw [h]; exact hb
    · rintro n ⟨⟨c, rfl⟩, ha⟩
      refine ⟨⟨_, _, _, rfl⟩, ?_⟩
      rw [← hu, unl]
      have hf : (l.drop (i + 1)).find? (fun k => !al cs ss j k) = none := by
        rw [List.find?_eq_none]
        intro k hk
        have := ha k (by rw [List.length_map, List.take_length]; exact hk)
        simp [this]
      rw [hf]
  · rintro n ⟨⟨a, b, c, rfl⟩, hu⟩
    simp only [wpA, wpB, wpC, we_callr, reread, List.length_cons, List.length_nil, List.map_cons, List.map_nil, Option.bind_some, id, Nat.reduceAdd, Nat.reduceLT, if_true, if_pos, true_and, and_true, reduceIte, Bool.not_true, Bool.not_false, decide_true, decide_false, List.getElem?_cons_zero, List.getElem?_cons_succ, E.wr, wrL, List.append_nil, List.nil_append, List.singleton_append, List.cons_append]
    rw [enm_len, List.length_map, List.drop_length] at hu
    unfold mts
    rw [← hu]
    rfl
theorem ws_nvr {Φ : Fns} {n : Env} {r : List S} {P : Post} : WS Φ (.nvr :: r) n P = False := by simp only [WS, denB, S.den, wf_seq]; rfl
theorem isI {i : Int} : biD .isi [.int i, .ty "int"] = some (.bl true) := rfl
theorem isB {i : Int} : biD .isi [.int i, .ty "bool"] = some (.bl false) := rfl
def WholeOk (F : Fn) : Prop := ∀ i : Int, F [.int i] = .ok (.bl true) []
theorem whole_ok {Φ : Fns} : WholeOk (Li.isWhole.run Φ) := fun i => by
  refine eq_of_wr (wr_run rfl rfl ?_)
  show WS Φ Li.isWhole.body [some (.int i)] _
  unfold Li.isWhole
  simp only [wpA, wpB, wpC, we_callr, reread, List.length_cons, List.length_nil, List.map_cons, List.map_nil, Option.bind_some, id, Nat.reduceAdd, Nat.reduceLT, if_true, if_pos, true_and, and_true, reduceIte, Bool.not_true, Bool.not_false, decide_true, decide_false, List.getElem?_cons_zero, List.getElem?_cons_succ, E.wr, wrL, List.append_nil, List.nil_append, List.singleton_append, List.cons_append, isI, isB]
def BetweenOk (F : Fn) : Prop := ∀ i a b : Int, F [.int i, .int a, .int b] = .ok (.bl (decide (a ≤ i) && decide (i ≤ b))) []
theorem between_ok {Φ : Fns} (h0 : WholeOk (Φ 0)) : BetweenOk (Li.isBetween.run Φ) := fun i a b => by
  refine eq_of_wr (wr_run rfl rfl ?_)
  show WS Φ Li.isBetween.body [some (.int i), some (.int a), some (.int b)] _
  unfold Li.isBetween
  simp only [wpA, wpB, wpC, we_callr, reread, List.length_cons, List.length_nil, List.map_cons, List.map_nil, Option.bind_some, id, Nat.reduceAdd, Nat.reduceLT, if_true, if_pos, true_and, and_true, reduceIte, Bool.not_true, Bool.not_false, decide_true, decide_false, List.getElem?_cons_zero, List.getElem?_cons_succ, E.wr, wrL, List.append_nil, List.nil_append, List.singleton_append, List.cons_append, h0 i]
  by_cases h : a ≤ i <;> simp [h]
theorem chs {h : Int} {cs : List (Int × Int)} : biD .len [D.tup (cs.map combD)] = some (.int cs.length) := by rw [biLenT, List.length_map]
def NumberOk (F : Fn) : Prop := ∀ h cs (k : Nat), k < cs.length → F [houseD h cs, .int (k : Int)] = .ok .non []
theorem number_ok {Φ : Fns} (h0 : BetweenOk (Φ 0)) : NumberOk (Li.checkNumber.run Φ) := fun h cs k hk => by
  refine eq_of_wr (wr_run rfl rfl ?_)
  show WS Φ Li.checkNumber.body [some (houseD h cs), some (.int (k : Int))] _
  unfold Li.checkNumber
  simp only [wpA, wpB, wpC, we_callr, reread, List.length_cons, List.length_nil, List.map_cons, List.map_nil, Option.bind_some, id, Nat.reduceAdd, Nat.reduceLT, if_true, if_pos, true_and, and_true, reduceIte, Bool.not_true, Bool.not_false, decide_true, decide_false, List.getElem?_cons_zero, List.getElem?_cons_succ, E.wr, wrL, List.append_nil, List.nil_append, List.singleton_append, List.cons_append, hCs, chs (h := h), h0 (k : Int) 0 ((cs.length : Int) - 1), ws_nvr]
  have : (decide ((0 : Int) ≤ (k : Int)) && decide ((k : Int) ≤ (cs.length : Int) - 1)) = true := by
    simp; omega
  rw [this]
  simp
def crw (cs : List (Int × Int)) (ss : List Int) (h k : Nat) : List (List Nat) := (grps k h).filter fun row => mts (al cs ss) (row ++ [k])
def CrowdsOk (F : Fn) : Prop := ∀ (h : Nat) cs ss (k : Nat), Cs' cs → cs.length ≤ 7 → h ≤ 7 → ss.length = cs.length → k < cs.length → F [houseD (h : Int) cs, stD ss, .int (k : Int)] = .ok (.lst ((crw cs ss h k).map rowD)) []
theorem isNon_unl {o : Option (Nat × Nat)} : isNonD (unlD o) = o.isNone := by
  cases o with
  | none => rfl
  | some p => rfl
theorem rowAddN {l : List Nat} {k : Nat} (h : l.length ≤ 1000) : binD .add (rowD l) (.tup [.int (k : Int)]) = some (rowD (l ++ [k])) := rowAdd h
theorem crowds_ok {Φ : Fns} (h0 : NumberOk (Φ 0)) (h1 : GroupsOk (Φ 1)) (h2 : UnlikeOk (Φ 2)) : CrowdsOk (Li.crowds.run Φ) := fun h cs ss k hc hm hh hl hk => by
  refine eq_of_wr (wr_run rfl rfl ?_)
  show WS Φ Li.crowds.body [some (houseD (h : Int) cs), some (stD ss), some (.int (k : Int)), none] _
  unfold Li.crowds
  simp only [wpA, wpB, wpC, we_callr, reread, List.length_cons, List.length_nil, List.map_cons, List.map_nil, Option.bind_some, id, Nat.reduceAdd, Nat.reduceLT, if_true, if_pos, true_and, and_true, reduceIte, Bool.not_true, Bool.not_false, decide_true, decide_false, List.getElem?_cons_zero, List.getElem?_cons_succ, E.wr, wrL, List.append_nil, List.nil_append, List.singleton_append, List.cons_append, h0 (h : Int) cs k hk, hHd, h1 k h (by omega) hh]
  have hg := grps_small (show k ≤ 7 by omega) hh
  refine wc_pure (fun d => match d with | .tup l => mts (al cs ss) ((l.map fun x => match x with | .int i => i.toNat | _ => 0) ++ [k]) | _ => false) id _ _ (by rw [List.length_map]; exact Nat.le_trans hg (by decide)) ?_ ?_
  · intro d hd
    obtain ⟨row, hrow, rfl⟩ := List.mem_map.mp hd
    obtain ⟨e1, _, e3⟩ := mem_grps.mp hrow
    have hx := h2 (h : Int) cs ss (row ++ [k]) hc hl (fun j hj => by
      rcases List.mem_append.mp hj with q | q
      · have := e3 j q; omega
      · simp at q; omega)
    simp only [wpA, wpB, wpC, we_callr, reread, List.length_cons, List.length_nil, List.map_cons, List.map_nil, Option.bind_some, id, Nat.reduceAdd, Nat.reduceLT, if_true, if_pos, true_and, and_true, reduceIte, Bool.not_true, Bool.not_false, decide_true, decide_false, List.getElem?_cons_zero, List.getElem?_cons_succ, E.wr, wrL, List.append_nil, List.nil_append, List.singleton_append, List.cons_append, rowAddN (show row.length ≤ 1000 by omega), hx, isNon_unl, wc_some (show (E.cmp Cop.is_ (E.call 2 [E.var 0, E.var 1, E.bin Bop.add (E.var 3) (E.tup [E.var 2])] []) (E.cst D.non)).isNo = false from rfl)]
    refine ⟨by decide, ?_⟩
    have er : ((rowD row) : D) = .tup (row.map nD) := rfl
    refine ⟨?_, fun _ => trivial⟩
    show (unl (al cs ss) (row ++ [k])).isNone = mts (al cs ss) (((row.map nD).map fun x => match x with | .int i => i.toNat | _ => 0) ++ [k])
    rw [List.map_map]
    have : row.map ((fun x => match x with | .int i => i.toNat | _ => 0) ∘ nD) = row := by
      conv => rhs; rw [← List.map_id row]
      exact List.map_congr_left fun a _ => by simp [nD]
    rw [this]
    rfl
  · intro n'
    rw [List.map_id, List.filter_map]
    congr 2
    unfold crw
    refine List.filter_congr fun row _ => ?_
    show mts (al cs ss) (((row.map nD).map fun x => match x with | .int i => i.toNat | _ => 0) ++ [k]) = _
    rw [List.map_map]
    have : row.map ((fun x => match x with | .int i => i.toNat | _ => 0) ∘ nD) = row := by
      conv => rhs; rw [← List.map_id row]
      exact List.map_congr_left fun a _ => by simp [nD]
    rw [this]
def crd (cs : List (Int × Int)) (ss : List Int) (h : Nat) : List Nat := (List.range cs.length).filter fun k => !decide (crw cs ss h k = [])
def CrowdedOk (F : Fn) : Prop := ∀ (h : Nat) cs ss, Cs' cs → cs.length ≤ 7 → h ≤ 7 → ss.length = cs.length → F [houseD (h : Int) cs, stD ss] = .ok (.lst ((crd cs ss h).map nD)) []
theorem lenSt {ss : List Int} : biD .len [stD ss] = some (.int ss.length) := by simp [stD, biLenT]
theorem crowded_ok {Φ : Fns} (h0 : CrowdsOk (Φ 0)) : CrowdedOk (Li.crowded.run Φ) := fun h cs ss hc hm hh hl => by
  refine eq_of_wr (wr_run rfl rfl ?_)
  show WS Φ Li.crowded.body [some (houseD (h : Int) cs), some (stD ss), none] _
  unfold Li.crowded
  simp only [wpA, wpB, wpC, we_callr, reread, List.length_cons, List.length_nil, List.map_cons, List.map_nil, Option.bind_some, id, Nat.reduceAdd, Nat.reduceLT, if_true, if_pos, true_and, and_true, reduceIte, Bool.not_true, Bool.not_false, decide_true, decide_false, List.getElem?_cons_zero, List.getElem?_cons_succ, E.wr, wrL, List.append_nil, List.nil_append, List.singleton_append, List.cons_append, lenSt, rgN (show ss.length ≤ 16777216 by omega)]
  refine wc_pure (fun d => match d with | .int i => !decide (crw cs ss h i.toNat = []) | _ => false) id _ _ (by simp [big]; omega) ?_ ?_
  · intro d hd
    obtain ⟨k, hk, rfl⟩ := List.mem_map.mp hd
    have hk := List.mem_range.mp hk
    unfold nD
    simp only [wpA, wpB, wpC, we_callr, reread, List.length_cons, List.length_nil, List.map_cons, List.map_nil, Option.bind_some, id, Nat.reduceAdd, Nat.reduceLT, if_true, if_pos, true_and, and_true, reduceIte, Bool.not_true, Bool.not_false, decide_true, decide_false, List.getElem?_cons_zero, List.getElem?_cons_succ, E.wr, wrL, List.append_nil, List.nil_append, List.singleton_append, List.cons_append, h0 h cs ss k hc hm hh hl (by omega), rowsNe, wc_some (show (E.cmp Cop.ne (E.call 0 [E.var 0, E.var 1, E.var 2] []) (E.lst [])).isNo = false from rfl)]
    exact ⟨by decide, by simp, fun _ => trivial⟩
  · intro n'
    rw [List.map_id, List.filter_map, hl]
    congr 2
def AtRestOk (F : Fn) : Prop := ∀ (h : Nat) cs ss, Cs' cs → cs.length ≤ 7 → h ≤ 7 → ss.length = cs.length → F [houseD (h : Int) cs, stD ss] = .ok (.bl (decide (crd cs ss h = []))) []
theorem atRest_ok {Φ : Fns} (h0 : CrowdedOk (Φ 0)) : AtRestOk (Li.atRest.run Φ) := fun h cs ss hc hm hh hl => by
  refine eq_of_wr (wr_run rfl rfl ?_)
  show WS Φ Li.atRest.body [some (houseD (h : Int) cs), some (stD ss)] _
  unfold Li.atRest
  simp only [wpA, wpB, wpC, we_callr, reread, List.length_cons, List.length_nil, List.map_cons, List.map_nil, Option.bind_some, id, Nat.reduceAdd, Nat.reduceLT, if_true, if_pos, true_and, and_true, reduceIte, Bool.not_true, Bool.not_false, decide_true, decide_false, List.getElem?_cons_zero, List.getElem?_cons_succ, E.wr, wrL, List.append_nil, List.nil_append, List.singleton_append, List.cons_append, h0 h cs ss hc hm hh hl, eq_nilN]
  exact by decide
end Sc
namespace Sc
open PySem PySem.Spec PyProof.Rows L2
def Li.loadOf : FnIR := ⟨5, 3, [], [], false, [
  .fr (.nm 3) (.rvr (.cst (.int 1)) (.bin .add (.var 2) (.cst (.int 1)))) [.fr (.nm 4) (.call 0 [.var 2, .var 3] []) [.ite (.cmp .is_ (.call 1 [.var 0, .var 1, .bin .add (.var 4) (.tup [.var 2])] []) (.cst .non)) [.ret (.bin .add (.var 3) (.cst (.int 1)))] []]],
  .ret (.cst (.int 1))]⟩
def Li.loads : FnIR := ⟨3, 2, [], [], false, [
  .ret (.bi .tuple [.lc (.call 0 [.var 0, .var 1, .var 2] []) (.nm 2) (.rng .no (.bi .len [.var 1])) (.no) [2]])]⟩
def Li.wLoad : FnIR := ⟨6, 3, [], [], false, [
  .asg 3 (.cst (.int 1)),
  .fr (.nm 4) (.rng (.cst (.int 1)) (.bin .add (.var 2) (.cst (.int 1)))) [.ite (.cmp .ne (.lc (.var 5) (.nm 5) (.call 0 [.var 2, .var 4] []) (.call 1 [.var 0, .var 1, .bin .add (.var 5) (.tup [.var 2])] []) [5]) (.lst [])) [.asg 3 (.bin .add (.var 4) (.cst (.int 1)))] []],
  .ret (.var 3)]⟩
/-! ### loads -/
def gan (f : Nat → Nat → Bool) (k s : Nat) : Bool := (grps k (s + 1)).any fun row => mts f (row ++ [k])
def ldU (f : Nat → Nat → Bool) (k i : Nat) : Nat := match (List.range i).reverse.find? (gan f k) with
  | some s => s + 2
  | none => 1
def ldz (f : Nat → Nat → Bool) (k : Nat) : Nat := ldU f k k
theorem ld_succ {f : Nat → Nat → Bool} {k i : Nat} : ldU f k (i + 1) = if gan f k i = true then i + 2 else ldU f k i := by
  unfold ldU
  rw [List.range_succ, List.reverse_append, List.reverse_singleton, List.singleton_append, List.find?_cons]
  cases gan f k i <;> rfl
theorem rg1 {k : Nat} (h : k ≤ 1000) : rngD (.int 1) (.int ((k : Int) + 1)) = some ((List.range k).map fun s : Nat => .int ((s : Int) + 1)) := by
  rw [rng_ok (by decide) (by omega) (by unfold big; omega)]
  congr 1
  have : ((k : Int) + 1 - 1).toNat = k := by omega
  rw [this]
  exact List.map_congr_left fun s _ => by congr 1; omega
structure LdA (cs : List (Int × Int)) (ss : List Int) (k : Nat) : Prop where
  c : Cs' cs
  m : cs.length ≤ 7
  l : ss.length = cs.length
  k : k < cs.length
def LoadOk (F : Fn) : Prop := ∀ (h : Int) cs ss (k : Nat), LdA cs ss k → F [houseD h cs, stD ss, .int (k : Int)] = .ok (.int (ldz (al cs ss) k : Nat)) []
theorem row_ok {k : Nat} {row : List Nat} {n s : Nat} (h : row ∈ grps k s) (hk : k < n) : row.length = s ∧ ∀ j ∈ row ++ [k], j < n := by
  obtain ⟨e1, _, e3⟩ := mem_grps.mp h
  exact ⟨e1, fun j hj => by
    rcases List.mem_append.mp hj with q | q
    · have := e3 j q; omega
    · simp at q; omega⟩
theorem loadOf_ok {Φ : Fns} (h0 : GroupsOk (Φ 0)) (h1 : UnlikeOk (Φ 1)) : LoadOk (Li.loadOf.run Φ) := fun h cs ss k a => by
  obtain ⟨hc, hm, hl, hk⟩ := a
  refine eq_of_wr (wr_run rfl rfl ?_)
  show WS Φ Li.loadOf.body [some (houseD h cs), some (stD ss), some (.int (k : Int)), none, none] _
  unfold Li.loadOf
  simp only [wpA, wpB, wpC, we_callr, reread, List.length_cons, List.length_nil, List.map_cons, List.map_nil, Option.bind_some, id, Nat.reduceAdd, Nat.reduceLT, if_true, if_pos, true_and, and_true, reduceIte, Bool.not_true, Bool.not_false, decide_true, decide_false, List.getElem?_cons_zero, List.getElem?_cons_succ, E.wr, wrL, List.append_nil, List.nil_append, List.singleton_append, List.cons_append, we_opt (show (E.cst (D.int 1)).isNo = false from rfl), rg1 (show k ≤ 1000 by omega), ← List.map_reverse]
  refine ws_for (fun i n => (∃ x3 x4, n = [some (houseD h cs), some (stD ss), some (.int (k : Int)), x3, x4]) ∧ ((List.range k).reverse.drop i).find? (gan (al cs ss) k) = (List.range k).reverse.find? (gan (al cs ss) k)) ⟨⟨_, _, rfl⟩, rfl⟩ ?_ ?_
  · rintro i d n hd ⟨⟨x3, x4, rfl⟩, hu⟩
    rw [List.getElem?_map] at hd
    obtain ⟨s, hs, rfl⟩ := Option.map_eq_some_iff.mp hd
    have hil : i < (List.range k).reverse.length := (List.getElem?_eq_some_iff.mp hs).1
    have hsk : s < k := by have := List.mem_of_getElem? hs; simpa using this
    have ed : (List.range k).reverse.drop i = s :: (List.range k).reverse.drop (i + 1) := by
      rw [List.drop_eq_getElem_cons hil]
      rw [List.getElem?_eq_getElem hil] at hs
      rw [Option.some.inj hs]
    rw [ed] at hu
    simp only [wpA, wpB, wpC, we_callr, reread, List.length_cons, List.length_nil, List.map_cons, List.map_nil, Option.bind_some, id, Nat.reduceAdd, Nat.reduceLT, if_true, if_pos, true_and, and_true, reduceIte, Bool.not_true, Bool.not_false, decide_true, decide_false, List.getElem?_cons_zero, List.getElem?_cons_succ, E.wr, wrL, List.append_nil, List.nil_append, List.singleton_append, List.cons_append, show ((s : Int) + 1) = ((s + 1 : Nat) : Int) from rfl, h0 k (s + 1) (by omega) (by omega)]
    refine ws_for (fun q n => (∃ x4, n = [some (houseD h cs), some (stD ss), some (.int (k : Int)), some (.int ((s + 1 : Nat) : Int)), x4]) ∧ (∀ r ∈ (grps k (s + 1)).take q, mts (al cs ss) (r ++ [k]) = false)) ⟨⟨_, rfl⟩, by simp⟩ ?_ ?_
    · rintro q d n hd ⟨⟨x4, rfl⟩, ha⟩
      rw [List.getElem?_map] at hd
      obtain ⟨row, hrow, rfl⟩ := Option.map_eq_some_iff.mp hd
      obtain ⟨r1, r2⟩ := row_ok (List.mem_of_getElem? hrow) hk
      simp only [wpA, wpB, wpC, we_callr, reread, List.length_cons, List.length_nil, List.map_cons, List.map_nil, Option.bind_some, id, Nat.reduceAdd, Nat.reduceLT, if_true, if_pos, true_and, and_true, reduceIte, Bool.not_true, Bool.not_false, decide_true, decide_false, List.getElem?_cons_zero, List.getElem?_cons_succ, E.wr, wrL, List.append_nil, List.nil_append, List.singleton_append, List.cons_append, rowAdd (show row.length ≤ 1000 by omega), h1 h cs ss (row ++ [k]) hc hl r2, isNon_unl]
      refine ⟨by decide, ?_⟩
      cases hb : (unl (al cs ss) (row ++ [k])).isNone with
      | true =>
        rw [if_pos rfl]
        have hg : gan (al cs ss) k s = true := by
          unfold gan
          rw [List.any_eq_true]
          exact ⟨row, List.mem_of_getElem? hrow, hb⟩
        unfold ldz ldU
        rw [← hu, List.find?_cons, hg]
        show D.int ((s + 1 : Nat) + 1 : Int) = D.int ((s + 2 : Nat) : Int)
        congr 1
      | false =>
        rw [if_neg Bool.false_ne_true]
        refine ⟨⟨_, rfl⟩, fun r hr => ?_⟩
        rw [List.take_succ, hrow] at hr
        rcases List.mem_append.mp hr with h | h
        · exact ha r h
        · simp at h; rw [h]; exact hb
    · rintro n ⟨⟨x4, rfl⟩, ha⟩
      refine ⟨⟨_, _, rfl⟩, ?_⟩
      rw [List.length_map, List.take_length] at ha
      have hg : gan (al cs ss) k s = false := by
        unfold gan
        rw [List.any_eq_false]
        intro r hr
        rw [ha r hr]; decide
      rw [← hu, List.find?_cons, hg]
  · rintro n ⟨⟨x3, x4, rfl⟩, hu⟩
    simp only [wpA, wpB, wpC, we_callr, reread, List.length_cons, List.length_nil, List.map_cons, List.map_nil, Option.bind_some, id, Nat.reduceAdd, Nat.reduceLT, if_true, if_pos, true_and, and_true, reduceIte, Bool.not_true, Bool.not_false, decide_true, decide_false, List.getElem?_cons_zero, List.getElem?_cons_succ, E.wr, wrL, List.append_nil, List.nil_append, List.singleton_append, List.cons_append]
    unfold ldz ldU
    rw [← hu, List.length_map, List.drop_length]
    rfl
theorem wLoad_ok {Φ : Fns} (h0 : GroupsOk (Φ 0)) (h1 : MeetOk (Φ 1)) : LoadOk (Li.wLoad.run Φ) := fun h cs ss k a => by
  obtain ⟨hc, hm, hl, hk⟩ := a
  refine eq_of_wr (wr_run rfl rfl ?_)
  show WS Φ Li.wLoad.body [some (houseD h cs), some (stD ss), some (.int (k : Int)), none, none, none] _
  unfold Li.wLoad
  simp only [wpA, wpB, wpC, we_callr, reread, List.length_cons, List.length_nil, List.map_cons, List.map_nil, Option.bind_some, id, Nat.reduceAdd, Nat.reduceLT, if_true, if_pos, true_and, and_true, reduceIte, Bool.not_true, Bool.not_false, decide_true, decide_false, List.getElem?_cons_zero, List.getElem?_cons_succ, E.wr, wrL, List.append_nil, List.nil_append, List.singleton_append, List.cons_append, we_opt (show (E.cst (D.int 1)).isNo = false from rfl), rg1 (show k ≤ 1000 by omega)]
  refine ws_for (fun i n => (∃ x4 x5, n = [some (houseD h cs), some (stD ss), some (.int (k : Int)), some (.int ((ldU (al cs ss) k i : Nat) : Int)), x4, x5])) ⟨_, _, rfl⟩ ?_ ?_
  · rintro i d n hd ⟨x4, x5, rfl⟩
    rw [List.getElem?_map] at hd
    obtain ⟨s, hs, rfl⟩ := Option.map_eq_some_iff.mp hd
    have hik : i < k := by have := (List.getElem?_eq_some_iff.mp hs).1; simpa using this
    have hs : s = i := by rw [List.getElem?_range hik] at hs; exact (Option.some.inj hs).symm
    subst hs
    simp only [wpA, wpB, wpC, we_callr, reread, List.length_cons, List.length_nil, List.map_cons, List.map_nil, Option.bind_some, id, Nat.reduceAdd, Nat.reduceLT, if_true, if_pos, true_and, and_true, reduceIte, Bool.not_true, Bool.not_false, decide_true, decide_false, List.getElem?_cons_zero, List.getElem?_cons_succ, E.wr, wrL, List.append_nil, List.nil_append, List.singleton_append, List.cons_append, show ((s : Int) + 1) = ((s + 1 : Nat) : Int) from rfl, h0 k (s + 1) (by omega) (by omega)]
    have hg := grps_small (show k ≤ 7 by omega) (show s + 1 ≤ 7 by omega)
    refine wc_pure (fun d => match d with | .tup l => mts (al cs ss) ((l.map fun x => match x with | .int i => i.toNat | _ => 0) ++ [k]) | _ => false) id _ _ (by rw [List.length_map]; exact Nat.le_trans hg (by decide)) ?_ ?_
    · intro d hd
      obtain ⟨row, hrow, rfl⟩ := List.mem_map.mp hd
      obtain ⟨r1, r2⟩ := row_ok hrow hk
      simp only [wpA, wpB, wpC, we_callr, reread, List.length_cons, List.length_nil, List.map_cons, List.map_nil, Option.bind_some, id, Nat.reduceAdd, Nat.reduceLT, if_true, if_pos, true_and, and_true, reduceIte, Bool.not_true, Bool.not_false, decide_true, decide_false, List.getElem?_cons_zero, List.getElem?_cons_succ, E.wr, wrL, List.append_nil, List.nil_append, List.singleton_append, List.cons_append, rowAdd (show row.length ≤ 1000 by omega), h1 h cs ss (row ++ [k]) hc hl r2, wc_some (show (E.call 1 [E.var 0, E.var 1, E.bin Bop.add (E.var 5) (E.tup [E.var 2])] []).isNo = false from rfl)]
      refine ⟨by decide, ?_, fun _ => trivial⟩
      show mts (al cs ss) (row ++ [k]) = mts (al cs ss) (((row.map nD).map fun x => match x with | .int i => i.toNat | _ => 0) ++ [k])
      rw [List.map_map]
      have : row.map ((fun x => match x with | .int i => i.toNat | _ => 0) ∘ nD) = row := by
        conv => rhs; rw [← List.map_id row]
        exact List.map_congr_left fun a _ => by simp [nD]
      rw [this]
    · intro n'
      have e : ((((grps k (s + 1)).map rowD).filter fun d => match d with | .tup l => mts (al cs ss) ((l.map fun x => match x with | .int i => i.toNat | _ => 0) ++ [k]) | _ => false).map id) = ((grps k (s + 1)).filter fun row => mts (al cs ss) (row ++ [k])).map rowD := by
        rw [List.map_id, List.filter_map]
        congr 1
        refine List.filter_congr fun row _ => ?_
        show mts (al cs ss) (((row.map nD).map fun x => match x with | .int i => i.toNat | _ => 0) ++ [k]) = _
        rw [List.map_map]
        have : row.map ((fun x => match x with | .int i => i.toNat | _ => 0) ∘ nD) = row := by
          conv => rhs; rw [← List.map_id row]
          exact List.map_congr_left fun a _ => by simp [nD]
        rw [this]
      rw [e]
      simp only [wpA, wpB, wpC, we_callr, reread, List.length_cons, List.length_nil, List.map_cons, List.map_nil, Option.bind_some, id, Nat.reduceAdd, Nat.reduceLT, if_true, if_pos, true_and, and_true, reduceIte, Bool.not_true, Bool.not_false, decide_true, decide_false, List.getElem?_cons_zero, List.getElem?_cons_succ, E.wr, wrL, List.append_nil, List.nil_append, List.singleton_append, List.cons_append, rowsNe]
      refine ⟨by decide, ?_⟩
      have hgan : gan (al cs ss) k s = !decide ((grps k (s + 1)).filter (fun row => mts (al cs ss) (row ++ [k])) = []) := by
        unfold gan
        by_cases hx : (grps k (s + 1)).filter (fun row => mts (al cs ss) (row ++ [k])) = []
        · rw [hx]
          simp only [decide_true, Bool.not_true]
          rw [List.any_eq_false]
          intro r hr q
          rw [List.filter_eq_nil_iff] at hx
          exact hx r hr q
        · have : decide ((grps k (s + 1)).filter (fun row => mts (al cs ss) (row ++ [k])) = []) = false := by simpa using hx
          rw [this]
          obtain ⟨r, t, er⟩ := List.exists_cons_of_ne_nil hx
          have hr : r ∈ (grps k (s + 1)).filter (fun row => mts (al cs ss) (row ++ [k])) := by rw [er]; exact List.mem_cons_self
          obtain ⟨q1, q2⟩ := List.mem_filter.mp hr
          show _ = true
          rw [List.any_eq_true]
          exact ⟨r, q1, q2⟩
      rw [← hgan]
      cases hb : gan (al cs ss) k s with
      | true =>
        rw [if_pos rfl]
        refine ⟨some (.int ((s + 1 : Nat) : Int)), x5, ?_⟩
        rw [ld_succ, hb, if_pos rfl]
        rfl
      | false =>
        rw [if_neg Bool.false_ne_true]
        refine ⟨some (.int ((s + 1 : Nat) : Int)), x5, ?_⟩
        rw [ld_succ, hb, if_neg Bool.false_ne_true]
  · rintro n ⟨x4, x5, rfl⟩
    simp only [wpA, wpB, wpC, we_callr, reread, List.length_cons, List.length_nil, List.map_cons, List.map_nil, Option.bind_some, id, Nat.reduceAdd, Nat.reduceLT, if_true, if_pos, true_and, and_true, reduceIte, Bool.not_true, Bool.not_false, decide_true, decide_false, List.getElem?_cons_zero, List.getElem?_cons_succ, E.wr, wrL, List.append_nil, List.nil_append, List.singleton_append, List.cons_append]
    rw [List.length_map, List.length_range]
    rfl
def ldsD (cs : List (Int × Int)) (ss : List Int) : D := rowD ((List.range cs.length).map (ldz (al cs ss)))
def LoadsOk (F : Fn) : Prop := ∀ (h : Int) cs ss, Cs' cs → cs.length ≤ 7 → ss.length = cs.length → F [houseD h cs, stD ss] = .ok (ldsD cs ss) []
theorem filter_T {α : Type} {l : List α} : l.filter (fun _ => true) = l := List.filter_eq_self.mpr fun _ _ => rfl
theorem loads_ok {Φ : Fns} (h0 : LoadOk (Φ 0)) : LoadsOk (Li.loads.run Φ) := fun h cs ss hc hm hl => by
  refine eq_of_wr (wr_run rfl rfl ?_)
  show WS Φ Li.loads.body [some (houseD h cs), some (stD ss), none] _
  unfold Li.loads
  simp only [wpA, wpB, wpC, we_callr, reread, List.length_cons, List.length_nil, List.map_cons, List.map_nil, Option.bind_some, id, Nat.reduceAdd, Nat.reduceLT, if_true, if_pos, true_and, and_true, reduceIte, Bool.not_true, Bool.not_false, decide_true, decide_false, List.getElem?_cons_zero, List.getElem?_cons_succ, E.wr, wrL, List.append_nil, List.nil_append, List.singleton_append, List.cons_append, lenSt, rgN (show ss.length ≤ 16777216 by omega)]
  refine wc_pure (fun _ => true) (fun d => match d with | .int i => .int ((ldz (al cs ss) i.toNat : Nat) : Int) | _ => .non) _ _ (by simp [big]; omega) ?_ ?_
  · intro d hd
    obtain ⟨k, hk, rfl⟩ := List.mem_map.mp hd
    have hk := List.mem_range.mp hk
    unfold nD
    simp only [wpA, wpB, wpC, we_callr, reread, List.length_cons, List.length_nil, List.map_cons, List.map_nil, Option.bind_some, id, Nat.reduceAdd, Nat.reduceLT, if_true, if_pos, true_and, and_true, reduceIte, Bool.not_true, Bool.not_false, decide_true, decide_false, List.getElem?_cons_zero, List.getElem?_cons_succ, E.wr, wrL, List.append_nil, List.nil_append, List.singleton_append, List.cons_append, h0 h cs ss k ⟨hc, hm, hl, by omega⟩]
    exact fun _ => by simp
  · intro n'
    rw [filter_T, List.map_map, hl]
    unfold ldsD rowD
    rw [List.map_map]
    congr 1
end Sc
namespace Sc
open PySem PySem.Spec PyProof.Rows L2
def Li.wIsEven : FnIR := ⟨5, 1, [], [], false, [
  .fr (.nm 1) (.rng (.cst (.int 2)) (.bi .len [.var 0])) [.fr (.nm 2) (.rng .no (.bin .sub (.var 1) (.cst (.int 1)))) [.asg 3 (.call 0 [.idx (.var 0) (.var 2), .idx (.var 0) (.var 1)] []), .ite (.cmp .ne (.lc (.cst (.int 1)) (.nm 4) (.slc (.var 0) (.bin .add (.var 2) (.cst (.int 1))) (.var 1)) (.cmp .ne (.bin .mod (.var 4) (.var 3)) (.cst (.int 0))) [4]) (.lst [])) [.ret (.cst (.bl false))] []]],
  .ret (.cst (.bl true))]⟩
def Li.wPitches : FnIR := ⟨7, 2, [0], [], false, [
  .asg 2 (.call 0 [.var 0, .cst (.int 4)] [0]),
  .asg 3 (.idx (.lst [.cst (.int 1), .cst (.int 2), .cst (.int 3), .cst (.int 4), .cst (.int 6), .cst (.int 8)]) (.call 0 [.var 0, .cst (.int 6)] [0])),
  .asg 4 (.lst []),
  .fr (.nm 5) (.rng .no (.var 1)) [.asg 6 (.bi .max [.cst (.int 2), .bin .mul (.var 3) (.bin .add (.cst (.int 1)) (.call 0 [.var 0, .bin .fdiv (.cst (.int 64)) (.var 3)] [0]))]), .ite (.cmp .eq (.var 2) (.cst (.int 0))) [.asg 6 (.idx (.lst [.cst (.int 2), .cst (.int 4), .cst (.int 8), .cst (.int 16), .cst (.int 32), .cst (.int 64)]) (.call 0 [.var 0, .cst (.int 6)] [0]))] [], .ite (.cmp .eq (.var 2) (.cst (.int 1))) [.asg 6 (.idx (.lst [.cst (.int 2), .cst (.int 3), .cst (.int 4), .cst (.int 6), .cst (.int 8), .cst (.int 9), .cst (.int 12), .cst (.int 16), .cst (.int 18), .cst (.int 24), .cst (.int 36), .cst (.int 48), .cst (.int 54)]) (.call 0 [.var 0, .cst (.int 13)] [0]))] [], .ite (.nt (.call 1 [.bin .add (.var 4) (.lst [.var 6])] [])) [.asg 6 (.idx (.var 4) (.neg (.cst (.int 1))))] [], .mut .append 4 [.var 6]],
  .fz [4],
  .ret (.var 4)]⟩
def Li.wHouse : FnIR := ⟨6, 2, [0], [], false, [
  .asg 2 (.callr 0 [.var 0, .bin .add (.cst (.int 1)) (.call 1 [.var 0, .var 1] [0])] [0]),
  .asg 3 (.call 1 [.var 0, .cst (.int 2)] [0]),
  .asg 4 (.lc (.bin .add (.cst (.int 1)) (.bin .mul (.var 3) (.call 1 [.var 0, .bin .sub (.var 5) (.cst (.int 1))] [0]))) (.nm 5) (.var 2) (.no) [5]),
  .ret (.tup [.idx (.lst [.cst (.int 1), .cst (.int 1), .cst (.int 2), .cst (.int 3)]) (.call 1 [.var 0, .cst (.int 4)] [0]), .bi .tuple [.lz (.var 2) (.var 4)]])]⟩
def Li.isLow : FnIR := ⟨4, 4, [], [], false, [
  .ret (.cmp .ne (.bin .mod (.idx (.idx (.idx (.var 0) (.cst (.int 1))) (.var 2)) (.cst (.int 0))) (.call 0 [.var 0, .var 1, .var 3] [])) (.cst (.int 0)))]⟩
def Li.valley : FnIR := ⟨4, 1, [], [], false, [
  .fr (.tp [.nm 1, .nm 2, .nm 3]) (.call 0 [.bi .len [.idx (.var 0) (.cst (.int 1))], .cst (.int 3)] []) [.ite (.call 1 [.var 0, .var 1, .var 2, .var 3] []) [.ret (.tup [.var 1, .var 2, .var 3])] []],
  .ret (.cst .non)]⟩
def Li.isEven : FnIR := ⟨1, 1, [], [], false, [
  .ret (.cmp .is_ (.call 0 [.var 0] []) (.cst .non))]⟩
/-! ### pitches without a valley -/
theorem ws_cut {Φ : Fns} {s : S} {r : List S} {n : Env} {P : Post} (C : Env → Prop) (h1 : WS Φ [s] n { nx := C, rt := P.rt, bk := P.bk, ct := P.ct }) (h2 : ∀ m, C m → WS Φ r m P) : WS Φ (s :: r) n P := by
  unfold WS at h1 h2 ⊢
  simp only [denB] at h1 ⊢
  rw [wf_seq] at h1 ⊢
  exact h1.mono (fun m h => h2 m h) (fun _ _ h => h) (fun _ h => h) fun _ h => h
def Ev (ps : List Int) : Prop := ∀ i j k : Nat, i < j → j < k → k < ps.length → ps.getD j 2 % ((Int.gcd (ps.getD i 2) (ps.getD k 2) : Nat) : Int) = 0
def Pit (ps : List Int) : Prop := ∀ x ∈ ps, 2 ≤ x ∧ x ≤ 64
def IsEvenOk (F : Fn) : Prop := ∀ ps : List Int, Pit ps → ps.length ≤ 1000 → ∃ b : Bool, F [.lst (ps.map .int)] = .ok (.bl b) [] ∧ (b = true ↔ Ev ps)
theorem pit_at {ps : List Int} (h : Pit ps) (j : Nat) : 2 ≤ ps.getD j 2 ∧ ps.getD j 2 ≤ 64 := by
  by_cases hj : j < ps.length
  · have : ps.getD j 2 = ps[j] := by simp [List.getD_eq_getElem?_getD, hj]
    rw [this]; exact h _ (List.getElem_mem hj)
  · rw [List.getD_eq_getElem?_getD, List.getElem?_eq_none (by omega)]; decide
theorem lAt2 {ss : List Int} {j : Nat} (h : j < ss.length) : idxD (.lst (ss.map .int)) (.int (j : Int)) = some (.int (ss.getD j 2)) := by
  show atD _ _ = _
  rw [atN, List.getElem?_map, getD_at (a := 2) h]; rfl
theorem cutN {l : List D} {a b : Nat} (h : a ≤ b) (hb : b ≤ l.length) : slcD (.lst l) (.int ((a : Nat) : Int)) (.int ((b : Nat) : Int)) = some (.lst ((l.drop a).take (b - a))) := by
  simp only [slcD, cutD, endD, Option.bind_some, Option.map_some]
  congr 3
  · rw [if_pos (by omega), if_pos (by omega)]; omega
  · rw [if_pos (by omega)]; congr 1; omega
theorem gcd_posI {a b : Int} (h : 2 ≤ a) : 0 < ((Int.gcd a b : Nat) : Int) := by
  have : Int.gcd a b ≠ 0 := fun e => by rw [Int.gcd_eq_zero_iff] at e; omega
  omega
theorem isEvenW_ok {Φ : Fns} (h0 : DivOk (Φ 0)) : IsEvenOk (Li.wIsEven.run Φ) := fun ps hp hl => by
  suffices h : WR (Li.wIsEven.run Φ [.lst (ps.map .int)]) fun d o => (∃ b : Bool, d = .bl b ∧ (b = true ↔ Ev ps)) ∧ o = [] by
    obtain ⟨d, o, e, ⟨b, rfl, hb⟩, rfl⟩ := h.ex
    exact ⟨b, e, hb⟩
  refine wr_run rfl rfl ?_
  show WS Φ Li.wIsEven.body [some (.lst (ps.map .int)), none, none, none, none] _
  unfold Li.wIsEven
  have e2 : rngD (.int 2) (.int ((ps.map D.int).length : Int)) = some ((List.range (ps.length - 2)).map fun i : Nat => .int (((i + 2 : Nat)) : Int)) := by
    rw [List.length_map, rng_ok (by decide) (by omega) (by unfold big; omega)]
    congr 1
    have : ((ps.length : Int) - 2).toNat = ps.length - 2 := by omega
    rw [this]
    exact List.map_congr_left fun i _ => by congr 1; omega
  simp only [wpA, wpB, wpC, we_callr, reread, List.length_cons, List.length_nil, List.map_cons, List.map_nil, Option.bind_some, id, Nat.reduceAdd, Nat.reduceLT, if_true, if_pos, true_and, and_true, reduceIte, Bool.not_true, Bool.not_false, decide_true, decide_false, List.getElem?_cons_zero, List.getElem?_cons_succ, E.wr, wrL, List.append_nil, List.nil_append, List.singleton_append, List.cons_append, we_opt (show (E.cst (D.int 2)).isNo = false from rfl), e2]
  refine ws_for (fun q n => (∃ x1 x2 x3 x4, n = [some (.lst (ps.map .int)), x1, x2, x3, x4]) ∧ ∀ i j k : Nat, i < j → j < k → k < q + 2 → k < ps.length → ps.getD j 2 % ((Int.gcd (ps.getD i 2) (ps.getD k 2) : Nat) : Int) = 0) ⟨⟨_, _, _, _, rfl⟩, fun i j k h1 h2 h3 _ => by omega⟩ ?_ ?_
  · rintro q d n hd ⟨⟨x1, x2, x3, x4, rfl⟩, hE⟩
    rw [List.getElem?_map] at hd
    obtain ⟨q', hq, rfl⟩ := Option.map_eq_some_iff.mp hd
    have hql : q < ps.length - 2 := by have := (List.getElem?_eq_some_iff.mp hq).1; simpa using this
    have hq : q' = q := by rw [List.getElem?_range hql] at hq; exact (Option.some.inj hq).symm
    subst hq
    have e3 : rngD (.int 0) (.int (((q' + 2 : Nat) : Int) - 1)) = some ((List.range (q' + 1)).map nD) := by
      rw [show (((q' + 2 : Nat) : Int) - 1) = ((q' + 1 : Nat) : Int) by omega]
      exact rgN (by omega)
    simp only [wpA, wpB, wpC, we_callr, reread, List.length_cons, List.length_nil, List.map_cons, List.map_nil, Option.bind_some, id, Nat.reduceAdd, Nat.reduceLT, if_true, if_pos, true_and, and_true, reduceIte, Bool.not_true, Bool.not_false, decide_true, decide_false, List.getElem?_cons_zero, List.getElem?_cons_succ, E.wr, wrL, List.append_nil, List.nil_append, List.singleton_append, List.cons_append, e3]
    refine ws_for (fun r n => (∃ x2 x3 x4, n = [some (.lst (ps.map .int)), some (.int ((q' + 2 : Nat) : Int)), x2, x3, x4]) ∧ ∀ i j : Nat, i < j → j < q' + 2 → i < r → ps.getD j 2 % ((Int.gcd (ps.getD i 2) (ps.getD (q' + 2) 2) : Nat) : Int) = 0) ⟨⟨_, _, _, rfl⟩, fun i j _ _ h => by omega⟩ ?_ ?_
    · rintro r d n hd ⟨⟨x2, x3, x4, rfl⟩, hI⟩
      obtain ⟨i, hi, rfl⟩ := row_at hd
      have hrl : r < q' + 1 := by have := (List.getElem?_eq_some_iff.mp hi).1; simpa using this
      have hi : i = r := by rw [List.getElem?_range hrl] at hi; exact (Option.some.inj hi).symm
      subst hi
      have g := h0 (ps.getD i 2) (ps.getD (q' + 2) 2) (by have := (pit_at hp i).1; omega) (by have := (pit_at hp (q' + 2)).1; omega)
      have gp := gcd_posI (b := ps.getD (q' + 2) 2) (pit_at hp i).1
      simp only [wpA, wpB, wpC, we_callr, reread, List.length_cons, List.length_nil, List.map_cons, List.map_nil, Option.bind_some, id, Nat.reduceAdd, Nat.reduceLT, if_true, if_pos, true_and, and_true, reduceIte, Bool.not_true, Bool.not_false, decide_true, decide_false, List.getElem?_cons_zero, List.getElem?_cons_succ, E.wr, wrL, List.append_nil, List.nil_append, List.singleton_append, List.cons_append, lAt2 (show i < ps.length by omega), lAt2 (show q' + 2 < ps.length by omega), g, we_opt (show (E.bin Bop.add (E.var 2) (E.cst (D.int 1))).isNo = false from rfl), we_opt (show (E.var 1).isNo = false from rfl), show ((i : Int) + 1) = ((i + 1 : Nat) : Int) from rfl, cutN (l := ps.map D.int) (show i + 1 ≤ q' + 2 by omega) (show q' + 2 ≤ (ps.map D.int).length by rw [List.length_map]; omega)]
      generalize hG : ((Int.gcd (ps.getD i 2) (ps.getD (q' + 2) 2) : Nat) : Int) = G at gp
      have hm : ∀ x, x ∈ (ps.drop (i + 1)).take (q' + 2 - (i + 1)) ↔ ∃ j, i < j ∧ j < q' + 2 ∧ ps.getD j 2 = x := fun x => by
        rw [List.mem_take_iff_getElem]
        constructor
        · rintro ⟨m, hm, rfl⟩
          refine ⟨i + 1 + m, by omega, by omega, ?_⟩
          have hm2 : i + 1 + m < ps.length := by omega
          simp [List.getD_eq_getElem?_getD, hm2]
        · rintro ⟨j, h1, h2, rfl⟩
          refine ⟨j - (i + 1), by simp; omega, ?_⟩
          have hj : j < ps.length := by omega
          simp [List.getD_eq_getElem?_getD, hj, show i + 1 + (j - (i + 1)) = j by omega]
      rw [← List.map_drop, ← List.map_take]
      refine wc_pure (fun d => match d with | .int x => !decide (x % G = 0) | _ => false) (fun _ => .int 1) _ _ (by simp [big]; omega) ?_ ?_
      · intro d hd
        obtain ⟨x, hx, rfl⟩ := List.mem_map.mp hd
        simp only [wpA, wpB, wpC, we_callr, reread, List.length_cons, List.length_nil, List.map_cons, List.map_nil, Option.bind_some, id, Nat.reduceAdd, Nat.reduceLT, if_true, if_pos, true_and, and_true, reduceIte, Bool.not_true, Bool.not_false, decide_true, decide_false, List.getElem?_cons_zero, List.getElem?_cons_succ, E.wr, wrL, List.append_nil, List.nil_append, List.singleton_append, List.cons_append, wc_some (show (E.cmp Cop.ne (E.bin Bop.mod (E.var 4) (E.var 3)) (E.cst (D.int 0))).isNo = false from rfl)]
        exact ⟨gp, by simp⟩
      · intro n'
        have e : ((((ps.drop (i + 1)).take (q' + 2 - (i + 1))).map D.int).filter fun d => match d with | .int x => !decide (x % G = 0) | _ => false).map (fun _ => D.int 1) = ((((ps.drop (i + 1)).take (q' + 2 - (i + 1))).filter fun x => !decide (x % G = 0)).map fun _ => (1 : Int)).map D.int := by
          rw [List.filter_map, List.map_map, List.map_map]
          rfl
        rw [e]
        simp only [wpA, wpB, wpC, we_callr, reread, List.length_cons, List.length_nil, List.map_cons, List.map_nil, Option.bind_some, id, Nat.reduceAdd, Nat.reduceLT, if_true, if_pos, true_and, and_true, reduceIte, Bool.not_true, Bool.not_false, decide_true, decide_false, List.getElem?_cons_zero, List.getElem?_cons_succ, E.wr, wrL, List.append_nil, List.nil_append, List.singleton_append, List.cons_append, ne_nil0]
        refine ⟨by decide, ?_⟩
        by_cases hx : ((ps.drop (i + 1)).take (q' + 2 - (i + 1))).filter (fun x => !decide (x % G = 0)) = []
        · rw [hx]
          simp only [List.map_nil, decide_true, Bool.not_true, Bool.false_eq_true, if_false]
          refine ⟨⟨_, _, _, rfl⟩, fun i2 j h1 h2 h3 => ?_⟩
          by_cases hii : i2 = i
          · subst hii
            rw [List.filter_eq_nil_iff] at hx
            have := hx _ ((hm (ps.getD j 2)).mpr ⟨j, h1, h2, rfl⟩)
            rw [hG]
            simpa using this
          · exact hI i2 j h1 h2 (by omega)
        · have : (!decide ((((ps.drop (i + 1)).take (q' + 2 - (i + 1))).filter fun x => !decide (x % G = 0)).map (fun _ => (1 : Int)) = [])) = true := by simpa using hx
          rw [if_pos this]
          obtain ⟨x, t, ex⟩ := List.exists_cons_of_ne_nil hx
          have hxm : x ∈ ((ps.drop (i + 1)).take (q' + 2 - (i + 1))).filter (fun x => !decide (x % G = 0)) := by rw [ex]; exact List.mem_cons_self
          obtain ⟨q1, q2⟩ := List.mem_filter.mp hxm
          obtain ⟨j, j1, j2, rfl⟩ := (hm x).mp q1
          refine ⟨fun h => (by cases h), fun h => ?_⟩
          have := h i j (q' + 2) j1 j2 (by omega)
          rw [hG] at this
          have q3 : (!decide (ps.getD j 2 % G = 0)) = true := q2
          rw [this] at q3
          exact absurd q3 (by decide)
    · rintro n ⟨⟨x2, x3, x4, rfl⟩, hI⟩
      refine ⟨⟨_, _, _, _, rfl⟩, fun i j k h1 h2 h3 h4 => ?_⟩
      by_cases hk : k = q' + 2
      · subst hk
        exact hI i j h1 h2 (by simp; omega)
      · exact hE i j k h1 h2 (by omega) h4
  · rintro n ⟨⟨x1, x2, x3, x4, rfl⟩, hE⟩
    simp only [wpA, wpB, wpC, we_callr, reread, List.length_cons, List.length_nil, List.map_cons, List.map_nil, Option.bind_some, id, Nat.reduceAdd, Nat.reduceLT, if_true, if_pos, true_and, and_true, reduceIte, Bool.not_true, Bool.not_false, decide_true, decide_false, List.getElem?_cons_zero, List.getElem?_cons_succ, E.wr, wrL, List.append_nil, List.nil_append, List.singleton_append, List.cons_append]
    exact ⟨fun _ i j k h1 h2 h3 => hE i j k h1 h2 (by simp; omega) h3, fun _ => trivial⟩
theorem ev_dup {ps : List Int} (h : Ev ps) (hp : Pit ps) (hne : ps ≠ []) : Ev (ps ++ [ps.getD (ps.length - 1) 2]) := fun i j k h1 h2 h3 => by
  have hl := List.length_pos_iff.mpr hne
  have g : ∀ m, m < ps.length → (ps ++ [ps.getD (ps.length - 1) 2]).getD m 2 = ps.getD m 2 := fun m hm => by
    simp [List.getD_eq_getElem?_getD, List.getElem?_append_left hm]
  rw [List.length_append, List.length_singleton] at h3
  by_cases hk : k < ps.length
  · rw [g j (by omega), g i (by omega), g k hk]
    exact h i j k h1 h2 hk
  · have hk : k = ps.length := by omega
    subst hk
    have e : (ps ++ [ps.getD (ps.length - 1) 2]).getD ps.length 2 = ps.getD (ps.length - 1) 2 := by
      simp [List.getD_eq_getElem?_getD]
    rw [e, g j (by omega), g i (by omega)]
    by_cases hj : j = ps.length - 1
    · subst hj
      exact Int.emod_eq_zero_of_dvd (Int.gcd_dvd_right ..)
    · exact h i j (ps.length - 1) h1 (by omega) (by omega)
theorem ev_short {ps : List Int} (h : ps.length ≤ 2) : Ev ps := fun i j k h1 h2 h3 => by omega
theorem appL {l : List Int} {x : Int} : (l.map D.int) ++ [.int x] = (l ++ [x]).map D.int := by rw [List.map_append]; rfl
theorem lastL {l : List Int} (h : l ≠ []) : idxD (.lst (l.map D.int)) (.int (-1)) = some (.int (l.getD (l.length - 1) 2)) := by
  rw [ixL, atLast (by simpa using h), List.getLast?_map, List.getLast?_eq_getElem?]
  have := List.length_pos_iff.mpr h
  rw [getD_at (a := 2) (show l.length - 1 < l.length by omega)]
  rfl
theorem mem_ix {l : List Int} {r : Int} (h0 : 0 ≤ r) (h1 : r < l.length) : ∃ x, x ∈ l ∧ idxD (.lst (l.map D.int)) (.int r) = some (.int x) := by
  have hr : r.toNat < l.length := by omega
  refine ⟨l[r.toNat], List.getElem_mem hr, ?_⟩
  rw [ixL, atP h0, List.getElem?_map, List.getElem?_eq_getElem hr]; rfl
def PitchesOk (F : Fn) : Prop := ∀ p b (m : Nat), Pen p b → b < 2 ^ 28 → m ≤ 1000 → WR (F [p, .int (m : Int)]) fun d o => ∃ ps p', d = .lst (ps.map .int) ∧ o = [p'] ∧ Pen p' (b + (2 * m + 2)) ∧ ps.length = m ∧ Pit ps ∧ Ev ps
theorem pitches_ok {Φ : Fns} (h0 : DrawOk (Φ 0)) (h1 : IsEvenOk (Φ 1)) : PitchesOk (Li.wPitches.run Φ) := fun p b m hp hb hm => by
  refine wr_run rfl (by have := hp.isL (r := [some (.int (m : Int))]); simp [Li.wPitches, this]) ?_
  show WS Φ Li.wPitches.body [some p, some (.int (m : Int)), none, none, none, none, none] _
  unfold Li.wPitches
  simp only [wpA, wpB, wpC, we_callr, reread, List.length_cons, List.length_nil, List.map_cons, List.map_nil, Option.bind_some, id, Nat.reduceAdd, Nat.reduceLT, if_true, if_pos, true_and, and_true, reduceIte, Bool.not_true, Bool.not_false, decide_true, decide_false, List.getElem?_cons_zero, List.getElem?_cons_succ, E.wr, wrL, List.append_nil, List.nil_append, List.singleton_append, List.cons_append]
  refine h0.use hp (by omega) (by decide) (by decide) fun way p1 P1 w0 w1 => ?_
  simp only [wpA, wpB, wpC, we_callr, reread, List.length_cons, List.length_nil, List.map_cons, List.map_nil, Option.bind_some, id, Nat.reduceAdd, Nat.reduceLT, if_true, if_pos, true_and, and_true, reduceIte, Bool.not_true, Bool.not_false, decide_true, decide_false, List.getElem?_cons_zero, List.getElem?_cons_succ, E.wr, wrL, List.append_nil, List.nil_append, List.singleton_append, List.cons_append]
  refine ⟨by decide, ?_⟩
  refine h0.use P1 (by omega) (by decide) (by decide) fun r2 p2 P2 a0 a1 => ?_
  obtain ⟨base, hbm, eb⟩ := mem_ix (l := [1, 2, 3, 4, 6, 8]) a0 a1
  have eb : idxD (.lst [.int 1, .int 2, .int 3, .int 4, .int 6, .int 8]) (.int r2) = some (.int base) := eb
  have hb1 : 1 ≤ base ∧ base ≤ 8 := by
    simp only [List.mem_cons, List.not_mem_nil, or_false] at hbm
    rcases hbm with rfl | rfl | rfl | rfl | rfl | rfl <;> omega
  rw [ixL] at eb
  simp only [wpA, wpB, wpC, we_callr, reread, List.length_cons, List.length_nil, List.map_cons, List.map_nil, Option.bind_some, id, Nat.reduceAdd, Nat.reduceLT, if_true, if_pos, true_and, and_true, reduceIte, Bool.not_true, Bool.not_false, decide_true, decide_false, List.getElem?_cons_zero, List.getElem?_cons_succ, E.wr, wrL, List.append_nil, List.nil_append, List.singleton_append, List.cons_append, eb, rgN (show m ≤ 16777216 by omega)]
  refine ⟨by decide, ?_⟩
  refine ws_for (fun i n => ∃ q ps x5 x6, n = [some q, some (.int (m : Int)), some (.int way), some (.int base), some (.lst (ps.map .int)), x5, x6] ∧ Pen q (b + (2 * i + 2)) ∧ ps.length = i ∧ Pit ps ∧ Ev ps) ⟨_, [], _, _, rfl, P2, rfl, fun x hx => by simp at hx, ev_short (by simp)⟩ ?_ ?_
  · rintro i d n hd ⟨q, ps, x5, x6, rfl, Q, lq, hpit, hev⟩
    obtain ⟨k, hk, rfl⟩ := row_at hd
    have hi : i < m := by have := (List.getElem?_eq_some_iff.mp hk).1; simpa using this
    have hf : 0 < 64 / base := Int.le_ediv_of_mul_le (by omega) (by omega)
    have hf2 : 64 / base ≤ 64 := Int.ediv_le_self _ (by omega)
    -- what follows, of whatever pitch
    have fin : ∀ (q' : D) (x : Int) (x5 : Option D), Pen q' (b + (2 * (i + 1) + 2)) → 2 ≤ x → x ≤ 64 → WS Φ [.ite (.nt (.call 1 [.bin .add (.var 4) (.lst [.var 6])] [])) [.asg 6 (.idx (.var 4) (.neg (.cst (.int 1))))] [], .mut .append 4 [.var 6]] [some q', some (.int (m : Int)), some (.int way), some (.int base), some (.lst (ps.map .int)), x5, some (.int x)]
        { nx := fun n => ∃ q ps x5 x6, n = [some q, some (.int (m : Int)), some (.int way), some (.int base), some (.lst (ps.map .int)), x5, x6] ∧ Pen q (b + (2 * (i + 1) + 2)) ∧ ps.length = i + 1 ∧ Pit ps ∧ Ev ps, rt := fun _ _ => False } := fun q' x x5 Q' hx2 hx3 => by
      have hp2 : Pit (ps ++ [x]) := fun y hy => by
        rcases List.mem_append.mp hy with h | h
        · exact hpit y h
        · simp at h; subst h; exact ⟨hx2, hx3⟩
      obtain ⟨t, et, ht⟩ := h1 (ps ++ [x]) hp2 (by simp; omega)
      simp only [wpA, wpB, wpC, we_callr, reread, List.length_cons, List.length_nil, List.map_cons, List.map_nil, Option.bind_some, id, Nat.reduceAdd, Nat.reduceLT, if_true, if_pos, true_and, and_true, reduceIte, Bool.not_true, Bool.not_false, decide_true, decide_false, List.getElem?_cons_zero, List.getElem?_cons_succ, E.wr, wrL, List.append_nil, List.nil_append, List.singleton_append, List.cons_append, appL, et]
      refine ⟨by decide, by simp [big]; omega, ?_⟩
      cases t with
      | true =>
        simp only [Bool.not_true, Bool.false_eq_true, if_false]
        refine ⟨by simp [big]; omega, q', ps ++ [x], _, _, rfl, Q', by simp [lq], hp2, ht.mp rfl⟩
      | false =>
        simp only [Bool.not_false, if_true]
        have hne : ps ≠ [] := fun e => by
          subst e
          have := ht.mpr (ev_short (by simp))
          cases this
        rw [show (-1 : Int) = -1 from rfl]
        have el := lastL hne
        rw [ixL] at el
        simp only [wpA, wpB, wpC, we_callr, reread, List.length_cons, List.length_nil, List.map_cons, List.map_nil, Option.bind_some, id, Nat.reduceAdd, Nat.reduceLT, if_true, if_pos, true_and, and_true, reduceIte, Bool.not_true, Bool.not_false, decide_true, decide_false, List.getElem?_cons_zero, List.getElem?_cons_succ, E.wr, wrL, List.append_nil, List.nil_append, List.singleton_append, List.cons_append, el, appL]
        have hq := pit_at hpit (ps.length - 1)
        refine ⟨by simp [big]; omega, q', ps ++ [ps.getD (ps.length - 1) 2], _, _, rfl, Q', by simp [lq], fun y hy => ?_, ev_dup hev hpit hne⟩
        rcases List.mem_append.mp hy with h | h
        · exact hpit y h
        · simp at h; subst h; simpa [List.getD_eq_getElem?_getD] using hq
    refine WL.of rfl ?_
    refine ws_cut (fun n => ∃ (q' : D) (x : Int), n = [some q', some (.int (m : Int)), some (.int way), some (.int base), some (.lst (ps.map .int)), some (nD k), some (.int x)] ∧ Pen q' (b + (2 * i + 3)) ∧ 2 ≤ x ∧ x ≤ 64) ?_ ?_
    · show WS Φ _ [some q, some (.int (m : Int)), some (.int way), some (.int base), some (.lst (ps.map .int)), some (nD k), x6] _
      simp only [wpA, wpB, wpC, we_callr, reread, List.length_cons, List.length_nil, List.map_cons, List.map_nil, Option.bind_some, id, Nat.reduceAdd, Nat.reduceLT, if_true, if_pos, true_and, and_true, reduceIte, Bool.not_true, Bool.not_false, decide_true, decide_false, List.getElem?_cons_zero, List.getElem?_cons_succ, E.wr, wrL, List.append_nil, List.nil_append, List.singleton_append, List.cons_append]
      refine ⟨⟨by omega, pw4000 (k := 64) (by omega) (by decide)⟩, ?_⟩
      refine h0.use Q (by omega) hf (by omega) fun r p3 P3 c0 c1 => ?_
      have hmul : base * (1 + r) ≤ 64 := by
        have h1 : base * (1 + r) ≤ base * (64 / base) := Int.mul_le_mul_of_nonneg_left (by omega) (by omega)
        have h2 := Int.mul_ediv_self_le (x := 64) (k := base) (by omega)
        omega
      have hmul0 : 0 ≤ base * (1 + r) := Int.mul_nonneg (by omega) (by omega)
      simp only [wpA, wpB, wpC, we_callr, reread, List.length_cons, List.length_nil, List.map_cons, List.map_nil, Option.bind_some, id, Nat.reduceAdd, Nat.reduceLT, if_true, if_pos, true_and, and_true, reduceIte, Bool.not_true, Bool.not_false, decide_true, decide_false, List.getElem?_cons_zero, List.getElem?_cons_succ, E.wr, wrL, List.append_nil, List.nil_append, List.singleton_append, List.cons_append]
      exact ⟨mulL (by omega), p3, _, rfl, P3.up (by omega), by split <;> omega, by split <;> omega⟩
    rintro _ ⟨q1, x, rfl, Q1, y1, y2⟩
    refine ws_cut (fun n => ∃ (q' : D) (x : Int) (c : Nat), n = [some q', some (.int (m : Int)), some (.int way), some (.int base), some (.lst (ps.map .int)), some (nD k), some (.int x)] ∧ Pen q' c ∧ c ≤ b + (2 * i + 4) ∧ (way = 1 → c ≤ b + (2 * i + 3)) ∧ 2 ≤ x ∧ x ≤ 64) ?_ ?_
    · simp only [wpA, wpB, wpC, we_callr, reread, List.length_cons, List.length_nil, List.map_cons, List.map_nil, Option.bind_some, id, Nat.reduceAdd, Nat.reduceLT, if_true, if_pos, true_and, and_true, reduceIte, Bool.not_true, Bool.not_false, decide_true, decide_false, List.getElem?_cons_zero, List.getElem?_cons_succ, E.wr, wrL, List.append_nil, List.nil_append, List.singleton_append, List.cons_append]
      by_cases hw : way = 0
      · rw [if_pos (by simpa using hw)]
        refine ⟨by decide, ?_⟩
        refine h0.use Q1 (by omega) (by decide) (by decide) fun r p3 P3 c0 c1 => ?_
        obtain ⟨z, hz, ez⟩ := mem_ix (l := [2, 4, 8, 16, 32, 64]) c0 c1
        have ez : idxD (.lst [.int 2, .int 4, .int 8, .int 16, .int 32, .int 64]) (.int r) = some (.int z) := ez
        rw [ixL] at ez
        have hz1 : 2 ≤ z ∧ z ≤ 64 := by
          simp only [List.mem_cons, List.not_mem_nil, or_false] at hz
          rcases hz with rfl | rfl | rfl | rfl | rfl | rfl <;> omega
        simp only [wpA, wpB, wpC, we_callr, reread, List.length_cons, List.length_nil, List.map_cons, List.map_nil, Option.bind_some, id, Nat.reduceAdd, Nat.reduceLT, if_true, if_pos, true_and, and_true, reduceIte, Bool.not_true, Bool.not_false, decide_true, decide_false, List.getElem?_cons_zero, List.getElem?_cons_succ, E.wr, wrL, List.append_nil, List.nil_append, List.singleton_append, List.cons_append, ez]
        exact ⟨p3, z, _, rfl, P3, by omega, fun h => by omega, hz1.1, hz1.2⟩
      · rw [if_neg (by simpa using hw)]
        exact ⟨q1, x, _, rfl, Q1, by omega, fun _ => by omega, y1, y2⟩
    rintro _ ⟨q2, x, c, rfl, Q2, hc1, hc2, y1, y2⟩
    refine ws_cut (fun n => ∃ (q' : D) (x : Int), n = [some q', some (.int (m : Int)), some (.int way), some (.int base), some (.lst (ps.map .int)), some (nD k), some (.int x)] ∧ Pen q' (b + (2 * i + 4)) ∧ 2 ≤ x ∧ x ≤ 64) ?_ ?_
    · simp only [wpA, wpB, wpC, we_callr, reread, List.length_cons, List.length_nil, List.map_cons, List.map_nil, Option.bind_some, id, Nat.reduceAdd, Nat.reduceLT, if_true, if_pos, true_and, and_true, reduceIte, Bool.not_true, Bool.not_false, decide_true, decide_false, List.getElem?_cons_zero, List.getElem?_cons_succ, E.wr, wrL, List.append_nil, List.nil_append, List.singleton_append, List.cons_append]
      by_cases hw : way = 1
      · rw [if_pos (by simpa using hw)]
        have := hc2 hw
        refine ⟨by decide, ?_⟩
        refine h0.use Q2 (by omega) (by decide) (by decide) fun r p3 P3 c0 c1 => ?_
        obtain ⟨z, hz, ez⟩ := mem_ix (l := [2, 3, 4, 6, 8, 9, 12, 16, 18, 24, 36, 48, 54]) c0 c1
        have ez : idxD (.lst [.int 2, .int 3, .int 4, .int 6, .int 8, .int 9, .int 12, .int 16, .int 18, .int 24, .int 36, .int 48, .int 54]) (.int r) = some (.int z) := ez
        rw [ixL] at ez
        have hz1 : 2 ≤ z ∧ z ≤ 64 := by
          simp only [List.mem_cons, List.not_mem_nil, or_false] at hz
          rcases hz with rfl | rfl | rfl | rfl | rfl | rfl | rfl | rfl | rfl | rfl | rfl | rfl | rfl <;> omega
        simp only [wpA, wpB, wpC, we_callr, reread, List.length_cons, List.length_nil, List.map_cons, List.map_nil, Option.bind_some, id, Nat.reduceAdd, Nat.reduceLT, if_true, if_pos, true_and, and_true, reduceIte, Bool.not_true, Bool.not_false, decide_true, decide_false, List.getElem?_cons_zero, List.getElem?_cons_succ, E.wr, wrL, List.append_nil, List.nil_append, List.singleton_append, List.cons_append, ez]
        exact ⟨p3, z, rfl, P3.up (by omega), hz1.1, hz1.2⟩
      · rw [if_neg (by simpa using hw)]
        exact ⟨q2, x, rfl, Q2.up (by omega), y1, y2⟩
    rintro _ ⟨q3, x, rfl, Q3, y1, y2⟩
    refine WF.mono (fin q3 x _ (Q3.up (by omega)) y1 y2) (fun n h => h) (fun _ _ h => h.elim) (fun _ h => h.elim) (fun _ h => h.elim)
  · rintro n ⟨q, ps, x5, x6, rfl, Q, lq, hpit, hev⟩
    rw [List.length_map, List.length_range] at Q lq
    simp only [wpA, wpB, wpC, we_callr, reread, List.length_cons, List.length_nil, List.map_cons, List.map_nil, Option.bind_some, id, Nat.reduceAdd, Nat.reduceLT, if_true, if_pos, true_and, and_true, reduceIte, Bool.not_true, Bool.not_false, decide_true, decide_false, List.getElem?_cons_zero, List.getElem?_cons_succ, E.wr, wrL, List.append_nil, List.nil_append, List.singleton_append, List.cons_append]
    exact ⟨ps, q, rfl, rfl, Q, lq, hpit, hev⟩
end Sc
namespace Sc
open PySem PySem.Spec PyProof.Rows L2
structure HsOk (h : Nat) (cs : List (Int × Int)) : Prop where
  h1 : 1 ≤ h
  h3 : h ≤ 3
  c1 : 1 ≤ cs.length
  c7 : cs.length ≤ 7
  c : ∀ c ∈ cs, combOk c
theorem HsOk.cs {h : Nat} {cs : List (Int × Int)} (q : HsOk h cs) : Cs' cs := ⟨q.c, by have := q.c7; omega⟩
theorem rr_pen {p p' : D} {b : Nat} {r : Env} (h : Pen p' b) : rr1 (.var 0) [0] (some p' :: r) p = p' := by
  have := h.isL (r := r)
  simp only [rr1]
  rw [this]
  rfl
theorem rr_bin {o : Bop} {x y : E} {io : List Nat} {n : Env} {d : D} : rr1 (.bin o x y) io n d = d := rfl
theorem rr_cst {x : D} {io : List Nat} {n : Env} {d : D} : rr1 (.cst x) io n d = d := rfl
def EvHouseOk (F : Fn) (most : Nat) : Prop := ∀ p b, Pen p b → b < 2 ^ 27 → WR (F [p, .int (most : Int)]) fun d o => ∃ (h : Nat) (cs : List (Int × Int)) (p' : D), d = houseD (h : Int) cs ∧ o = [p'] ∧ Pen p' (b + (3 * most + 8)) ∧ HsOk h cs ∧ cs.length ≤ most ∧ (∀ c ∈ cs, c.2 < c.1) ∧ Ev (cs.map Prod.fst)
theorem evHouse_ok {Φ : Fns} (h0 : PitchesOk (Φ 0)) (h1 : DrawOk (Φ 1)) {most : Nat} (hm : 0 < most) (hm2 : most ≤ 7) : EvHouseOk (Li.wHouse.run Φ) most := fun p b hp hb => by
  refine wr_run rfl (by have := hp.isL (r := [some (.int (most : Int))]); simp [Li.wHouse, this]) ?_
  show WS Φ Li.wHouse.body [some p, some (.int (most : Int)), none, none, none, none] _
  unfold Li.wHouse
  simp only [wpA, wpB, wpC, we_callr, reread, List.length_cons, List.length_nil, List.map_cons, List.map_nil, Option.bind_some, id, Nat.reduceAdd, Nat.reduceLT, if_true, if_pos, true_and, and_true, reduceIte, Bool.not_true, Bool.not_false, decide_true, decide_false, List.getElem?_cons_zero, List.getElem?_cons_succ, E.wr, wrL, List.append_nil, List.nil_append, List.singleton_append, List.cons_append]
  refine h1.use hp (by omega) (by omega) (by omega) fun r p1 P1 a0 a1 => ?_
  simp only [wpA, wpB, wpC, we_callr, reread, List.length_cons, List.length_nil, List.map_cons, List.map_nil, Option.bind_some, id, Nat.reduceAdd, Nat.reduceLT, if_true, if_pos, true_and, and_true, reduceIte, Bool.not_true, Bool.not_false, decide_true, decide_false, List.getElem?_cons_zero, List.getElem?_cons_succ, E.wr, wrL, List.append_nil, List.nil_append, List.singleton_append, List.cons_append, rr_pen P1, rr_bin]
  obtain ⟨m, hmm, er⟩ : ∃ m : Nat, (1 ≤ m ∧ m ≤ most) ∧ 1 + r = (m : Int) := ⟨(1 + r).toNat, by omega, by omega⟩
  rw [er]
  refine (h0 p1 (b + 1) m P1 (by omega) (by omega)).mono ?_
  rintro _ _ ⟨ps, p2, rfl, rfl, P2, lp, hpit, hev⟩
  simp only [wpA, wpB, wpC, we_callr, reread, List.length_cons, List.length_nil, List.map_cons, List.map_nil, Option.bind_some, id, Nat.reduceAdd, Nat.reduceLT, if_true, if_pos, true_and, and_true, reduceIte, Bool.not_true, Bool.not_false, decide_true, decide_false, List.getElem?_cons_zero, List.getElem?_cons_succ, E.wr, wrL, List.append_nil, List.nil_append, List.singleton_append, List.cons_append]
  refine h1.use P2 (by omega) (by decide) (by decide) fun pl p3 P3 c0 c1 => ?_
  simp only [wpA, wpB, wpC, we_callr, reread, List.length_cons, List.length_nil, List.map_cons, List.map_nil, Option.bind_some, id, Nat.reduceAdd, Nat.reduceLT, if_true, if_pos, true_and, and_true, reduceIte, Bool.not_true, Bool.not_false, decide_true, decide_false, List.getElem?_cons_zero, List.getElem?_cons_succ, E.wr, wrL, List.append_nil, List.nil_append, List.singleton_append, List.cons_append]
  refine wc_ind (fun i acc n => ∃ (q : D) (x5 : Option D) (ss : List Int), n = [some q, some (.int (most : Int)), some (.lst (ps.map .int)), some (.int pl), none, x5] ∧ Pen q (b + 1 + (2 * m + 2) + 1 + i) ∧ acc = ss.map .int ∧ ss.length = i ∧ ∀ j < i, 1 ≤ ss.getD j 0 ∧ ss.getD j 0 < ps.getD j 2) _ _ ⟨p3, none, [], rfl, P3, rfl, rfl, fun j hj => by omega⟩ (by simp [big]; omega) ?_ ?_
  · rintro i d acc n hd ⟨q, x5, ss, rfl, Q, rfl, ls, hs⟩
    rw [List.getElem?_map] at hd
    obtain ⟨x, hx, rfl⟩ := Option.map_eq_some_iff.mp hd
    have hi : i < ps.length := (List.getElem?_eq_some_iff.mp hx).1
    have ex : ps.getD i 2 = x := by rw [List.getD_eq_getElem?_getD, hx]; rfl
    have hx2 := pit_at hpit i
    rw [ex] at hx2
    simp only [wpA, wpB, wpC, we_callr, reread, List.length_cons, List.length_nil, List.map_cons, List.map_nil, Option.bind_some, id, Nat.reduceAdd, Nat.reduceLT, if_true, if_pos, true_and, and_true, reduceIte, Bool.not_true, Bool.not_false, decide_true, decide_false, List.getElem?_cons_zero, List.getElem?_cons_succ, E.wr, wrL, List.append_nil, List.nil_append, List.singleton_append, List.cons_append]
    refine h1.use Q (by omega) (by omega) (by omega) fun r5 p5 P5 d0 d1 => ?_
    simp only [wpA, wpB, wpC, we_callr, reread, List.length_cons, List.length_nil, List.map_cons, List.map_nil, Option.bind_some, id, Nat.reduceAdd, Nat.reduceLT, if_true, if_pos, true_and, and_true, reduceIte, Bool.not_true, Bool.not_false, decide_true, decide_false, List.getElem?_cons_zero, List.getElem?_cons_succ, E.wr, wrL, List.append_nil, List.nil_append, List.singleton_append, List.cons_append]
    refine ⟨mulL (by omega), p5, _, ss ++ [1 + pl * r5], rfl, P5, by rw [List.map_append]; rfl, by simp [ls], fun j hj => ?_⟩
    by_cases e : j = i
    · subst e
      have e1 : (ss ++ [1 + pl * r5]).getD j 0 = 1 + pl * r5 := by simp [List.getD_eq_getElem?_getD, ls]
      rw [e1, ex]
      have : pl = 0 ∨ pl = 1 := by omega
      rcases this with h | h <;> subst h <;> omega
    · have e1 : (ss ++ [1 + pl * r5]).getD j 0 = ss.getD j 0 := by simp [List.getD_eq_getElem?_getD, List.getElem?_append_left (show j < ss.length by omega)]
      rw [e1]
      exact hs j (by omega)
  · rintro acc n ⟨q, x5, ss, rfl, Q, rfl, ls, hs⟩
    rw [List.length_map] at Q ls hs
    simp only [wpA, wpB, wpC, we_callr, reread, List.length_cons, List.length_nil, List.map_cons, List.map_nil, Option.bind_some, id, Nat.reduceAdd, Nat.reduceLT, if_true, if_pos, true_and, and_true, reduceIte, Bool.not_true, Bool.not_false, decide_true, decide_false, List.getElem?_cons_zero, List.getElem?_cons_succ, E.wr, wrL, List.append_nil, List.nil_append, List.singleton_append, List.cons_append]
    refine ⟨by decide, ?_⟩
    refine h1.use Q (by omega) (by decide) (by decide) fun r6 p6 P6 f0 f1 => ?_
    obtain ⟨hz, hzm, ez⟩ := mem_ix (l := [1, 1, 2, 3]) f0 f1
    have ez : idxD (.lst [.int 1, .int 1, .int 2, .int 3]) (.int r6) = some (.int hz) := ez
    rw [ixL] at ez
    have hz1 : 1 ≤ hz ∧ hz ≤ 3 := by
      simp only [List.mem_cons, List.not_mem_nil, or_false] at hzm
      rcases hzm with rfl | rfl | rfl | rfl <;> omega
    simp only [wpA, wpB, wpC, we_callr, reread, List.length_cons, List.length_nil, List.map_cons, List.map_nil, Option.bind_some, id, Nat.reduceAdd, Nat.reduceLT, if_true, if_pos, true_and, and_true, reduceIte, Bool.not_true, Bool.not_false, decide_true, decide_false, List.getElem?_cons_zero, List.getElem?_cons_succ, E.wr, wrL, List.append_nil, List.nil_append, List.singleton_append, List.cons_append, ez]
    have hzip : ∀ c ∈ ps.zip ss, combOk c ∧ c.2 < c.1 := fun c hc => by
      obtain ⟨j, hj, rfl⟩ := List.mem_iff_getElem.mp hc
      rw [List.length_zip] at hj
      rw [List.getElem_zip]
      have h1 := hs j (by omega)
      have h2 := pit_at hpit j
      have e1 : ps.getD j 2 = ps[j]'(by omega) := by simp [List.getD_eq_getElem?_getD, show j < ps.length by omega]
      have e2 : ss.getD j 0 = ss[j]'(by omega) := by simp [List.getD_eq_getElem?_getD, show j < ss.length by omega]
      rw [e1] at h1 h2
      rw [e2] at h1
      exact ⟨⟨h2.1, h2.2, h1.1, by show ss[j] ≤ 64; omega⟩, h1.2⟩
    refine ⟨by decide, hz.toNat, ps.zip ss, p6, ?_, rfl, P6.up (by omega), ⟨by omega, by omega, by rw [List.length_zip]; omega, by rw [List.length_zip]; omega, fun c hc => (hzip c hc).1⟩, by rw [List.length_zip]; omega, fun c hc => (hzip c hc).2, ?_⟩
    · rw [zip_combs rfl rfl]
      unfold houseD
      rw [show ((hz.toNat : Nat) : Int) = hz by omega]
    · rw [List.map_fst_zip (by omega)]
      exact hev
/-! ### valleys -/
def low (cs : List (Int × Int)) (i j k : Nat) : Bool := !decide (P cs j % com cs i k = 0)
def lowR (cs : List (Int × Int)) (row : List Nat) : Bool := low cs (row.getD 0 0) (row.getD 1 0) (row.getD 2 0)
def vly (cs : List (Int × Int)) : Option (List Nat) := (grps cs.length 3).find? (lowR cs)
def vlyD : Option (List Nat) → D
  | none => .non
  | some r => rowD r
def LowOk (F : Fn) : Prop := ∀ h cs (i j k : Nat), Cs' cs → i < cs.length → j < cs.length → k < cs.length → F [houseD h cs, .int (i : Int), .int (j : Int), .int (k : Int)] = .ok (.bl (low cs i j k)) []
theorem isLow_ok {Φ : Fns} (h0 : CommonOk (Φ 0)) : LowOk (Li.isLow.run Φ) := fun h cs i j k hc hi hj hk => by
  refine eq_of_wr (wr_run rfl rfl ?_)
  show WS Φ Li.isLow.body [some (houseD h cs), some (.int (i : Int)), some (.int (j : Int)), some (.int (k : Int))] _
  unfold Li.isLow
  simp only [wpA, wpB, wpC, we_callr, reread, List.length_cons, List.length_nil, List.map_cons, List.map_nil, Option.bind_some, id, Nat.reduceAdd, Nat.reduceLT, if_true, if_pos, true_and, and_true, reduceIte, Bool.not_true, Bool.not_false, decide_true, decide_false, List.getElem?_cons_zero, List.getElem?_cons_succ, E.wr, wrL, List.append_nil, List.nil_append, List.singleton_append, List.cons_append, hCs, cAt hj, cPit, h0 h cs i k hc hi hk]
  exact ⟨com_pos hc i k, rfl⟩
theorem row3 {row : List Nat} (h : row.length = 3) : ∃ i j k, row = [i, j, k] := by
  match row, h with
  | [i, j, k], _ => exact ⟨i, j, k, rfl⟩
def ValleyOk (F : Fn) : Prop := ∀ h cs, Cs' cs → cs.length ≤ 7 → F [houseD h cs] = .ok (vlyD (vly cs)) []
theorem valley_ok {Φ : Fns} (h0 : GroupsOk (Φ 0)) (h1 : LowOk (Φ 1)) : ValleyOk (Li.valley.run Φ) := fun h cs hc hm => by
  refine eq_of_wr (wr_run rfl rfl ?_)
  show WS Φ Li.valley.body [some (houseD h cs), none, none, none] _
  unfold Li.valley
  have e3 : (3 : Int) = ((3 : Nat) : Int) := rfl
  simp only [wpA, wpB, wpC, we_callr, reread, List.length_cons, List.length_nil, List.map_cons, List.map_nil, Option.bind_some, id, Nat.reduceAdd, Nat.reduceLT, if_true, if_pos, true_and, and_true, reduceIte, Bool.not_true, Bool.not_false, decide_true, decide_false, List.getElem?_cons_zero, List.getElem?_cons_succ, E.wr, wrL, List.append_nil, List.nil_append, List.singleton_append, List.cons_append, hCs, chs (h := h)]
  rw [e3, h0 cs.length 3 hm (by decide)]
  simp only [wpA, wpB, wpC, we_callr, reread, List.length_cons, List.length_nil, List.map_cons, List.map_nil, Option.bind_some, id, Nat.reduceAdd, Nat.reduceLT, if_true, if_pos, true_and, and_true, reduceIte, Bool.not_true, Bool.not_false, decide_true, decide_false, List.getElem?_cons_zero, List.getElem?_cons_succ, E.wr, wrL, List.append_nil, List.nil_append, List.singleton_append, List.cons_append]
  refine ws_for (fun q n => (∃ a b c, n = [some (houseD h cs), a, b, c]) ∧ ((grps cs.length 3).drop q).find? (lowR cs) = vly cs) ⟨⟨_, _, _, rfl⟩, rfl⟩ ?_ ?_
  · rintro q d n hd ⟨⟨a, b, c, rfl⟩, hu⟩
    rw [List.getElem?_map] at hd
    obtain ⟨row, hrow, rfl⟩ := Option.map_eq_some_iff.mp hd
    have hql := (List.getElem?_eq_some_iff.mp hrow).1
    obtain ⟨g1, g2, g3⟩ := mem_grps.mp (List.mem_of_getElem? hrow)
    obtain ⟨i, j, k, rfl⟩ := row3 g1
    have ed : (grps cs.length 3).drop q = [i, j, k] :: (grps cs.length 3).drop (q + 1) := by
      rw [List.drop_eq_getElem_cons hql]
      rw [List.getElem?_eq_getElem hql] at hrow
      rw [Option.some.inj hrow]
    rw [ed, List.find?_cons] at hu
    unfold rowD
    simp only [List.map_cons, List.map_nil, nD]
    simp only [wpA, wpB, wpC, we_callr, reread, List.length_cons, List.length_nil, List.map_cons, List.map_nil, Option.bind_some, id, Nat.reduceAdd, Nat.reduceLT, if_true, if_pos, true_and, and_true, reduceIte, Bool.not_true, Bool.not_false, decide_true, decide_false, List.getElem?_cons_zero, List.getElem?_cons_succ, E.wr, wrL, List.append_nil, List.nil_append, List.singleton_append, List.cons_append, h1 h cs i j k hc (g3 i (by simp)) (g3 j (by simp)) (g3 k (by simp))]
    have el : lowR cs [i, j, k] = low cs i j k := rfl
    rw [el] at hu
    cases hb : low cs i j k with
    | true =>
      rw [hb] at hu
      rw [if_pos rfl]
      refine ⟨by decide, ?_⟩
      rw [← hu]
      rfl
    | false =>
      rw [hb] at hu
      rw [if_neg Bool.false_ne_true]
      exact ⟨⟨_, _, _, rfl⟩, hu⟩
  · rintro n ⟨⟨a, b, c, rfl⟩, hu⟩
    rw [List.length_map, List.drop_length] at hu
    simp only [wpA, wpB, wpC, we_callr, reread, List.length_cons, List.length_nil, List.map_cons, List.map_nil, Option.bind_some, id, Nat.reduceAdd, Nat.reduceLT, if_true, if_pos, true_and, and_true, reduceIte, Bool.not_true, Bool.not_false, decide_true, decide_false, List.getElem?_cons_zero, List.getElem?_cons_succ, E.wr, wrL, List.append_nil, List.nil_append, List.singleton_append, List.cons_append]
    rw [← hu]
    rfl
theorem isNon_vly {o : Option (List Nat)} : isNonD (vlyD o) = o.isNone := by
  cases o with
  | none => rfl
  | some p => rfl
def EvenOk (F : Fn) : Prop := ∀ h cs, Cs' cs → cs.length ≤ 7 → F [houseD h cs] = .ok (.bl (vly cs).isNone) []
theorem isEven_ok {Φ : Fns} (h0 : ValleyOk (Φ 0)) : EvenOk (Li.isEven.run Φ) := fun h cs hc hm => by
  refine eq_of_wr (wr_run rfl rfl ?_)
  show WS Φ Li.isEven.body [some (houseD h cs)] _
  unfold Li.isEven
  simp only [wpA, wpB, wpC, we_callr, reread, List.length_cons, List.length_nil, List.map_cons, List.map_nil, Option.bind_some, id, Nat.reduceAdd, Nat.reduceLT, if_true, if_pos, true_and, and_true, reduceIte, Bool.not_true, Bool.not_false, decide_true, decide_false, List.getElem?_cons_zero, List.getElem?_cons_succ, E.wr, wrL, List.append_nil, List.nil_append, List.singleton_append, List.cons_append, h0 h cs hc hm, isNon_vly]
end Sc
namespace Sc
open PySem PySem.Spec PyProof.Rows L2
def Li.gap : FnIR := ⟨7, 2, [], [], false, [
  .asgT (.tp [.nm 2, .nm 3, .nm 4]) (.var 1),
  .asg 5 (.call 0 [.call 1 [.var 0, .var 2, .var 3] [], .idx (.idx (.idx (.var 0) (.cst (.int 1))) (.var 4)) (.cst (.int 0))] []),
  .asg 6 (.cst (.int 0)),
  .wh (.cmp .ne (.bin .mod (.bin .sub (.var 6) (.var 5)) (.call 1 [.var 0, .var 3, .var 4] [])) (.cst (.int 0))) [.aug 6 .add (.call 1 [.var 0, .var 2, .var 3] [])],
  .ret (.tup [.cst (.int 0), .var 6, .var 5])]⟩
theorem bez : ∀ (b a : Nat), ∃ x y : Int, x * a + y * b = (Nat.gcd a b : Nat) := by
  intro b
  induction b using Nat.strongRecOn with
  | _ b ih =>
    intro a
    by_cases h : b = 0
    · subst h
      exact ⟨1, 0, by simp⟩
    · obtain ⟨x, y, e⟩ := ih (a % b) (Nat.mod_lt _ (by omega)) b
      refine ⟨y, x - y * (a / b : Nat), ?_⟩
      rw [show Nat.gcd a b = Nat.gcd b (a % b) by rw [Nat.gcd_comm b, ← Nat.gcd_rec, Nat.gcd_comm], ← e]
      have h1 : (a : Int) = b * (a / b : Nat) + (a % b : Nat) := by
        have := Nat.div_add_mod a b
        rw [← Int.natCast_mul, ← Int.natCast_add, this]
      rw [Int.sub_mul]
      conv => lhs; rw [h1]
      rw [Int.mul_add, Int.mul_assoc y, Int.mul_comm ((a / b : Nat) : Int)]
      omega
/-- so many steps of a bring nought to the common divisor, over b -/
theorem steps {a b : Int} (ha : 0 < a) (hb : 0 < b) {c : Int} (hc : (Int.gcd a b : Int) ∣ c) : ∃ m : Nat, (m : Int) < b ∧ ((m : Int) * a - c) % b = 0 := by
  obtain ⟨x, y, e⟩ := bez b.toNat a.toNat
  have ea : ((a.toNat : Nat) : Int) = a := by omega
  have eb : ((b.toNat : Nat) : Int) = b := by omega
  rw [ea, eb] at e
  have eg : (Nat.gcd a.toNat b.toNat : Nat) = Int.gcd a b := by
    unfold Int.gcd
    congr 1 <;> omega
  rw [eg] at e
  obtain ⟨q, rfl⟩ := hc
  refine ⟨(x * q % b).toNat, ?_, ?_⟩
  · have := Int.emod_lt_of_pos (x * q) hb
    have := Int.emod_nonneg (x * q) (show b ≠ 0 by omega)
    omega
  · have h0 := Int.emod_nonneg (x * q) (show b ≠ 0 by omega)
    rw [show (((x * q % b).toNat : Nat) : Int) = x * q % b by omega]
    have h1 : x * q % b = x * q - b * (x * q / b) := Int.emod_def ..
    have h2 : (x * q % b) * a - (Int.gcd a b : Int) * q = b * (-(x * q / b) * a - y * q) := by
      rw [h1, ← e]
      simp only [Int.sub_mul, Int.add_mul, Int.mul_sub, Int.neg_mul, Int.mul_neg]
      have t1 : x * q * a = x * a * q := by rw [Int.mul_assoc, Int.mul_comm q, ← Int.mul_assoc]
      have t2 : b * (x * q / b) * a = b * (x * q / b * a) := Int.mul_assoc ..
      have t3 : b * (y * q) = y * b * q := by rw [← Int.mul_assoc, Int.mul_comm b]
      rw [t1, t2, t3]
      omega
    rw [h2]
    exact Int.mul_emod_right ..
def GapOk (F : Fn) : Prop := ∀ h cs (i j k : Nat), Cs' cs → i < cs.length → j < cs.length → k < cs.length → ∃ x s : Int, F [houseD h cs, rowD [i, j, k]] = .ok (.tup [.int 0, .int x, .int s]) [] ∧ 0 ≤ x ∧ x ≤ 10000 ∧ 0 ≤ s ∧ s ≤ 64 ∧ x % com cs i j = 0 ∧ (s - x) % com cs j k = 0 ∧ (low cs i j k = true → s % com cs i k ≠ 0)
theorem com_le {cs : List (Int × Int)} (h : Cs' cs) (j k : Nat) : com cs j k ≤ 64 := by
  unfold com
  have h1 := P_pos h j
  have : Int.gcd (P cs j) (P cs k) ≤ (P cs j).natAbs := Int.gcd_le_natAbs_left _ (by omega)
  omega
theorem gap_ok {Φ : Fns} (h0 : DivOk (Φ 0)) (h1 : CommonOk (Φ 1)) : GapOk (Li.gap.run Φ) := fun h cs i j k hc hi hj hk => by
  have ha := com_pos hc i j
  have hb := com_pos hc j k
  have ha2 := com_le hc i j
  have hb2 := com_le hc j k
  have pk := P_pos hc k
  generalize hS : ((Int.gcd (com cs i j) (P cs k) : Nat) : Int) = s
  have hsd : (Int.gcd (com cs i j) (com cs j k) : Int) ∣ s := by
    rw [← hS]
    refine Int.dvd_coe_gcd (Int.gcd_dvd_left ..) ?_
    refine Int.dvd_trans (Int.gcd_dvd_right ..) ?_
    unfold com
    exact Int.gcd_dvd_right ..
  have hs0 : 0 ≤ s := by omega
  have hs64 : s ≤ 64 := by
    have : Int.gcd (com cs i j) (P cs k) ≤ (com cs i j).natAbs := Int.gcd_le_natAbs_left _ (by omega)
    omega
  obtain ⟨m0, hm0, em0⟩ := steps ha hb hsd
  suffices h : WR (Li.gap.run Φ [houseD h cs, rowD [i, j, k]]) fun d o => (∃ x : Int, d = .tup [.int 0, .int x, .int s] ∧ 0 ≤ x ∧ x ≤ 10000 ∧ x % com cs i j = 0 ∧ (x - s) % com cs j k = 0) ∧ o = [] by
    obtain ⟨d, o, e, ⟨x, rfl, q1, q2, q3, q4⟩, rfl⟩ := h.ex
    refine ⟨x, s, e, q1, q2, hs0, hs64, q3, ?_, fun hlow hz => ?_⟩
    · have := Int.dvd_of_emod_eq_zero q4
      refine Int.emod_eq_zero_of_dvd ?_
      rw [show s - x = -(x - s) by omega]
      exact Int.dvd_neg.mpr this
    · have h1 := Int.dvd_of_emod_eq_zero hz
      have h2 : s ∣ P cs j := by
        rw [← hS]
        refine Int.dvd_trans (Int.gcd_dvd_left ..) ?_
        unfold com
        exact Int.gcd_dvd_right ..
      have h3 := Int.emod_eq_zero_of_dvd (Int.dvd_trans h1 h2)
      unfold low at hlow
      rw [h3] at hlow
      simp at hlow
  refine wr_run rfl rfl ?_
  show WS Φ Li.gap.body [some (houseD h cs), some (rowD [i, j, k]), none, none, none, none, none] _
  unfold Li.gap rowD
  simp only [List.map_cons, List.map_nil, nD]
  have e1 := h1 h cs i j hc hi hj
  have e2 := h0 (com cs i j) (P cs k) (by omega) (by omega)
  rw [hS] at e2
  have e3 := h1 h cs j k hc hj hk
  unfold P at e2
  simp only [wpA, wpB, wpC, we_callr, reread, List.length_cons, List.length_nil, List.map_cons, List.map_nil, Option.bind_some, id, Nat.reduceAdd, Nat.reduceLT, if_true, if_pos, true_and, and_true, reduceIte, Bool.not_true, Bool.not_false, decide_true, decide_false, List.getElem?_cons_zero, List.getElem?_cons_succ, E.wr, wrL, List.append_nil, List.nil_append, List.singleton_append, List.cons_append, e1, hCs, cAt hk, cPit, e2]
  refine ws_while (fun n => ∃ m : Nat, m ≤ m0 ∧ n = [some (houseD h cs), some (.tup [.int (i : Int), .int (j : Int), .int (k : Int)]), some (.int (i : Int)), some (.int (j : Int)), some (.int (k : Int)), some (.int s), some (.int ((m : Int) * com cs i j))])
    (fun n => match n with | [_, _, _, _, _, _, some (.int y)] => ((m0 : Int) * com cs i j - y).toNat | _ => 0) ⟨0, Nat.zero_le _, by simp⟩ ?_
  rintro _ ⟨m, hm, rfl⟩
  simp only [wpA, wpB, wpC, we_callr, reread, List.length_cons, List.length_nil, List.map_cons, List.map_nil, Option.bind_some, id, Nat.reduceAdd, Nat.reduceLT, if_true, if_pos, true_and, and_true, reduceIte, Bool.not_true, Bool.not_false, decide_true, decide_false, List.getElem?_cons_zero, List.getElem?_cons_succ, E.wr, wrL, List.append_nil, List.nil_append, List.singleton_append, List.cons_append, e3, e1]
  refine ⟨hb, ?_⟩
  by_cases hz : ((m : Int) * com cs i j - s) % com cs j k = 0
  · rw [if_neg (by rw [hz]; decide)]
    refine ⟨by decide, (m : Int) * com cs i j, rfl, Int.mul_nonneg (by omega) (by omega), ?_, Int.mul_emod_left .., hz⟩
    have : (m : Int) * com cs i j ≤ 64 * 64 := Int.mul_le_mul (by omega) ha2 (by omega) (by omega)
    omega
  · rw [if_pos (by simpa using hz)]
    have hne : m ≠ m0 := fun e => by subst e; exact hz em0
    have hstep : (m : Int) * com cs i j + com cs i j = ((m + 1 : Nat) : Int) * com cs i j := by
      rw [Int.natCast_add, Int.add_mul]; simp
    refine ⟨⟨m + 1, by omega, by rw [hstep]⟩, ?_⟩
    have hle : ((m + 1 : Nat) : Int) * com cs i j ≤ (m0 : Int) * com cs i j := Int.mul_le_mul_of_nonneg_right (by omega) (by omega)
    show ((m0 : Int) * com cs i j - ((m : Int) * com cs i j + com cs i j)).toNat < ((m0 : Int) * com cs i j - (m : Int) * com cs i j).toNat
    omega
theorem pmap {cs : List (Int × Int)} (j : Nat) : (cs.map Prod.fst).getD j 2 = P cs j := by
  unfold P
  rw [List.getD_eq_getElem?_getD, List.getD_eq_getElem?_getD, List.getElem?_map]
  cases cs[j]? <;> rfl
theorem grps3 {n : Nat} {row : List Nat} (h : row ∈ grps n 3) : ∃ i j k, row = [i, j, k] ∧ i < j ∧ j < k ∧ k < n := by
  obtain ⟨h1, h2, h3⟩ := mem_grps.mp h
  obtain ⟨i, j, k, rfl⟩ := row3 h1
  simp only [List.pairwise_cons, List.mem_cons, List.not_mem_nil, or_false, forall_eq_or_imp, forall_eq] at h2
  exact ⟨i, j, k, rfl, h2.1.1, h2.2.1, h3 k (by simp)⟩
theorem ev_vly {cs : List (Int × Int)} (h : Ev (cs.map Prod.fst)) : vly cs = none := by
  unfold vly
  rw [List.find?_eq_none]
  intro row hrow
  obtain ⟨i, j, k, rfl, h1, h2, h3⟩ := grps3 hrow
  have := h i j k h1 h2 (by rw [List.length_map]; exact h3)
  rw [pmap, pmap, pmap] at this
  show ¬ low cs i j k = true
  unfold low com
  rw [this]
  decide
/-- what is alike goes through where there is no valley -/
theorem al_trans {cs : List (Int × Int)} {ss : List Int} {i j k : Nat} (h : low cs i j k = false) (h1 : al cs ss k j = true) (h2 : al cs ss j i = true) : al cs ss k i = true := by
  unfold low at h
  unfold al at h1 h2 ⊢
  simp only [Bool.not_eq_false', decide_eq_true_eq] at h h1 h2 ⊢
  have d0 := Int.dvd_of_emod_eq_zero h
  have d1 := Int.dvd_of_emod_eq_zero h1
  have d2 := Int.dvd_of_emod_eq_zero h2
  have c1 : com cs k i ∣ com cs k j := by
    unfold com at *
    refine Int.dvd_coe_gcd (Int.gcd_dvd_left ..) ?_
    rw [Int.gcd_comm] at d0
    exact d0
  have c2 : com cs k i ∣ com cs j i := by
    unfold com at *
    rw [Int.gcd_comm] at d0
    exact Int.dvd_coe_gcd d0 (Int.gcd_dvd_right ..)
  refine Int.emod_eq_zero_of_dvd ?_
  rw [show ss.getD k 0 - ss.getD i 0 = (ss.getD k 0 - ss.getD j 0) + (ss.getD j 0 - ss.getD i 0) by omega]
  exact Int.dvd_add (Int.dvd_trans c1 d1) (Int.dvd_trans c2 d2)
theorem com_symm {cs : List (Int × Int)} {j k : Nat} : com cs j k = com cs k j := by unfold com; rw [Int.gcd_comm]
theorem rr_pen1 {p p' : D} {b : Nat} {x : Option D} {r : Env} (h : Pen p' b) : rr1 (.var 1) [1] (x :: some p' :: r) p = p' := by
  obtain ⟨ns, a, l, rfl, _⟩ := h
  rfl
theorem rr_call {f : Nat} {es : List E} {io' io : List Nat} {n : Env} {d : D} : rr1 (.call f es io') io n d = d := rfl
end Sc
namespace Sc
open PySem PySem.Spec PyProof.Rows L2
def Li.pushed : FnIR := ⟨3, 3, [], [], false, [
  .ret (.bin .add (.bin .add (.slc (.var 1) (.no) (.var 2)) (.tup [.bin .add (.idx (.var 1) (.var 2)) (.idx (.idx (.idx (.var 0) (.cst (.int 1))) (.var 2)) (.cst (.int 1)))])) (.slc (.var 1) (.bin .add (.var 2) (.cst (.int 1))) (.no)))]⟩
def Li.shoved : FnIR := ⟨3, 3, [], [], false, [
  .ite (.cmp .eq (.call 0 [.var 0, .var 1, .var 2] []) (.lst [])) [.nvr] [],
  .ret (.call 1 [.var 0, .var 1, .var 2] [])]⟩
def Li.wCrowded : FnIR := ⟨5, 2, [], [], false, [
  .asg 2 (.lst []),
  .fr (.nm 3) (.rng .no (.bi .len [.var 1])) [.ite (.cmp .ne (.lc (.var 4) (.nm 4) (.call 0 [.var 3, .idx (.var 0) (.cst (.int 0))] []) (.call 1 [.var 0, .var 1, .bin .add (.var 4) (.tup [.var 3])] []) [4]) (.lst [])) [.mut .append 2 [.var 3]] []],
  .fz [2],
  .ret (.var 2)]⟩
def Li.isTuple : FnIR := ⟨3, 3, [], [], false, [
  .ret (.an (.bi .isi [.var 0, .cst (.ty "tuple")]) (.chn .le .le (.var 1) (.bi .len [.var 0]) (.var 2)))]⟩
def Li.isCrowd : FnIR := ⟨6, 4, [], [], false, [
  .ex (.call 0 [.var 0, .var 2] []),
  .ite (.nt (.call 1 [.var 3, .idx (.var 0) (.cst (.int 0)), .idx (.var 0) (.cst (.int 0))] [])) [.ret (.cst (.bl false))] [],
  .asg 4 (.cst (.int 0)),
  .fr (.nm 5) (.var 3) [.ite (.nt (.call 2 [.var 5, .var 4, .bin .sub (.var 2) (.cst (.int 1))] [])) [.ret (.cst (.bl false))] [], .asg 4 (.bin .add (.var 5) (.cst (.int 1)))],
  .ret (.cmp .is_ (.call 3 [.var 0, .var 1, .bin .add (.var 3) (.tup [.var 2])] []) (.cst .non))]⟩
theorem cut_to {l : List D} {i : Nat} (h : i ≤ l.length) : slcD (.tup l) .non (.int ((i : Nat) : Int)) = some (.tup (l.take i)) := by
  simp only [slcD, cutD, endD, Option.bind_some, Option.map_some]
  congr 2
  rw [if_pos (by omega)]
  have : min (i : Int).toNat l.length - (0 : Int).toNat = i := by simp; omega
  rw [this]
  rfl
theorem rows_id {l : List (List Nat)} {f : List Nat → Bool} {g : D → Bool} (h : ∀ r ∈ l, g (rowD r) = f r) : (((l.map rowD).filter g).map id) = (l.filter f).map rowD := by
  rw [List.map_id, List.filter_map]
  congr 1
  exact List.filter_congr fun r hr => h r hr
def unRow : D → List Nat
  | .tup l => l.map fun x => match x with | .int i => i.toNat | _ => 0
  | _ => []
theorem unRow_row {l : List Nat} : unRow (rowD l) = l := by
  show (l.map nD).map _ = l
  rw [List.map_map]
  conv => rhs; rw [← List.map_id l]
  exact List.map_congr_left fun a _ => by simp [nD]
theorem due_step {f : Nat → Bool} {k : Nat} : ((List.range (k + 1)).filter f).map nD = ((List.range k).filter f).map nD ++ (if f k = true then [nD k] else []) := by
  rw [List.range_succ, List.filter_append, List.map_append, List.filter_cons]
  cases f k <;> rfl
def psh (cs : List (Int × Int)) (ss : List Int) (k : Nat) : List Int := ss.set k (ss.getD k 0 + (cs.getD k (2, 1)).2)
theorem psh_len {cs : List (Int × Int)} {ss : List Int} {k : Nat} : (psh cs ss k).length = ss.length := by unfold psh; rw [List.length_set]
theorem psh_at {cs : List (Int × Int)} {ss : List Int} {k j : Nat} (h : j ≠ k) : (psh cs ss k).getD j 0 = ss.getD j 0 := by
  unfold psh
  rw [List.getD_eq_getElem?_getD, List.getD_eq_getElem?_getD, List.getElem?_set, if_neg (fun e => h e.symm), List.getD_eq_getElem?_getD]
def PushOk (F : Fn) : Prop := ∀ h cs ss (k : Nat), Cs' cs → cs.length ≤ 7 → ss.length = cs.length → (∀ s ∈ ss, Sm s) → k < cs.length → F [houseD h cs, stD ss, .int (k : Int)] = .ok (stD (psh cs ss k)) []
theorem push_ok {Φ : Fns} : PushOk (Li.pushed.run Φ) := fun h cs ss k hc hm hl hs hk => by
  refine eq_of_wr (wr_run rfl rfl ?_)
  show WS Φ Li.pushed.body [some (houseD h cs), some (stD ss), some (.int (k : Int))] _
  unfold Li.pushed
  have e1 : slcD (stD ss) .non (.int (k : Int)) = some (.tup ((ss.map D.int).take k)) := cut_to (l := ss.map D.int) (i := k) (by rw [List.length_map]; omega)
  have e2 : slcD (stD ss) (.int ((k + 1 : Nat) : Int)) .non = some (.tup ((ss.map D.int).drop (k + 1))) := cut_from (l := ss.map D.int) (i := k + 1) (by rw [List.length_map]; omega)
  simp only [wpA, wpB, wpC, we_callr, reread, List.length_cons, List.length_nil, List.map_cons, List.map_nil, Option.bind_some, id, Nat.reduceAdd, Nat.reduceLT, if_true, if_pos, true_and, and_true, reduceIte, Bool.not_true, Bool.not_false, decide_true, decide_false, List.getElem?_cons_zero, List.getElem?_cons_succ, E.wr, wrL, List.append_nil, List.nil_append, List.singleton_append, List.cons_append, e1, show ((k : Int) + 1) = ((k + 1 : Nat) : Int) from rfl, e2, we_opt (show (E.var 2).isNo = false from rfl), we_opt (show (E.bin Bop.add (E.var 2) (E.cst (D.int 1))).isNo = false from rfl), sAt (show k < ss.length by omega), hCs, cAt hk, cStr]
  refine ⟨by decide, ?_, ?_, ?_⟩
  · rw [List.length_take, List.length_map]; unfold big; omega
  · rw [List.length_append, List.length_take, List.length_drop, List.length_map]; unfold big; simp only [List.length_cons, List.length_nil]; omega
  · unfold psh stD
    rw [List.set_eq_take_append_cons_drop, if_pos (show k < ss.length by omega), List.map_append, List.map_cons, List.map_take, List.map_drop, List.append_assoc]
    rfl
theorem crw_nil {cs : List (Int × Int)} {ss : List Int} {h k : Nat} : cmpD .eq (.lst ((crw cs ss h k).map rowD)) (.lst []) = some (decide (crw cs ss h k = [])) := rowsEq
def ShovedOk (F : Fn) : Prop := ∀ (h : Nat) cs ss (k : Nat), Cs' cs → cs.length ≤ 7 → h ≤ 7 → ss.length = cs.length → (∀ s ∈ ss, Sm s) → k < cs.length → crw cs ss h k ≠ [] → F [houseD (h : Int) cs, stD ss, .int (k : Int)] = .ok (stD (psh cs ss k)) []
theorem shoved_ok {Φ : Fns} (h0 : CrowdsOk (Φ 0)) (h1 : PushOk (Φ 1)) : ShovedOk (Li.shoved.run Φ) := fun h cs ss k hc hm hh hl hs hk hr => by
  refine eq_of_wr (wr_run rfl rfl ?_)
  show WS Φ Li.shoved.body [some (houseD (h : Int) cs), some (stD ss), some (.int (k : Int))] _
  unfold Li.shoved
  simp only [wpA, wpB, wpC, we_callr, reread, List.length_cons, List.length_nil, List.map_cons, List.map_nil, Option.bind_some, id, Nat.reduceAdd, Nat.reduceLT, if_true, if_pos, true_and, and_true, reduceIte, Bool.not_true, Bool.not_false, decide_true, decide_false, List.getElem?_cons_zero, List.getElem?_cons_succ, E.wr, wrL, List.append_nil, List.nil_append, List.singleton_append, List.cons_append, h0 h cs ss k hc hm hh hl hk, h1 (h : Int) cs ss k hc hm hl hs hk, ws_nvr, crw_nil, hr]
  exact ⟨by decide, by rw [if_neg Bool.false_ne_true]; trivial⟩
theorem wCrowded_ok {Φ : Fns} (h0 : GroupsOk (Φ 0)) (h1 : MeetOk (Φ 1)) : CrowdedOk (Li.wCrowded.run Φ) := fun h cs ss hc c7 hh hl => by
  refine eq_of_wr (wr_run rfl rfl ?_)
  show WS Φ Li.wCrowded.body [some (houseD (h : Int) cs), some (stD ss), none, none, none] _
  unfold Li.wCrowded
  simp only [wpA, wpB, wpC, we_callr, reread, List.length_cons, List.length_nil, List.map_cons, List.map_nil, Option.bind_some, id, Nat.reduceAdd, Nat.reduceLT, if_true, if_pos, true_and, and_true, reduceIte, Bool.not_true, Bool.not_false, decide_true, decide_false, List.getElem?_cons_zero, List.getElem?_cons_succ, E.wr, wrL, List.append_nil, List.nil_append, List.singleton_append, List.cons_append, lenSt, rgN (show ss.length ≤ 16777216 by omega)]
  refine ⟨by decide, ?_⟩
  refine ws_for (fun i n => ∃ x3 x7, n = [some (houseD (h : Int) cs), some (stD ss), some (.lst (((List.range i).filter fun k => !decide (crw cs ss h k = [])).map nD)), x3, x7]) ⟨_, _, rfl⟩ ?_ ?_
  · rintro i d n hd ⟨x3, x7, rfl⟩
    obtain ⟨k, hk, rfl⟩ := row_at hd
    have hi : i < ss.length := by have := (List.getElem?_eq_some_iff.mp hk).1; simpa using this
    have hk : k = i := by rw [List.getElem?_range hi] at hk; exact (Option.some.inj hk).symm
    subst hk
    simp only [wpA, wpB, wpC, we_callr, reread, List.length_cons, List.length_nil, List.map_cons, List.map_nil, Option.bind_some, id, Nat.reduceAdd, Nat.reduceLT, if_true, if_pos, true_and, and_true, reduceIte, Bool.not_true, Bool.not_false, decide_true, decide_false, List.getElem?_cons_zero, List.getElem?_cons_succ, E.wr, wrL, List.append_nil, List.nil_append, List.singleton_append, List.cons_append, hHd, h0 k h (by omega) (by omega)]
    have hg := grps_small (show k ≤ 7 by omega) (show h ≤ 7 by omega)
    refine wc_pure (fun d => mts (al cs ss) (unRow d ++ [k])) id _ _ (by rw [List.length_map]; exact Nat.le_trans hg (by decide)) ?_ ?_
    · intro d hd
      obtain ⟨row, hrow, rfl⟩ := List.mem_map.mp hd
      obtain ⟨e1, _, e3⟩ := mem_grps.mp hrow
      have hx := h1 (h : Int) cs ss (row ++ [k]) hc hl (fun j hj => by
        rcases List.mem_append.mp hj with q | q
        · have := e3 j q; omega
        · simp at q; omega)
      simp only [wpA, wpB, wpC, we_callr, reread, List.length_cons, List.length_nil, List.map_cons, List.map_nil, Option.bind_some, id, Nat.reduceAdd, Nat.reduceLT, if_true, if_pos, true_and, and_true, reduceIte, Bool.not_true, Bool.not_false, decide_true, decide_false, List.getElem?_cons_zero, List.getElem?_cons_succ, E.wr, wrL, List.append_nil, List.nil_append, List.singleton_append, List.cons_append, rowAddN (show row.length ≤ 1000 by omega), hx, unRow_row, wc_some (show (E.call 1 [E.var 0, E.var 1, E.bin Bop.add (E.var 4) (E.tup [E.var 3])] []).isNo = false from rfl)]
      exact ⟨by decide, fun _ => trivial⟩
    · intro n'
      rw [rows_id (f := fun row => mts (al cs ss) (row ++ [k])) (fun r _ => by rw [unRow_row])]
      show _
      have e : (grps k h).filter (fun row => mts (al cs ss) (row ++ [k])) = crw cs ss h k := rfl
      rw [e]
      simp only [wpA, wpB, wpC, we_callr, reread, List.length_cons, List.length_nil, List.map_cons, List.map_nil, Option.bind_some, id, Nat.reduceAdd, Nat.reduceLT, if_true, if_pos, true_and, and_true, reduceIte, Bool.not_true, Bool.not_false, decide_true, decide_false, List.getElem?_cons_zero, List.getElem?_cons_succ, E.wr, wrL, List.append_nil, List.nil_append, List.singleton_append, List.cons_append, rowsNe]
      refine ⟨by decide, ?_⟩
      rw [due_step (f := fun k => !decide (crw cs ss h k = []))]
      have hlen : ((List.range k).filter fun k => !decide (crw cs ss h k = [])).length ≤ k := by
        have := List.length_filter_le (fun k => !decide (crw cs ss h k = [])) (List.range k)
        rwa [List.length_range] at this
      cases hb : decide (crw cs ss h k = []) with
      | true =>
        simp only [Bool.not_true, Bool.false_eq_true, if_false, List.append_nil]
        exact ⟨_, _, rfl⟩
      | false =>
        simp only [Bool.not_false, if_true]
        exact ⟨by rw [List.length_map]; unfold big; omega, _, _, rfl⟩
  · rintro n ⟨x3, x7, rfl⟩
    rw [List.length_map, List.length_range, hl]
    simp only [wpA, wpB, wpC, we_callr, reread, List.length_cons, List.length_nil, List.map_cons, List.map_nil, Option.bind_some, id, Nat.reduceAdd, Nat.reduceLT, if_true, if_pos, true_and, and_true, reduceIte, Bool.not_true, Bool.not_false, decide_true, decide_false, List.getElem?_cons_zero, List.getElem?_cons_succ, E.wr, wrL, List.append_nil, List.nil_append, List.singleton_append, List.cons_append]
    rfl
def IsTupleOk (F : Fn) : Prop := ∀ l : List D, l.length ≤ 7 → F [.tup l, .int (l.length : Int), .int (l.length : Int)] = .ok (.bl true) []
theorem isTuple_ok {Φ : Fns} : IsTupleOk (Li.isTuple.run Φ) := fun l hl => by
  refine eq_of_wr (wr_run rfl rfl ?_)
  show WS Φ Li.isTuple.body [some (.tup l), some (.int (l.length : Int)), some (.int (l.length : Int))] _
  unfold Li.isTuple
  simp only [wpA, wpB, wpC, we_callr, reread, List.length_cons, List.length_nil, List.map_cons, List.map_nil, Option.bind_some, id, Nat.reduceAdd, Nat.reduceLT, if_true, if_pos, true_and, and_true, reduceIte, Bool.not_true, Bool.not_false, decide_true, decide_false, List.getElem?_cons_zero, List.getElem?_cons_succ, E.wr, wrL, List.append_nil, List.nil_append, List.singleton_append, List.cons_append, show biD .isi [.tup l, .ty "tuple"] = some (.bl true) from rfl, biLenT]
  simp
def IsCrowdOk (F : Fn) : Prop := ∀ (h : Nat) cs ss (k : Nat) row, Cs' cs → cs.length ≤ 7 → h ≤ 7 → ss.length = cs.length → k < cs.length → row ∈ crw cs ss h k → F [houseD (h : Int) cs, stD ss, .int (k : Int), rowD row] = .ok (.bl true) []
theorem isCrowd_ok {Φ : Fns} (h0 : NumberOk (Φ 0)) (h1 : IsTupleOk (Φ 1)) (h2 : BetweenOk (Φ 2)) (h3 : UnlikeOk (Φ 3)) : IsCrowdOk (Li.isCrowd.run Φ) := fun h cs ss k row hc hm hh hl hk hr => by
  obtain ⟨hr1, hr2⟩ := List.mem_filter.mp hr
  obtain ⟨e1, e2, e3⟩ := mem_grps.mp hr1
  have eT := h1 (row.map nD) (by rw [List.length_map]; omega)
  rw [List.length_map, e1] at eT
  have hx := h3 (h : Int) cs ss (row ++ [k]) hc hl (fun j hj => by
        rcases List.mem_append.mp hj with q | q
        · have := e3 j q; omega
        · simp at q; omega)
  refine eq_of_wr (wr_run rfl rfl ?_)
  show WS Φ Li.isCrowd.body [some (houseD (h : Int) cs), some (stD ss), some (.int (k : Int)), some (rowD row), none, none] _
  unfold Li.isCrowd
  simp only [wpA, wpB, wpC, we_callr, reread, List.length_cons, List.length_nil, List.map_cons, List.map_nil, Option.bind_some, id, Nat.reduceAdd, Nat.reduceLT, if_true, if_pos, true_and, and_true, reduceIte, Bool.not_true, Bool.not_false, decide_true, decide_false, List.getElem?_cons_zero, List.getElem?_cons_succ, E.wr, wrL, List.append_nil, List.nil_append, List.singleton_append, List.cons_append, h0 (h : Int) cs k hk, hHd, show rowD row = .tup (row.map nD) from rfl, eT]
  refine ws_for (fun i n => ∃ (m : Int) (x5 : Option D), n = [some (houseD (h : Int) cs), some (stD ss), some (.int (k : Int)), some (.tup (row.map nD)), some (.int m), x5] ∧ ∀ a ∈ row.drop i, m ≤ (a : Int)) ⟨0, _, rfl, fun a _ => by omega⟩ ?_ ?_
  · rintro i d n hd ⟨m, x5, rfl, hmn⟩
    obtain ⟨a, ha, rfl⟩ := row_at hd
    have hil := (List.getElem?_eq_some_iff.mp ha).1
    have had : row.drop i = a :: row.drop (i + 1) := by
      rw [List.drop_eq_getElem_cons hil]
      rw [List.getElem?_eq_getElem hil] at ha
      rw [Option.some.inj ha]
    have hma : m ≤ (a : Int) := hmn a (by rw [had]; exact List.mem_cons_self)
    have hak : a < k := e3 a (List.mem_of_getElem? ha)
    have hp : (row.drop i).Pairwise (· < ·) := e2.sublist (List.drop_sublist _ _)
    rw [had, List.pairwise_cons] at hp
    simp only [wpA, wpB, wpC, we_callr, reread, List.length_cons, List.length_nil, List.map_cons, List.map_nil, Option.bind_some, id, Nat.reduceAdd, Nat.reduceLT, if_true, if_pos, true_and, and_true, reduceIte, Bool.not_true, Bool.not_false, decide_true, decide_false, List.getElem?_cons_zero, List.getElem?_cons_succ, E.wr, wrL, List.append_nil, List.nil_append, List.singleton_append, List.cons_append, h2 (a : Int) m ((k : Int) - 1)]
    rw [if_neg (by simp; omega)]
    refine ⟨_, _, rfl, fun b hb => ?_⟩
    have := hp.1 b hb
    omega
  · rintro n ⟨m, x5, rfl, hmn⟩
    have eR : binD .add (.tup (row.map nD)) (.tup [.int (k : Int)]) = some (rowD (row ++ [k])) := rowAddN (l := row) (k := k) (by omega)
    simp only [wpA, wpB, wpC, we_callr, reread, List.length_cons, List.length_nil, List.map_cons, List.map_nil, Option.bind_some, id, Nat.reduceAdd, Nat.reduceLT, if_true, if_pos, true_and, and_true, reduceIte, Bool.not_true, Bool.not_false, decide_true, decide_false, List.getElem?_cons_zero, List.getElem?_cons_succ, E.wr, wrL, List.append_nil, List.nil_append, List.singleton_append, List.cons_append, eR, hx, isNon_unl]
    refine ⟨by decide, ?_⟩
    rw [show (unl (al cs ss) (row ++ [k])).isNone = true from hr2]
theorem mts_iff {f : Nat → Nat → Bool} : ∀ {l : List Nat}, mts f l = true ↔ l.Pairwise (fun j k => f j k = true)
  | [] => by simp [mts, unl]
  | j :: r => by
    rw [List.pairwise_cons, ← mts_iff (l := r)]
    unfold mts
    rw [unl]
    cases hf : r.find? (fun k => !f j k) with
    | none =>
      rw [List.find?_eq_none] at hf
      exact ⟨fun h => ⟨fun k hk => by simpa using hf k hk, h⟩, fun h => h.2⟩
    | some k =>
      have h1 := List.find?_some hf
      have h2 := List.mem_of_find?_eq_some hf
      refine ⟨fun h => (by cases h), fun h => ?_⟩
      have := h.1 k h2
      rw [this] at h1
      cases h1
theorem al_symm {cs : List (Int × Int)} {ss : List Int} {j k : Nat} (h : al cs ss j k = true) : al cs ss k j = true := by
  unfold al at h ⊢
  rw [com_symm]
  simp only [decide_eq_true_eq] at h ⊢
  have d := Int.dvd_of_emod_eq_zero h
  refine Int.emod_eq_zero_of_dvd ?_
  rw [show ss.getD k 0 - ss.getD j 0 = -(ss.getD j 0 - ss.getD k 0) by omega]
  exact Int.dvd_neg.mpr d
theorem mem_crw {cs : List (Int × Int)} {ss : List Int} {h k : Nat} {row : List Nat} : row ∈ crw cs ss h k ↔ row.length = h ∧ row.Pairwise (· < ·) ∧ (∀ a ∈ row, a < k) ∧ row.Pairwise (fun a b => al cs ss a b = true) ∧ ∀ a ∈ row, al cs ss a k = true := by
  unfold crw
  rw [List.mem_filter, mem_grps, mts_iff, List.pairwise_append]
  constructor
  · rintro ⟨⟨h1, h2, h3⟩, h4, _, h5⟩
    exact ⟨h1, h2, h3, h4, fun a ha => h5 a ha k (List.mem_singleton_self k)⟩
  · rintro ⟨h1, h2, h3, h4, h5⟩
    exact ⟨⟨h1, h2, h3⟩, h4, List.pairwise_singleton _ _, fun a ha b hb => by rw [List.mem_singleton.mp hb]; exact h5 a ha⟩
theorem al_psh {cs : List (Int × Int)} {ss : List Int} {j a b : Nat} (h1 : a ≠ j) (h2 : b ≠ j) : al cs (psh cs ss j) a b = al cs ss a b := by
  unfold al
  rw [psh_at h1, psh_at h2]
theorem crw_psh {cs : List (Int × Int)} {ss : List Int} {h j k : Nat} {row : List Nat} (hr : row ∈ crw cs ss h k) (h1 : j ∉ row) (h2 : j ≠ k) : row ∈ crw cs (psh cs ss j) h k := by
  obtain ⟨e1, e2, e3, e4, e5⟩ := mem_crw.mp hr
  refine mem_crw.mpr ⟨e1, e2, e3, ?_, fun a ha => ?_⟩
  · refine List.Pairwise.imp_of_mem ?_ e4
    intro a b ha hb hab
    rw [al_psh (a := a) (b := b) (j := j) (fun e => h1 (e ▸ ha)) (fun e => h1 (e ▸ hb))]
    exact hab
  · rw [al_psh (a := a) (b := k) (j := j) (fun e => h1 (e ▸ ha)) (fun e => h2 e.symm)]
    exact e5 a ha
theorem crw_keep {cs : List (Int × Int)} {ss : List Int} {h j k : Nat} (hv : vly cs = none) (hk : k < cs.length) (hjk : j ≠ k) (h1 : crw cs ss h k ≠ []) (h2 : crw cs ss h j ≠ []) : crw cs (psh cs ss j) h k ≠ [] := by
  obtain ⟨R, hR⟩ := List.exists_mem_of_ne_nil _ h1
  by_cases hj : j ∈ R
  · obtain ⟨S, hS⟩ := List.exists_mem_of_ne_nil _ h2
    obtain ⟨e1, e2, e3, e4, e5⟩ := mem_crw.mp hR
    obtain ⟨d1, d2, d3, d4, d5⟩ := mem_crw.mp hS
    have hjk' := e3 j hj
    have hS2 : S ∈ crw cs ss h k := mem_crw.mpr ⟨d1, d2, fun a ha => Nat.lt_trans (d3 a ha) hjk', d4, fun a ha => by
      have haj := d3 a ha
      have hl : low cs a j k = false := by
        unfold vly at hv
        rw [List.find?_eq_none] at hv
        have h9 : ¬ lowR cs [a, j, k] = true := hv [a, j, k] (mem_grps.mpr ⟨rfl, by simp; omega, by simp; omega⟩)
        have h8 : lowR cs [a, j, k] = false := by simpa using h9
        exact h8
      exact al_symm (al_trans hl (al_symm (e5 j hj)) (al_symm (d5 a ha)))⟩
    exact List.ne_nil_of_mem (crw_psh hS2 (fun hm => Nat.lt_irrefl _ (d3 j hm)) hjk)
  · exact List.ne_nil_of_mem (crw_psh hR hj hjk)
theorem in_row {k : Nat} {l : List Nat} (h : k ∈ l) : inD (.int (k : Int)) (.lst (l.map nD)) = some true := by
  have e : inD (.int (k : Int)) (.lst (l.map nD)) = if (D.int (k : Int)).isPy && fit 60 (.int (k : Int)) && isPyL (l.map nD) && fitL 59 (l.map nD) then some ((l.map nD).any fun z => PyData.eqv z.py (D.int (k : Int)).py) else none := rfl
  rw [e, show (D.int (k : Int)).isPy = true from rfl, show fit 60 (D.int (k : Int)) = true from rfl, show isPyL (l.map nD) = true from py_row, show fitL 59 (l.map nD) = true from fit_row]
  simp only [Bool.and_self, if_true]
  congr 1
  rw [List.any_eq_true]
  exact ⟨nD k, List.mem_map_of_mem h, by simp [nD, D.py, PyData.eqv]⟩
theorem nin_row {k : Nat} {l : List Nat} (h : k ∈ l) : cmpD .nin (.int (k : Int)) (.lst (l.map nD)) = some false := by
  show (inD _ _).map _ = _
  rw [in_row h]; rfl
theorem isBl {a b : Bool} : cmpD .is_ (.bl a) (.bl b) = some (a == b) := rfl
theorem last3 {l : List D} : ∃ n, slcD (.lst l) (.int (-3)) .non = some (.lst (l.drop n)) := by
  refine ⟨((l.length : Int) + -3).toNat, ?_⟩
  simp only [slcD, cutD, endD, Option.bind_some, Option.map_some]
  congr 2
  rw [if_neg (by decide)]
  exact List.take_of_length_le (by rw [List.length_drop]; omega)
def Sp (q : Nat) (ss : List Int) : Prop := ∀ s ∈ ss, s.natAbs < 2 ^ 140 + 64 * q
theorem Sp.sm {q : Nat} {ss : List Int} (h : Sp q ss) (hq : q ≤ 100) : ∀ s ∈ ss, Sm s := fun s hs => by
  have := h s hs
  unfold Sm
  omega
theorem Sp.psh {q : Nat} {cs : List (Int × Int)} {ss : List Int} {k : Nat} (h : Sp q ss) (hc : Cs' cs) (hl : ss.length = cs.length) (hk : k < cs.length) : Sp (q + 1) (psh cs ss k) := fun s hs => by
  unfold Sc.psh at hs
  rcases List.mem_or_eq_of_mem_set hs with h1 | h1
  · have := h s h1
    omega
  · have h2 := h (ss.getD k 0) (by rw [List.getD_eq_getElem?_getD, List.getElem?_eq_getElem (by omega)]; exact List.getElem_mem _)
    have h3 := hc.1 (cs.getD k (2, 1)) (by rw [List.getD_eq_getElem?_getD, List.getElem?_eq_getElem hk]; exact List.getElem_mem _)
    have h4 := h3.2.2.1
    have h5 := h3.2.2.2
    rw [h1]
    omega
theorem tame_st {ss : List Int} (hl : ss.length ≤ 7) (hs : ∀ s ∈ ss, Sm s) : ∃ u, biD .repr [stD ss] = some (.str u) :=
  tame_repr (B := 90000) ((tame_row (k := 58) (m := 7) hl hs).up (by decide)) (by decide)
theorem filt_ne {l : List Nat} {k : Nat} : (((l.map nD).filter fun d => match d with | .int i => !decide (i = (k : Int)) | _ => false).map id) = (l.filter fun j => !decide (j = k)).map nD := by
  rw [List.map_id, List.filter_map]
  congr 1
  refine List.filter_congr fun j _ => ?_
  exact congrArg (fun b => !b) (decide_eq_decide.mpr (show (j : Int) = (k : Int) ↔ j = k by omega))
end Sc
namespace Sc
open PySem PySem.Spec PyProof.Rows L2
def Li.straight : FnIR := ⟨7, 4, [], [], true, [
  .asg 4 (.lst []),
  .asg 5 (.call 0 [.var 0, .var 1] []),
  .wh (.an (.cmp .ne (.var 5) (.lst [])) (.cmp .lt (.bi .len [.var 4]) (.var 3))) [.asg 6 (.ife (.var 2) (.idx (.var 5) (.neg (.cst (.int 1)))) (.idx (.var 5) (.cst (.int 0)))), .mut .append 4 [.var 6], .asg 1 (.call 1 [.var 0, .var 1, .var 6] []), .asg 5 (.call 0 [.var 0, .var 1] [])],
  .ret (.var 4)]⟩
def Li.wStraight : FnIR := ⟨6, 4, [], [], false, [
  .asg 4 (.lst []),
  .asg 5 (.call 0 [.var 0, .var 1] []),
  .wh (.an (.cmp .ne (.var 5) (.lst [])) (.cmp .lt (.bi .len [.var 4]) (.var 3))) [.mut .append 4 [.idx (.var 5) (.idx (.lst [.cst (.int 0), .neg (.cst (.int 1))]) (.bi .int [.var 2]))], .asg 1 (.call 1 [.var 0, .var 1, .idx (.var 4) (.neg (.cst (.int 1)))] []), .asg 5 (.call 0 [.var 0, .var 1] [])],
  .fz [4],
  .ret (.tup [.var 4, .cmp .eq (.var 5) (.lst [])])]⟩
def Li.wideHouse : FnIR := ⟨9, 2, [0], [], false, [
  .asg 2 (.idx (.lst [.cst (.int 1), .cst (.int 2), .cst (.int 3), .cst (.int 4)]) (.call 0 [.var 0, .cst (.int 4)] [0])),
  .asg 3 (.idx (.lst [.bin .fdiv (.cst (.int 64)) (.var 2), .bin .fdiv (.cst (.int 8)) (.var 2)]) (.call 0 [.var 0, .cst (.int 2)] [0])),
  .asg 4 (.lc (.bi .max [.cst (.int 2), .bin .mul (.var 2) (.bin .add (.cst (.int 1)) (.call 0 [.var 0, .var 3] [0]))]) (.nm 7) (.rng .no (.bin .add (.cst (.int 1)) (.call 0 [.var 0, .var 1] [0]))) (.no) [7]),
  .asg 5 (.call 0 [.var 0, .cst (.int 2)] [0]),
  .asg 6 (.lc (.bin .add (.cst (.int 1)) (.bin .mul (.var 5) (.call 0 [.var 0, .bin .sub (.var 8) (.cst (.int 1))] [0]))) (.nm 8) (.var 4) (.no) [8]),
  .ret (.tup [.idx (.lst [.cst (.int 1), .cst (.int 1), .cst (.int 2), .cst (.int 3)]) (.call 0 [.var 0, .cst (.int 4)] [0]), .bi .tuple [.lz (.var 4) (.var 6)]])]⟩
def Li.someHouse : FnIR := ⟨2, 2, [0], [], false, [
  .ite (.cmp .eq (.call 0 [.var 0, .cst (.int 2)] [0]) (.cst (.int 0))) [.ret (.call 1 [.var 0, .var 1] [0])] [],
  .ret (.call 2 [.var 0, .var 1] [0])]⟩
def pk (b : Bool) (l : List Nat) : Nat := if b then l.getLastD 0 else l.headD 0
def stR (cs : List (Int × Int)) (h : Nat) (b : Bool) : Nat → List Int → List Nat
  | 0, _ => []
  | n + 1, ss => if crd cs ss h = [] then [] else pk b (crd cs ss h) :: stR cs h b n (psh cs ss (pk b (crd cs ss h)))
def stE (cs : List (Int × Int)) (h : Nat) (b : Bool) : Nat → List Int → List Int
  | 0, ss => ss
  | n + 1, ss => if crd cs ss h = [] then ss else stE cs h b n (psh cs ss (pk b (crd cs ss h)))
theorem pk_mem {b : Bool} {l : List Nat} (h : l ≠ []) : pk b l ∈ l := by
  cases b with
  | false =>
    obtain ⟨a, r, rfl⟩ := List.exists_cons_of_ne_nil h
    exact List.mem_cons_self
  | true =>
    show l.getLastD 0 ∈ l
    rw [List.getLastD_eq_getLast?, List.getLast?_eq_some_getLast h]
    exact List.getLast_mem h
theorem first_at {l : List Nat} (h : l ≠ []) : atD (l.map nD) 0 = some (nD (pk false l)) := by
  obtain ⟨a, r, rfl⟩ := List.exists_cons_of_ne_nil h
  rfl
theorem last_at {l : List Nat} (h : l ≠ []) : atD (l.map nD) (-1) = some (nD (pk true l)) := by
  have hp := List.length_pos_iff.mpr h
  simp only [atD, List.length_map]
  rw [if_neg (by decide), if_pos (by omega), show ((l.length : Int) + -1).toNat = l.length - 1 by omega, List.getElem?_map]
  show _ = some (nD (l.getLastD 0))
  rw [List.getLastD_eq_getLast?, List.getLast?_eq_getElem?]
  rw [List.getElem?_eq_getElem (show l.length - 1 < l.length by omega)]
  rfl
theorem pk_ite {b : Bool} {l : List Nat} (h : l ≠ []) {P : D → Prop} (q : P (nD (pk b l))) : if b = true then WL (atD (l.map nD) (-1)) P else WL (atD (l.map nD) 0) P := by
  cases b with
  | true => rw [if_pos rfl]; exact WL.of (last_at h) q
  | false => rw [if_neg Bool.false_ne_true]; exact WL.of (first_at h) q
theorem crd_lt {cs : List (Int × Int)} {ss : List Int} {h k : Nat} (q : k ∈ crd cs ss h) : k < cs.length ∧ crw cs ss h k ≠ [] := by
  unfold crd at q
  rw [List.mem_filter] at q
  exact ⟨List.mem_range.mp q.1, by simpa using q.2⟩
theorem stR_nil {cs : List (Int × Int)} {ss : List Int} {h : Nat} {b : Bool} (q : crd cs ss h = []) : ∀ n, stR cs h b n ss = []
  | 0 => rfl
  | n + 1 => by rw [stR, if_pos q]
theorem stE_nil {cs : List (Int × Int)} {ss : List Int} {h : Nat} {b : Bool} (q : crd cs ss h = []) : ∀ n, stE cs h b n ss = ss
  | 0 => rfl
  | n + 1 => by rw [stE, if_pos q]
theorem stR_len {cs : List (Int × Int)} {h : Nat} {b : Bool} : ∀ {n : Nat} {ss : List Int}, (stR cs h b n ss).length ≤ n
  | 0, ss => Nat.le_refl _
  | n + 1, ss => by
    rw [stR]
    split
    · exact Nat.zero_le _
    · rw [List.length_cons]; exact Nat.succ_le_succ stR_len
theorem stR_take {cs : List (Int × Int)} {h : Nat} {b : Bool} : ∀ {m n : Nat} {ss : List Int}, m ≤ n → stR cs h b m ss = (stR cs h b n ss).take m
  | 0, n, ss, _ => by rw [List.take_zero]; rfl
  | m + 1, 0, ss, q => absurd q (by omega)
  | m + 1, n + 1, ss, q => by
    rw [stR, stR]
    split
    · rfl
    · rw [List.take_succ_cons, ← stR_take (by omega)]
theorem stR_over {cs : List (Int × Int)} {h : Nat} {b : Bool} : ∀ {m n : Nat} {ss : List Int}, m ≤ n → crd cs (stE cs h b m ss) h = [] → stR cs h b n ss = stR cs h b m ss
  | 0, n, ss, _, q => by rw [stR_nil (ss := ss) q]; rfl
  | m + 1, 0, ss, q, _ => absurd q (by omega)
  | m + 1, n + 1, ss, q, e => by
    rw [stE] at e
    rw [stR, stR]
    split
    · rfl
    · rename_i hne
      rw [if_neg hne] at e
      rw [stR_over (by omega) e]
theorem crd_small {cs : List (Int × Int)} {ss : List Int} {h : Nat} : (crd cs ss h).length ≤ cs.length := by
  unfold crd
  have := List.length_filter_le (fun k => !decide (crw cs ss h k = [])) (List.range cs.length)
  rwa [List.length_range] at this
theorem Sp.sm' {q : Nat} {ss : List Int} (h : Sp q ss) (hq : q ≤ 1000) : ∀ s ∈ ss, Sm s := fun s hs => by
  have := h s hs
  unfold Sm
  omega
def StraightOk (F : Fn) : Prop := ∀ (h : Nat) cs ss (b : Bool) (most : Nat), Cs' cs → cs.length ≤ 7 → h ≤ 7 → ss.length = cs.length → Sp 0 ss → most ≤ 300 → F [houseD (h : Int) cs, stD ss, .bl b, .int (most : Int)] = .ok (.lst ((stR cs h b most ss).map nD)) []
theorem straight_ok {Φ : Fns} (h0 : CrowdedOk (Φ 0)) (h1 : PushOk (Φ 1)) : StraightOk (Li.straight.run Φ) := fun h cs ss b most hc hm hh hl hs hmo => by
  refine eq_of_wr (wr_run rfl rfl ?_)
  show WS Φ Li.straight.body [some (houseD (h : Int) cs), some (stD ss), some (.bl b), some (.int (most : Int)), none, none, none] _
  unfold Li.straight
  simp only [wpA, wpB, wpC, we_callr, reread, List.length_cons, List.length_nil, List.map_cons, List.map_nil, Option.bind_some, id, Nat.reduceAdd, Nat.reduceLT, if_true, if_pos, true_and, and_true, reduceIte, Bool.not_true, Bool.not_false, decide_true, decide_false, List.getElem?_cons_zero, List.getElem?_cons_succ, E.wr, wrL, List.append_nil, List.nil_append, List.singleton_append, List.cons_append, h0 h cs ss hc hm hh hl]
  refine ⟨by decide, ?_⟩
  refine ws_while (fun n => ∃ (row : List Nat) (s' : List Int) (x6 : Option D), n = [some (houseD (h : Int) cs), some (stD s'), some (.bl b), some (.int (most : Int)), some (.lst (row.map nD)), some (.lst ((crd cs s' h).map nD)), x6] ∧ row.length ≤ most ∧ row ++ stR cs h b (most - row.length) s' = stR cs h b most ss ∧ s'.length = cs.length ∧ Sp row.length s') (fun n => match n with | [_, _, _, _, some (.lst l), _, _] => most - l.length | _ => 0) ⟨[], ss, none, rfl, Nat.zero_le _, rfl, hl, hs⟩ ?_
  rintro _ ⟨row, s', x6, rfl, q1, q2, q3, q4⟩
  simp only [wpA, wpB, wpC, we_callr, reread, List.length_cons, List.length_nil, List.map_cons, List.map_nil, Option.bind_some, id, Nat.reduceAdd, Nat.reduceLT, if_true, if_pos, true_and, and_true, reduceIte, Bool.not_true, Bool.not_false, decide_true, decide_false, List.getElem?_cons_zero, List.getElem?_cons_succ, E.wr, wrL, List.append_nil, List.nil_append, List.singleton_append, List.cons_append, ne_nilN, biLen, List.length_map]
  refine ⟨by decide, ?_⟩
  by_cases hcr : crd cs s' h = []
  · simp only [hcr, decide_true, Bool.not_true, Bool.false_eq_true, if_false]
    rw [stR_nil hcr, List.append_nil] at q2
    rw [q2]
  · simp only [hcr, decide_false, Bool.not_false, if_true]
    by_cases hlt : (row.length : Int) < (most : Int)
    · simp only [hlt, decide_true, if_true]
      have hk := crd_lt (pk_mem (b := b) hcr)
      have f1 : Φ 1 [houseD (h : Int) cs, stD s', nD (pk b (crd cs s' h))] = .ok (stD (psh cs s' (pk b (crd cs s' h)))) [] := h1 (h : Int) cs s' _ hc hm q3 (q4.sm' (by omega)) hk.1
      have f0 := h0 h cs (psh cs s' (pk b (crd cs s' h))) hc hm hh (by rw [psh_len]; exact q3)
      refine pk_ite hcr ?_
      simp only [wpA, wpB, wpC, we_callr, reread, List.length_cons, List.length_nil, List.map_cons, List.map_nil, Option.bind_some, id, Nat.reduceAdd, Nat.reduceLT, if_true, if_pos, true_and, and_true, reduceIte, Bool.not_true, Bool.not_false, decide_true, decide_false, List.getElem?_cons_zero, List.getElem?_cons_succ, E.wr, wrL, List.append_nil, List.nil_append, List.singleton_append, List.cons_append, f1, f0]
      refine ⟨by unfold big; omega, ⟨row ++ [pk b (crd cs s' h)], _, _, by rw [List.map_append]; rfl, by rw [List.length_append]; simp only [List.length_cons, List.length_nil]; omega, ?_, by rw [psh_len]; exact q3, by rw [List.length_append]; exact q4.psh hc q3 hk.1⟩, ?_⟩
      · rw [← q2, List.append_assoc]
        congr 1
        obtain ⟨g, hg⟩ : ∃ g, most - row.length = g + 1 := ⟨most - row.length - 1, by omega⟩
        rw [hg, stR, if_neg hcr, List.length_append, show most - (row.length + [pk b (crd cs s' h)].length) = g by simp only [List.length_cons, List.length_nil]; omega]
        rfl
      · rw [List.length_append, List.length_map]
        simp only [List.length_cons, List.length_nil]
        omega
    · simp only [hlt, decide_false, Bool.false_eq_true, if_false]
      rw [show most - row.length = 0 by omega, stR, List.append_nil] at q2
      rw [q2]
theorem pk_two {b : Bool} {l : List Nat} (h : l ≠ []) {P : D → Prop} (q : P (nD (pk b l))) : WL (atD [.int 0, .int (-1)] (if b = true then 1 else 0)) fun z => WL (idxD (.lst (l.map nD)) z) P := by
  cases b with
  | true => exact WL.of (show atD [.int 0, .int (-1)] 1 = some (.int (-1)) from rfl) (WL.of (last_at h) q)
  | false => exact WL.of (show atD [.int 0, .int (-1)] 0 = some (.int 0) from rfl) (WL.of (first_at h) q)
theorem last_app {l : List Nat} {z : D} : atD (l.map nD ++ [z]) (-1) = some z := by
  simp only [atD, List.length_append, List.length_map, List.length_cons, List.length_nil]
  rw [if_neg (by decide), if_pos (by omega), show (((l.length + (0 + 1) : Nat) : Int) + -1).toNat = l.length by omega, List.getElem?_append_right (by rw [List.length_map]; exact Nat.le_refl _), List.length_map, Nat.sub_self]
  rfl
theorem stE_get {cs : List (Int × Int)} {h : Nat} {b : Bool} {n : Nat} {ss : List Int} (q : crd cs ss h ≠ []) : stE cs h b (n + 1) ss = stE cs h b n (psh cs ss (pk b (crd cs ss h))) := by rw [stE, if_neg q]
def WStraightOk (F : Fn) : Prop := ∀ (h : Nat) cs ss (b : Bool) (most : Nat), Cs' cs → cs.length ≤ 7 → h ≤ 7 → ss.length = cs.length → Sp 0 ss → most ≤ 300 → F [houseD (h : Int) cs, stD ss, .bl b, .int (most : Int)] = .ok (.tup [.lst ((stR cs h b most ss).map nD), .bl (decide (crd cs (stE cs h b most ss) h = []))]) []
theorem wStraight_ok {Φ : Fns} (h0 : CrowdedOk (Φ 0)) (h1 : PushOk (Φ 1)) : WStraightOk (Li.wStraight.run Φ) := fun h cs ss b most hc hm hh hl hs hmo => by
  refine eq_of_wr (wr_run rfl rfl ?_)
  show WS Φ Li.wStraight.body [some (houseD (h : Int) cs), some (stD ss), some (.bl b), some (.int (most : Int)), none, none] _
  unfold Li.wStraight
  simp only [wpA, wpB, wpC, we_callr, reread, List.length_cons, List.length_nil, List.map_cons, List.map_nil, Option.bind_some, id, Nat.reduceAdd, Nat.reduceLT, if_true, if_pos, true_and, and_true, reduceIte, Bool.not_true, Bool.not_false, decide_true, decide_false, List.getElem?_cons_zero, List.getElem?_cons_succ, E.wr, wrL, List.append_nil, List.nil_append, List.singleton_append, List.cons_append, h0 h cs ss hc hm hh hl]
  refine ⟨by decide, ?_⟩
  refine ws_while (fun n => ∃ (row : List Nat) (s' : List Int), n = [some (houseD (h : Int) cs), some (stD s'), some (.bl b), some (.int (most : Int)), some (.lst (row.map nD)), some (.lst ((crd cs s' h).map nD))] ∧ row.length ≤ most ∧ row ++ stR cs h b (most - row.length) s' = stR cs h b most ss ∧ stE cs h b (most - row.length) s' = stE cs h b most ss ∧ s'.length = cs.length ∧ Sp row.length s') (fun n => match n with | [_, _, _, _, some (.lst l), _] => most - l.length | _ => 0) ⟨[], ss, rfl, Nat.zero_le _, rfl, rfl, hl, hs⟩ ?_
  rintro _ ⟨row, s', rfl, q1, q2, q5, q3, q4⟩
  simp only [wpA, wpB, wpC, we_callr, reread, List.length_cons, List.length_nil, List.map_cons, List.map_nil, Option.bind_some, id, Nat.reduceAdd, Nat.reduceLT, if_true, if_pos, true_and, and_true, reduceIte, Bool.not_true, Bool.not_false, decide_true, decide_false, List.getElem?_cons_zero, List.getElem?_cons_succ, E.wr, wrL, List.append_nil, List.nil_append, List.singleton_append, List.cons_append, ne_nilN, biLen, List.length_map]
  refine ⟨by decide, ?_⟩
  by_cases hcr : crd cs s' h = []
  · simp only [hcr, decide_true, Bool.not_true, Bool.false_eq_true, if_false]
    rw [stR_nil hcr, List.append_nil] at q2
    rw [stE_nil hcr] at q5
    rw [← q5, ← q2]
    simp only [wpA, wpB, wpC, we_callr, reread, List.length_cons, List.length_nil, List.map_cons, List.map_nil, Option.bind_some, id, Nat.reduceAdd, Nat.reduceLT, if_true, if_pos, true_and, and_true, reduceIte, Bool.not_true, Bool.not_false, decide_true, decide_false, List.getElem?_cons_zero, List.getElem?_cons_succ, E.wr, wrL, List.append_nil, List.nil_append, List.singleton_append, List.cons_append, eq_nilN]
    refine ⟨by decide, WL.of (show cmpD .eq (.lst []) (.lst []) = some true from rfl) ⟨by decide, ?_⟩⟩
    rw [hcr]
    rfl
  · simp only [hcr, decide_false, Bool.not_false, if_true]
    by_cases hlt : (row.length : Int) < (most : Int)
    · simp only [hlt, decide_true, if_true]
      have hk := crd_lt (pk_mem (b := b) hcr)
      have f1 : Φ 1 [houseD (h : Int) cs, stD s', nD (pk b (crd cs s' h))] = .ok (stD (psh cs s' (pk b (crd cs s' h)))) [] := h1 (h : Int) cs s' _ hc hm q3 (q4.sm' (by omega)) hk.1
      have f0 := h0 h cs (psh cs s' (pk b (crd cs s' h))) hc hm hh (by rw [psh_len]; exact q3)
      refine ⟨by decide, pk_two hcr ⟨by unfold big; omega, WL.of last_app ?_⟩⟩
      simp only [wpA, wpB, wpC, we_callr, reread, List.length_cons, List.length_nil, List.map_cons, List.map_nil, Option.bind_some, id, Nat.reduceAdd, Nat.reduceLT, if_true, if_pos, true_and, and_true, reduceIte, Bool.not_true, Bool.not_false, decide_true, decide_false, List.getElem?_cons_zero, List.getElem?_cons_succ, E.wr, wrL, List.append_nil, List.nil_append, List.singleton_append, List.cons_append, f1, f0]
      refine ⟨⟨row ++ [pk b (crd cs s' h)], _, by rw [List.map_append]; rfl, by rw [List.length_append]; simp only [List.length_cons, List.length_nil]; omega, ?_, ?_, by rw [psh_len]; exact q3, by rw [List.length_append]; exact q4.psh hc q3 hk.1⟩, ?_⟩
      · rw [← q2, List.append_assoc]
        congr 1
        obtain ⟨g, hg⟩ : ∃ g, most - row.length = g + 1 := ⟨most - row.length - 1, by omega⟩
        rw [hg, stR, if_neg hcr, List.length_append, show most - (row.length + [pk b (crd cs s' h)].length) = g by simp only [List.length_cons, List.length_nil]; omega]
        rfl
      · rw [← q5]
        obtain ⟨g, hg⟩ : ∃ g, most - row.length = g + 1 := ⟨most - row.length - 1, by omega⟩
        rw [hg, stE, if_neg hcr, List.length_append, show most - (row.length + [pk b (crd cs s' h)].length) = g by simp only [List.length_cons, List.length_nil]; omega]
      · trace_state
        rw [List.length_append, List.length_map]
        simp only [List.length_cons, List.length_nil]
        omega
    · simp only [hlt, decide_false, Bool.false_eq_true, if_false]
      rw [show most - row.length = 0 by omega, stR, List.append_nil] at q2
      rw [show most - row.length = 0 by omega, stE] at q5
      rw [← q5, ← q2]
      simp only [wpA, wpB, wpC, we_callr, reread, List.length_cons, List.length_nil, List.map_cons, List.map_nil, Option.bind_some, id, Nat.reduceAdd, Nat.reduceLT, if_true, if_pos, true_and, and_true, reduceIte, Bool.not_true, Bool.not_false, decide_true, decide_false, List.getElem?_cons_zero, List.getElem?_cons_succ, E.wr, wrL, List.append_nil, List.nil_append, List.singleton_append, List.cons_append, eq_nilN]
      exact ⟨by decide, by decide⟩
end Sc
namespace Sc
open PySem PySem.Spec PyProof.Rows L2
def AnyHsOk (F : Fn) (most : Nat) : Prop := ∀ p b, Pen p b → b < 2 ^ 27 → WR (F [p, .int (most : Int)]) fun d o => ∃ (h : Nat) (cs : List (Int × Int)) (p' : D), d = houseD (h : Int) cs ∧ o = [p'] ∧ Pen p' (b + (3 * most + 9)) ∧ HsOk h cs ∧ cs.length ≤ most
theorem wideHouse_ok {Φ : Fns} (h1 : DrawOk (Φ 0)) {most : Nat} (hm : 0 < most) (hm2 : most ≤ 7) : AnyHsOk (Li.wideHouse.run Φ) most := fun p b hp hb => by
  refine wr_run rfl (by have := hp.isL (r := [some (.int (most : Int))]); simp [Li.wideHouse, this]) ?_
  show WS Φ Li.wideHouse.body [some p, some (.int (most : Int)), none, none, none, none, none, none, none] _
  unfold Li.wideHouse
  refine ws_cut (fun n => ∃ (p' : D) (base : Int), n = [some p', some (.int (most : Int)), some (.int base), none, none, none, none, none, none] ∧ Pen p' (b + 1) ∧ 1 ≤ base ∧ base ≤ 4) ?_ ?_
  · simp only [wpA, wpB, wpC, we_callr, reread, List.length_cons, List.length_nil, List.map_cons, List.map_nil, Option.bind_some, id, Nat.reduceAdd, Nat.reduceLT, if_true, if_pos, true_and, and_true, reduceIte, Bool.not_true, Bool.not_false, decide_true, decide_false, List.getElem?_cons_zero, List.getElem?_cons_succ, E.wr, wrL, List.append_nil, List.nil_append, List.singleton_append, List.cons_append]
    refine ⟨by decide, ?_⟩
    refine h1.use hp (by omega) (by decide) (by decide) fun r p1 P1 a0 a1 => ?_
    obtain ⟨base, hbm, eb⟩ := mem_ix (l := [1, 2, 3, 4]) a0 a1
    have eb : idxD (.lst [.int 1, .int 2, .int 3, .int 4]) (.int r) = some (.int base) := eb
    have hb1 : 1 ≤ base ∧ base ≤ 4 := by
      simp only [List.mem_cons, List.not_mem_nil, or_false] at hbm
      rcases hbm with rfl | rfl | rfl | rfl <;> omega
    rw [ixL] at eb
    simp only [wpA, wpB, wpC, we_callr, reread, List.length_cons, List.length_nil, List.map_cons, List.map_nil, Option.bind_some, id, Nat.reduceAdd, Nat.reduceLT, if_true, if_pos, true_and, and_true, reduceIte, Bool.not_true, Bool.not_false, decide_true, decide_false, List.getElem?_cons_zero, List.getElem?_cons_succ, E.wr, wrL, List.append_nil, List.nil_append, List.singleton_append, List.cons_append, eb]
    exact ⟨p1, base, rfl, P1, hb1.1, hb1.2⟩
  rintro _ ⟨p1, base, rfl, P1, hb1, hb2⟩
  have hf : 2 ≤ 8 / base := Int.le_ediv_of_mul_le (by omega) (by omega)
  have hf1 : 8 / base * base ≤ 8 := Int.ediv_mul_le _ (by omega)
  have hf2 : 2 ≤ 64 / base := Int.le_ediv_of_mul_le (by omega) (by omega)
  have hf3 : 64 / base * base ≤ 64 := Int.ediv_mul_le _ (by omega)
  refine ws_cut (fun n => ∃ (p' : D) (wide : Int), n = [some p', some (.int (most : Int)), some (.int base), some (.int wide), none, none, none, none, none] ∧ Pen p' (b + 2) ∧ 2 ≤ wide ∧ wide * base ≤ 64) ?_ ?_
  · simp only [wpA, wpB, wpC, we_callr, reread, List.length_cons, List.length_nil, List.map_cons, List.map_nil, Option.bind_some, id, Nat.reduceAdd, Nat.reduceLT, if_true, if_pos, true_and, and_true, reduceIte, Bool.not_true, Bool.not_false, decide_true, decide_false, List.getElem?_cons_zero, List.getElem?_cons_succ, E.wr, wrL, List.append_nil, List.nil_append, List.singleton_append, List.cons_append]
    refine ⟨⟨by omega, pw4000 (k := 64) (by omega) (by decide)⟩, ⟨by omega, pw4000 (k := 64) (by omega) (by decide)⟩, by decide, ?_⟩
    refine h1.use P1 (by omega) (by decide) (by decide) fun r p2 P2 a0 a1 => ?_
    obtain ⟨wide, hbm, eb⟩ := mem_ix (l := [64 / base, 8 / base]) a0 a1
    have eb : idxD (.lst [.int (64 / base), .int (8 / base)]) (.int r) = some (.int wide) := eb
    rw [ixL] at eb
    simp only [wpA, wpB, wpC, we_callr, reread, List.length_cons, List.length_nil, List.map_cons, List.map_nil, Option.bind_some, id, Nat.reduceAdd, Nat.reduceLT, if_true, if_pos, true_and, and_true, reduceIte, Bool.not_true, Bool.not_false, decide_true, decide_false, List.getElem?_cons_zero, List.getElem?_cons_succ, E.wr, wrL, List.append_nil, List.nil_append, List.singleton_append, List.cons_append, eb]
    refine ⟨p2, wide, rfl, P2, ?_⟩
    simp only [List.mem_cons, List.not_mem_nil, or_false] at hbm
    rcases hbm with rfl | rfl
    · exact ⟨hf2, hf3⟩
    · exact ⟨hf, by omega⟩
  rintro _ ⟨p2, wide, rfl, P2, hw1, hw2⟩
  have hw3 : wide ≤ 64 := by
    have : wide * 1 ≤ wide * base := Int.mul_le_mul_of_nonneg_left hb1 (by omega)
    omega
  refine ws_cut (fun n => ∃ (p' : D) (ps : List Int) (m : Nat), n = [some p', some (.int (most : Int)), some (.int base), some (.int wide), some (.lst (ps.map .int)), none, none, none, none] ∧ Pen p' (b + 3 + most) ∧ Pit ps ∧ 1 ≤ ps.length ∧ ps.length ≤ most) ?_ ?_
  · simp only [wpA, wpB, wpC, we_callr, reread, List.length_cons, List.length_nil, List.map_cons, List.map_nil, Option.bind_some, id, Nat.reduceAdd, Nat.reduceLT, if_true, if_pos, true_and, and_true, reduceIte, Bool.not_true, Bool.not_false, decide_true, decide_false, List.getElem?_cons_zero, List.getElem?_cons_succ, E.wr, wrL, List.append_nil, List.nil_append, List.singleton_append, List.cons_append]
    refine h1.use P2 (by omega) (by omega) (by omega) fun r p3 P3 a0 a1 => ?_
    obtain ⟨m, hmm, er⟩ : ∃ m : Nat, (1 ≤ m ∧ m ≤ most) ∧ 1 + r = (m : Int) := ⟨(1 + r).toNat, by omega, by omega⟩
    simp only [wpA, wpB, wpC, we_callr, reread, List.length_cons, List.length_nil, List.map_cons, List.map_nil, Option.bind_some, id, Nat.reduceAdd, Nat.reduceLT, if_true, if_pos, true_and, and_true, reduceIte, Bool.not_true, Bool.not_false, decide_true, decide_false, List.getElem?_cons_zero, List.getElem?_cons_succ, E.wr, wrL, List.append_nil, List.nil_append, List.singleton_append, List.cons_append, er, rgN (show m ≤ 16777216 by omega)]
    refine wc_ind (fun i acc n => ∃ (q : D) (x7 : Option D) (ps : List Int), n = [some q, some (.int (most : Int)), some (.int base), some (.int wide), none, none, none, x7, none] ∧ Pen q (b + 3 + i) ∧ acc = ps.map .int ∧ ps.length = i ∧ Pit ps) _ _ ⟨p3, none, [], rfl, P3, rfl, rfl, fun x hx => by simp at hx⟩ (by simp [big]; omega) ?_ ?_
    · rintro i d acc n hd ⟨q, x7, ps, rfl, Q, rfl, ls, hpit⟩
      have hi : i < m := by have := (List.getElem?_eq_some_iff.mp hd).1; simpa using this
      simp only [wpA, wpB, wpC, we_callr, reread, List.length_cons, List.length_nil, List.map_cons, List.map_nil, Option.bind_some, id, Nat.reduceAdd, Nat.reduceLT, if_true, if_pos, true_and, and_true, reduceIte, Bool.not_true, Bool.not_false, decide_true, decide_false, List.getElem?_cons_zero, List.getElem?_cons_succ, E.wr, wrL, List.append_nil, List.nil_append, List.singleton_append, List.cons_append]
      refine h1.use Q (by omega) (by omega) (by omega) fun r5 p5 P5 d0 d1 => ?_
      have hmul : base * (1 + r5) ≤ 64 := by
        have h1 : base * (1 + r5) ≤ base * wide := Int.mul_le_mul_of_nonneg_left (by omega) (by omega)
        rw [Int.mul_comm base wide] at h1
        omega
      have hmul0 : 0 ≤ base * (1 + r5) := Int.mul_nonneg (by omega) (by omega)
      simp only [wpA, wpB, wpC, we_callr, reread, List.length_cons, List.length_nil, List.map_cons, List.map_nil, Option.bind_some, id, Nat.reduceAdd, Nat.reduceLT, if_true, if_pos, true_and, and_true, reduceIte, Bool.not_true, Bool.not_false, decide_true, decide_false, List.getElem?_cons_zero, List.getElem?_cons_succ, E.wr, wrL, List.append_nil, List.nil_append, List.singleton_append, List.cons_append]
      refine ⟨mulL (by omega), p5, _, ps ++ [if base * (1 + r5) > 2 then base * (1 + r5) else 2], rfl, P5, by rw [List.map_append]; rfl, by simp [ls], fun x hx => ?_⟩
      rcases List.mem_append.mp hx with h | h
      · exact hpit x h
      · rw [List.mem_singleton.mp h]
        constructor <;> split <;> omega
    · rintro acc n ⟨q, x7, ps, rfl, Q, rfl, ls, hpit⟩
      rw [List.length_map, List.length_range] at Q ls
      simp only [wpA, wpB, wpC, we_callr, reread, List.length_cons, List.length_nil, List.map_cons, List.map_nil, Option.bind_some, id, Nat.reduceAdd, Nat.reduceLT, if_true, if_pos, true_and, and_true, reduceIte, Bool.not_true, Bool.not_false, decide_true, decide_false, List.getElem?_cons_zero, List.getElem?_cons_succ, E.wr, wrL, List.append_nil, List.nil_append, List.singleton_append, List.cons_append]
      exact ⟨q, ps, m, rfl, Q.up (by omega), hpit, by omega, by omega⟩
  rintro _ ⟨p3, ps, m, rfl, P3, hpit, lp1, lp2⟩
  simp only [wpA, wpB, wpC, we_callr, reread, List.length_cons, List.length_nil, List.map_cons, List.map_nil, Option.bind_some, id, Nat.reduceAdd, Nat.reduceLT, if_true, if_pos, true_and, and_true, reduceIte, Bool.not_true, Bool.not_false, decide_true, decide_false, List.getElem?_cons_zero, List.getElem?_cons_succ, E.wr, wrL, List.append_nil, List.nil_append, List.singleton_append, List.cons_append]
  refine h1.use P3 (by omega) (by decide) (by decide) fun pl p3 P3 c0 c1 => ?_
  simp only [wpA, wpB, wpC, we_callr, reread, List.length_cons, List.length_nil, List.map_cons, List.map_nil, Option.bind_some, id, Nat.reduceAdd, Nat.reduceLT, if_true, if_pos, true_and, and_true, reduceIte, Bool.not_true, Bool.not_false, decide_true, decide_false, List.getElem?_cons_zero, List.getElem?_cons_succ, E.wr, wrL, List.append_nil, List.nil_append, List.singleton_append, List.cons_append]
  refine wc_ind (fun i acc n => ∃ (q : D) (x5 : Option D) (ss : List Int), n = [some q, some (.int (most : Int)), some (.int base), some (.int wide), some (.lst (ps.map .int)), some (.int pl), none, none, x5] ∧ Pen q (b + 3 + most + 1 + i) ∧ acc = ss.map .int ∧ ss.length = i ∧ ∀ j < i, 1 ≤ ss.getD j 0 ∧ ss.getD j 0 < ps.getD j 2) _ _ ⟨p3, none, [], rfl, P3, rfl, rfl, fun j hj => by omega⟩ (by simp [big]; omega) ?_ ?_
  · rintro i d acc n hd ⟨q, x5, ss, rfl, Q, rfl, ls, hs⟩
    rw [List.getElem?_map] at hd
    obtain ⟨x, hx, rfl⟩ := Option.map_eq_some_iff.mp hd
    have hi : i < ps.length := (List.getElem?_eq_some_iff.mp hx).1
    have ex : ps.getD i 2 = x := by rw [List.getD_eq_getElem?_getD, hx]; rfl
    have hx2 := pit_at hpit i
    rw [ex] at hx2
    simp only [wpA, wpB, wpC, we_callr, reread, List.length_cons, List.length_nil, List.map_cons, List.map_nil, Option.bind_some, id, Nat.reduceAdd, Nat.reduceLT, if_true, if_pos, true_and, and_true, reduceIte, Bool.not_true, Bool.not_false, decide_true, decide_false, List.getElem?_cons_zero, List.getElem?_cons_succ, E.wr, wrL, List.append_nil, List.nil_append, List.singleton_append, List.cons_append]
    refine h1.use Q (by omega) (by omega) (by omega) fun r5 p5 P5 d0 d1 => ?_
    simp only [wpA, wpB, wpC, we_callr, reread, List.length_cons, List.length_nil, List.map_cons, List.map_nil, Option.bind_some, id, Nat.reduceAdd, Nat.reduceLT, if_true, if_pos, true_and, and_true, reduceIte, Bool.not_true, Bool.not_false, decide_true, decide_false, List.getElem?_cons_zero, List.getElem?_cons_succ, E.wr, wrL, List.append_nil, List.nil_append, List.singleton_append, List.cons_append]
    refine ⟨mulL (by omega), p5, _, ss ++ [1 + pl * r5], rfl, P5, by rw [List.map_append]; rfl, by simp [ls], fun j hj => ?_⟩
    by_cases e : j = i
    · subst e
      have e1 : (ss ++ [1 + pl * r5]).getD j 0 = 1 + pl * r5 := by simp [List.getD_eq_getElem?_getD, ls]
      rw [e1, ex]
      have : pl = 0 ∨ pl = 1 := by omega
      rcases this with h | h <;> subst h <;> omega
    · have e1 : (ss ++ [1 + pl * r5]).getD j 0 = ss.getD j 0 := by simp [List.getD_eq_getElem?_getD, List.getElem?_append_left (show j < ss.length by omega)]
      rw [e1]
      exact hs j (by omega)
  · rintro acc n ⟨q, x5, ss, rfl, Q, rfl, ls, hs⟩
    rw [List.length_map] at Q ls hs
    simp only [wpA, wpB, wpC, we_callr, reread, List.length_cons, List.length_nil, List.map_cons, List.map_nil, Option.bind_some, id, Nat.reduceAdd, Nat.reduceLT, if_true, if_pos, true_and, and_true, reduceIte, Bool.not_true, Bool.not_false, decide_true, decide_false, List.getElem?_cons_zero, List.getElem?_cons_succ, E.wr, wrL, List.append_nil, List.nil_append, List.singleton_append, List.cons_append]
    refine ⟨by decide, ?_⟩
    refine h1.use Q (by omega) (by decide) (by decide) fun r6 p6 P6 f0 f1 => ?_
    obtain ⟨hz, hzm, ez⟩ := mem_ix (l := [1, 1, 2, 3]) f0 f1
    have ez : idxD (.lst [.int 1, .int 1, .int 2, .int 3]) (.int r6) = some (.int hz) := ez
    rw [ixL] at ez
    have hz1 : 1 ≤ hz ∧ hz ≤ 3 := by
      simp only [List.mem_cons, List.not_mem_nil, or_false] at hzm
      rcases hzm with rfl | rfl | rfl | rfl <;> omega
    simp only [wpA, wpB, wpC, we_callr, reread, List.length_cons, List.length_nil, List.map_cons, List.map_nil, Option.bind_some, id, Nat.reduceAdd, Nat.reduceLT, if_true, if_pos, true_and, and_true, reduceIte, Bool.not_true, Bool.not_false, decide_true, decide_false, List.getElem?_cons_zero, List.getElem?_cons_succ, E.wr, wrL, List.append_nil, List.nil_append, List.singleton_append, List.cons_append, ez]
    have hzip : ∀ c ∈ ps.zip ss, combOk c ∧ c.2 < c.1 := fun c hc => by
      obtain ⟨j, hj, rfl⟩ := List.mem_iff_getElem.mp hc
      rw [List.length_zip] at hj
      rw [List.getElem_zip]
      have h1 := hs j (by omega)
      have h2 := pit_at hpit j
      have e1 : ps.getD j 2 = ps[j]'(by omega) := by simp [List.getD_eq_getElem?_getD, show j < ps.length by omega]
      have e2 : ss.getD j 0 = ss[j]'(by omega) := by simp [List.getD_eq_getElem?_getD, show j < ss.length by omega]
      rw [e1] at h1 h2
      rw [e2] at h1
      exact ⟨⟨h2.1, h2.2, h1.1, by show ss[j] ≤ 64; omega⟩, h1.2⟩
    refine ⟨by decide, hz.toNat, ps.zip ss, p6, ?_, rfl, P6.up (by omega), ⟨by omega, by omega, by rw [List.length_zip]; omega, by rw [List.length_zip]; omega, fun c hc => (hzip c hc).1⟩, by rw [List.length_zip]; omega⟩
    rw [zip_combs rfl rfl]
    unfold houseD
    rw [show ((hz.toNat : Nat) : Int) = hz by omega]
theorem someHouse_ok {Φ : Fns} (h0 : DrawOk (Φ 0)) {most : Nat} (h1 : EvHouseOk (Φ 1) most) (h2 : AnyHsOk (Φ 2) most) : ∀ p b, Pen p b → b < 2 ^ 26 → WR (Li.someHouse.run Φ [p, .int (most : Int)]) fun d o => ∃ (h : Nat) (cs : List (Int × Int)) (p' : D), d = houseD (h : Int) cs ∧ o = [p'] ∧ Pen p' (b + (3 * most + 10)) ∧ HsOk h cs ∧ cs.length ≤ most := fun p b hp hb => by
  refine wr_run rfl (by have := hp.isL (r := [some (.int (most : Int))]); simp [Li.someHouse, this]) ?_
  show WS Φ Li.someHouse.body [some p, some (.int (most : Int))] _
  unfold Li.someHouse
  simp only [wpA, wpB, wpC, we_callr, reread, List.length_cons, List.length_nil, List.map_cons, List.map_nil, Option.bind_some, id, Nat.reduceAdd, Nat.reduceLT, if_true, if_pos, true_and, and_true, reduceIte, Bool.not_true, Bool.not_false, decide_true, decide_false, List.getElem?_cons_zero, List.getElem?_cons_succ, E.wr, wrL, List.append_nil, List.nil_append, List.singleton_append, List.cons_append]
  refine h0.use hp (by omega) (by decide) (by decide) fun r p1 P1 a0 a1 => ?_
  simp only [wpA, wpB, wpC, we_callr, reread, List.length_cons, List.length_nil, List.map_cons, List.map_nil, Option.bind_some, id, Nat.reduceAdd, Nat.reduceLT, if_true, if_pos, true_and, and_true, reduceIte, Bool.not_true, Bool.not_false, decide_true, decide_false, List.getElem?_cons_zero, List.getElem?_cons_succ, E.wr, wrL, List.append_nil, List.nil_append, List.singleton_append, List.cons_append]
  by_cases hr : r = 0
  · rw [if_pos (by simpa using hr)]
    refine (h1 p1 _ P1 (by omega)).mono ?_
    rintro _ _ ⟨h, cs, p2, rfl, rfl, P2, hq, hl, _, _⟩
    exact ⟨rfl, h, cs, p2, rfl, rfl, P2.up (by omega), hq, hl⟩
  · rw [if_neg (by simpa using hr)]
    refine (h2 p1 _ P1 (by omega)).mono ?_
    rintro _ _ ⟨h, cs, p2, rfl, rfl, P2, hq, hl⟩
    exact ⟨rfl, h, cs, p2, rfl, rfl, P2.up (by omega), hq, hl⟩
end Sc
namespace Sc
open PySem PySem.Spec PyProof.Rows L2
def Li.roundOf : FnIR := ⟨5, 2, [], [], false, [
  .asg 2 (.cst (.int 1)),
  .fr (.nm 3) (.var 1) [.asg 4 (.idx (.idx (.idx (.var 0) (.cst (.int 1))) (.var 3)) (.cst (.int 0))), .asg 2 (.bin .mul (.bin .fdiv (.var 2) (.call 0 [.var 2, .var 4] [])) (.var 4))],
  .ret (.var 2)]⟩
def Li.meeting : FnIR := ⟨9, 4, [], [], false, [
  .ite (.cmp .isn (.call 0 [.var 0, .var 1, .var 2] []) (.cst .non)) [.ret (.cst .non)] [],
  .asg 4 (.cst (.int 0)),
  .asg 5 (.cst (.int 1)),
  .fr (.tp [.nm 6, .nm 7]) (.enm (.var 2)) [.asg 8 (.idx (.idx (.idx (.var 0) (.cst (.int 1))) (.var 7)) (.cst (.int 0))), .wh (.cmp .ne (.bin .mod (.bin .sub (.var 4) (.idx (.var 1) (.var 7))) (.var 8)) (.cst (.int 0))) [.aug 4 .add (.var 5)], .asg 5 (.call 1 [.var 0, .slc (.var 2) (.no) (.bin .add (.var 6) (.cst (.int 1)))] [])],
  .ret (.bin .add (.var 3) (.bin .mod (.bin .sub (.var 4) (.var 3)) (.var 5)))]⟩
-- the same as ['some_']
def pN (cs : List (Int × Int)) (k : Nat) : Nat := (P cs k).toNat
def rnd (cs : List (Int × Int)) (l : List Nat) : Nat := l.foldl (fun a k => Nat.lcm a (pN cs k)) 1
theorem pN_eq {cs : List (Int × Int)} (h : Cs' cs) (k : Nat) : (pN cs k : Int) = P cs k ∧ 2 ≤ pN cs k ∧ pN cs k ≤ 64 := by
  have := P_pos h k
  unfold pN
  omega
theorem rnd_snoc {cs : List (Int × Int)} {l : List Nat} {k : Nat} : rnd cs (l ++ [k]) = Nat.lcm (rnd cs l) (pN cs k) := by
  unfold rnd
  rw [List.foldl_append]
  rfl
theorem lcm_bound {a b B : Nat} (ha : a ≤ B) (hb : b ≤ 64) : Nat.lcm a b ≤ B * 64 := by
  unfold Nat.lcm
  exact Nat.le_trans (Nat.div_le_self _ _) (Nat.mul_le_mul ha hb)
theorem rnd_pos {cs : List (Int × Int)} (h : Cs' cs) : ∀ (n : Nat) (l : List Nat), l.length = n → 0 < rnd cs l ∧ rnd cs l ≤ 64 ^ l.length
  | 0, l, e => by
    rw [List.length_eq_zero_iff.mp e]
    exact ⟨Nat.one_pos, Nat.le_refl _⟩
  | n + 1, l, e => by
    obtain ⟨l, k, rfl⟩ : ∃ r k, l = r ++ [k] := ⟨l.dropLast, l.getLast (fun e2 => by rw [e2] at e; cases e), (List.dropLast_concat_getLast _).symm⟩
    have ih := rnd_pos h n l (by rw [List.length_append] at e; simpa using e)
    rw [rnd_snoc]
    have hp := pN_eq h k
    refine ⟨Nat.lcm_pos ih.1 (by omega), ?_⟩
    rw [List.length_append]
    show _ ≤ 64 ^ (l.length + 1)
    rw [Nat.pow_succ]
    exact lcm_bound ih.2 hp.2.2
theorem lcm_step {a p : Nat} : a / Nat.gcd a p * p = Nat.lcm a p := by
  unfold Nat.lcm
  exact Nat.div_mul_right_comm (Nat.gcd_dvd_left a p) p
def RoundOk (F : Fn) : Prop := ∀ h cs (l : List Nat), Cs' cs → l.length ≤ 10 → (∀ k ∈ l, k < cs.length) → F [houseD h cs, rowD l] = .ok (.int (rnd cs l : Nat)) []
theorem round_ok {Φ : Fns} (h0 : DivOk (Φ 0)) : RoundOk (Li.roundOf.run Φ) := fun h cs l hc hl hk => by
  refine eq_of_wr (wr_run rfl rfl ?_)
  show WS Φ Li.roundOf.body [some (houseD h cs), some (rowD l), none, none, none] _
  unfold Li.roundOf rowD
  simp only [wpA, wpB, wpC, we_callr, reread, List.length_cons, List.length_nil, List.map_cons, List.map_nil, Option.bind_some, id, Nat.reduceAdd, Nat.reduceLT, if_true, if_pos, true_and, and_true, reduceIte, Bool.not_true, Bool.not_false, decide_true, decide_false, List.getElem?_cons_zero, List.getElem?_cons_succ, E.wr, wrL, List.append_nil, List.nil_append, List.singleton_append, List.cons_append]
  refine ws_for (fun i n => ∃ x3 x4, n = [some (houseD h cs), some (.tup (l.map nD)), some (.int (rnd cs (l.take i) : Nat)), x3, x4]) ⟨_, _, rfl⟩ ?_ ?_
  · rintro i d n hd ⟨x3, x4, rfl⟩
    obtain ⟨k, hkk, rfl⟩ := row_at hd
    have hi := (List.getElem?_eq_some_iff.mp hkk).1
    have hkl := hk k (List.mem_of_getElem? hkk)
    have hp := pN_eq hc k
    have hp0 : (cs.getD k (2, 1)).1 = ((pN cs k : Nat) : Int) := hp.1.symm
    have hr := rnd_pos hc _ (l.take i) rfl
    have e := h0 (rnd cs (l.take i) : Nat) (pN cs k : Nat) (by omega) (by omega)
    have eg : Int.gcd (rnd cs (l.take i) : Nat) (pN cs k : Nat) = Nat.gcd (rnd cs (l.take i)) (pN cs k) := rfl
    have et : l.take (i + 1) = l.take i ++ [k] := by rw [List.take_succ, hkk]; rfl
    rw [eg] at e
    simp only [wpA, wpB, wpC, we_callr, reread, List.length_cons, List.length_nil, List.map_cons, List.map_nil, Option.bind_some, id, Nat.reduceAdd, Nat.reduceLT, if_true, if_pos, true_and, and_true, reduceIte, Bool.not_true, Bool.not_false, decide_true, decide_false, List.getElem?_cons_zero, List.getElem?_cons_succ, E.wr, wrL, List.append_nil, List.nil_append, List.singleton_append, List.cons_append, hCs, cAt hkl, cPit, hp0, e]
    have hlen : (l.take i).length ≤ 10 := by rw [List.length_take]; omega
    have hr2 : rnd cs (l.take i) ≤ 64 ^ 10 := Nat.le_trans hr.2 (Nat.pow_le_pow_right (by decide) hlen)
    have hg : 0 < Nat.gcd (rnd cs (l.take i)) (pN cs k) := Nat.gcd_pos_of_pos_left _ hr.1
    have hg2 : Nat.gcd (rnd cs (l.take i)) (pN cs k) ≤ 64 := Nat.le_trans (Nat.gcd_le_right _ (by omega)) hp.2.2
    have eq1 : ((rnd cs (l.take i) : Nat) : Int) / ((Nat.gcd (rnd cs (l.take i)) (pN cs k) : Nat) : Int) = ((rnd cs (l.take i) / Nat.gcd (rnd cs (l.take i)) (pN cs k) : Nat) : Int) := rfl
    have hd1 : rnd cs (l.take i) / Nat.gcd (rnd cs (l.take i)) (pN cs k) ≤ 64 ^ 10 := Nat.le_trans (Nat.div_le_self _ _) hr2
    rw [eq1]
    refine ⟨⟨by omega, pw4000 (k := 64) (by omega) (by decide)⟩, mulR (show ((pN cs k : Nat) : Int).natAbs < 2 ^ 64 by omega), some (.int (k : Int)), some (.int (pN cs k : Nat)), ?_⟩
    rw [et, rnd_snoc, ← lcm_step]
    rfl
  · rintro n ⟨x3, x4, rfl⟩
    rw [List.length_map, List.take_length]
    simp only [wpA, wpB, wpC, we_callr, reread, List.length_cons, List.length_nil, List.map_cons, List.map_nil, Option.bind_some, id, Nat.reduceAdd, Nat.reduceLT, if_true, if_pos, true_and, and_true, reduceIte, Bool.not_true, Bool.not_false, decide_true, decide_false, List.getElem?_cons_zero, List.getElem?_cons_succ, E.wr, wrL, List.append_nil, List.nil_append, List.singleton_append, List.cons_append]
theorem gcd_lcm_dvd {a b c m : Nat} (hc : 0 < c) (h1 : Nat.gcd a c ∣ m) (h2 : Nat.gcd b c ∣ m) : Nat.gcd (Nat.lcm a b) c ∣ m := by
  refine Nat.dvd_trans ?_ (Nat.lcm_dvd h1 h2)
  have he : 0 < Nat.gcd (Nat.gcd a c) (Nat.gcd b c) := Nat.gcd_pos_of_pos_left _ (Nat.gcd_pos_of_pos_right _ hc)
  have ea : Nat.gcd (Nat.gcd a c) (Nat.gcd b c) ∣ a := Nat.dvd_trans (Nat.gcd_dvd_left _ _) (Nat.gcd_dvd_left _ _)
  have eb : Nat.gcd (Nat.gcd a c) (Nat.gcd b c) ∣ b := Nat.dvd_trans (Nat.gcd_dvd_right _ _) (Nat.gcd_dvd_left _ _)
  have ec : Nat.gcd (Nat.gcd a c) (Nat.gcd b c) ∣ c := Nat.dvd_trans (Nat.gcd_dvd_right _ _) (Nat.gcd_dvd_right _ _)
  have dl : Nat.gcd (Nat.lcm a b) c ∣ Nat.lcm a b := Nat.gcd_dvd_left _ _
  have dc : Nat.gcd (Nat.lcm a b) c ∣ c := Nat.gcd_dvd_right _ _
  refine Nat.dvd_of_mul_dvd_mul_right he ?_
  rw [Nat.mul_comm (Nat.lcm (Nat.gcd a c) (Nat.gcd b c)), Nat.gcd_mul_lcm, show Nat.gcd a c * Nat.gcd b c = Nat.gcd (a * Nat.gcd b c) (c * Nat.gcd b c) from (Nat.gcd_mul_right a (Nat.gcd b c) c).symm]
  refine Nat.dvd_gcd ?_ ?_
  · rw [show a * Nat.gcd b c = Nat.gcd (a * b) (a * c) from (Nat.gcd_mul_left a b c).symm]
    refine Nat.dvd_gcd ?_ (by rw [Nat.mul_comm a c]; exact Nat.mul_dvd_mul dc ea)
    rw [← Nat.gcd_mul_lcm a b, Nat.mul_comm]
    exact Nat.mul_dvd_mul (Nat.dvd_gcd ea eb) dl
  · rw [show c * Nat.gcd b c = Nat.gcd (c * b) (c * c) from (Nat.gcd_mul_left c b c).symm]
    exact Nat.dvd_gcd (Nat.mul_dvd_mul dc eb) (Nat.mul_dvd_mul dc ec)
theorem rnd_gcd {cs : List (Int × Int)} {c m : Nat} (hc : 0 < c) : ∀ (n : Nat) (l : List Nat), l.length = n → (∀ j ∈ l, Nat.gcd (pN cs j) c ∣ m) → Nat.gcd (rnd cs l) c ∣ m
  | 0, l, e, _ => by
    rw [List.length_eq_zero_iff.mp e]
    show Nat.gcd 1 c ∣ m
    rw [Nat.gcd_one_left]
    exact Nat.one_dvd m
  | n + 1, l, e, h => by
    obtain ⟨l, k, rfl⟩ : ∃ r k, l = r ++ [k] := ⟨l.dropLast, l.getLast (fun e2 => by rw [e2] at e; cases e), (List.dropLast_concat_getLast _).symm⟩
    rw [rnd_snoc]
    exact gcd_lcm_dvd hc (rnd_gcd hc n l (by rw [List.length_append] at e; simpa using e) fun j hj => h j (List.mem_append_left _ hj)) (h k (List.mem_append_right _ (List.mem_singleton_self k)))
theorem rnd_dvd {cs : List (Int × Int)} : ∀ (n : Nat) (l : List Nat), l.length = n → ∀ j ∈ l, pN cs j ∣ rnd cs l
  | 0, l, e, j, hj => by rw [List.length_eq_zero_iff.mp e] at hj; cases hj
  | n + 1, l, e, j, hj => by
    obtain ⟨l, k, rfl⟩ : ∃ r k, l = r ++ [k] := ⟨l.dropLast, l.getLast (fun e2 => by rw [e2] at e; cases e), (List.dropLast_concat_getLast _).symm⟩
    rw [rnd_snoc]
    rcases List.mem_append.mp hj with h | h
    · exact Nat.dvd_trans (rnd_dvd n l (by rw [List.length_append] at e; simpa using e) j h) (Nat.dvd_lcm_left _ _)
    · rw [List.mem_singleton.mp h]; exact Nat.dvd_lcm_right _ _
end Sc
namespace Sc
open PySem PySem.Spec PyProof.Rows L2
def MeetingOk (F : Fn) : Prop := ∀ h cs ss (l : List Nat) (start : Int), Cs' cs → ss.length = cs.length → l.length ≤ 10 → (∀ k ∈ l, k < cs.length) → WR (F [houseD h cs, stD ss, rowD l, .int start]) fun d o => o = [] ∧ if mts (al cs ss) l = true then ∃ x, d = .int x ∧ start ≤ x ∧ x < start + (rnd cs l : Nat) ∧ ∀ k ∈ l, (x - ss.getD k 0) % P cs k = 0 else d = .non
theorem meeting_ok {Φ : Fns} (h0 : UnlikeOk (Φ 0)) (h1 : RoundOk (Φ 1)) : MeetingOk (Li.meeting.run Φ) := fun h cs ss l start hc hl hl10 hk => by
  refine wr_run rfl rfl ?_
  show WS Φ Li.meeting.body [some (houseD h cs), some (stD ss), some (rowD l), some (.int start), none, none, none, none, none] _
  unfold Li.meeting
  have eu := h0 h cs ss l hc hl hk
  refine ws_cut (fun n => n = [some (houseD h cs), some (stD ss), some (rowD l), some (.int start), none, none, none, none, none] ∧ mts (al cs ss) l = true) ?_ ?_
  · simp only [wpA, wpB, wpC, we_callr, reread, List.length_cons, List.length_nil, List.map_cons, List.map_nil, Option.bind_some, id, Nat.reduceAdd, Nat.reduceLT, if_true, if_pos, true_and, and_true, reduceIte, Bool.not_true, Bool.not_false, decide_true, decide_false, List.getElem?_cons_zero, List.getElem?_cons_succ, E.wr, wrL, List.append_nil, List.nil_append, List.singleton_append, List.cons_append, eu]
    rw [isNon_unl]
    show if (!mts (al cs ss) l) = true then _ else _
    cases hb : mts (al cs ss) l with
    | true => rw [if_neg (by decide)]
    | false =>
      rw [if_pos (by decide), if_neg Bool.false_ne_true]
      trivial
  rintro _ ⟨rfl, hm⟩
  have hpw := mts_iff.mp hm
  unfold rowD
  simp only [wpA, wpB, wpC, we_callr, reread, List.length_cons, List.length_nil, List.map_cons, List.map_nil, Option.bind_some, id, Nat.reduceAdd, Nat.reduceLT, if_true, if_pos, true_and, and_true, reduceIte, Bool.not_true, Bool.not_false, decide_true, decide_false, List.getElem?_cons_zero, List.getElem?_cons_succ, E.wr, wrL, List.append_nil, List.nil_append, List.singleton_append, List.cons_append]
  refine ws_for (fun i n => ∃ (place : Int) (x6 x7 x8 : Option D), n = [some (houseD h cs), some (stD ss), some (.tup (l.map nD)), some (.int start), some (.int place), some (.int (rnd cs (l.take i) : Nat)), x6, x7, x8] ∧ ∀ k ∈ l.take i, (place - ss.getD k 0) % P cs k = 0) ⟨0, _, _, _, rfl, fun k hk => by simp at hk⟩ ?_ ?_
  · rintro i d n hd ⟨place, x6, x7, x8, rfl, hpl⟩
    obtain ⟨x, hx, rfl⟩ := enm_at hd
    obtain ⟨k, hkk, rfl⟩ := row_at hx
    have hi := (List.getElem?_eq_some_iff.mp hkk).1
    have hkl := hk k (List.mem_of_getElem? hkk)
    have hp := pN_eq hc k
    have hr := rnd_pos hc _ (l.take i) rfl
    have hdv := rnd_dvd (cs := cs) _ (l.take i) rfl
    have hal : ∀ j ∈ l.take i, al cs ss j k = true := fun j hj => by
      have h1 := hpw
      rw [← List.take_append_drop i l, List.pairwise_append] at h1
      exact h1.2.2 j hj k (by rw [List.drop_eq_getElem_cons hi]; rw [List.getElem?_eq_getElem hi] at hkk; rw [Option.some.inj hkk]; exact List.mem_cons_self)
    have hgc : (Int.gcd ((rnd cs (l.take i) : Nat) : Int) (P cs k) : Int) ∣ ss.getD k 0 - place := by
      have h1 : Nat.gcd (rnd cs (l.take i)) (pN cs k) ∣ (ss.getD k 0 - place).natAbs := rnd_gcd (by omega) _ _ rfl fun j hj => by
        have a1 := Int.dvd_of_emod_eq_zero (hpl j hj)
        have a2 := hal j hj
        unfold al at a2
        have a3 := Int.dvd_of_emod_eq_zero (of_decide_eq_true a2)
        have hpj := pN_eq hc j
        have e1 : com cs j k = ((Nat.gcd (pN cs j) (pN cs k) : Nat) : Int) := by
          unfold com
          rw [← hpj.1, ← hp.1]
          rfl
        rw [e1] at a3
        have a4 : ((Nat.gcd (pN cs j) (pN cs k) : Nat) : Int) ∣ P cs j := by
          rw [← hpj.1]
          exact Int.natCast_dvd_natCast.mpr (Nat.gcd_dvd_left _ _)
        have a5 := Int.dvd_add (Int.dvd_trans a4 a1) a3
        rw [show place - ss.getD j 0 + (ss.getD j 0 - ss.getD k 0) = -(ss.getD k 0 - place) by omega] at a5
        exact Int.ofNat_dvd_left.mp (Int.dvd_neg.mp a5)
      rw [← hp.1]
      exact Int.ofNat_dvd_left.mpr h1
    obtain ⟨m, _, hm2⟩ := steps (by omega) (by omega) hgc
    simp only [wpA, wpB, wpC, we_callr, reread, List.length_cons, List.length_nil, List.map_cons, List.map_nil, Option.bind_some, id, Nat.reduceAdd, Nat.reduceLT, if_true, if_pos, true_and, and_true, reduceIte, Bool.not_true, Bool.not_false, decide_true, decide_false, List.getElem?_cons_zero, List.getElem?_cons_succ, E.wr, wrL, List.append_nil, List.nil_append, List.singleton_append, List.cons_append, hCs, cAt hkl, cPit]
    refine ws_while (fun n => ∃ (place' : Int) (t : Nat), n = [some (houseD h cs), some (stD ss), some (.tup (l.map nD)), some (.int start), some (.int place'), some (.int (rnd cs (l.take i) : Nat)), some (.int (i : Int)), some (.int (k : Int)), some (.int (P cs k))] ∧ place' + t * (rnd cs (l.take i) : Nat) = place + m * (rnd cs (l.take i) : Nat) ∧ ∀ j ∈ l.take i, (place' - ss.getD j 0) % P cs j = 0) (fun n => match n with | [_, _, _, _, some (.int y), _, _, _, _] => (place + m * (rnd cs (l.take i) : Nat) - y).toNat | _ => 0) ⟨place, m, rfl, rfl, hpl⟩ ?_
    rintro _ ⟨place', t, rfl, q1, q2⟩
    have es : idxD (stD ss) (.int (k : Int)) = some (.int (ss.getD k 0)) := sAt (by omega)
    simp only [wpA, wpB, wpC, we_callr, reread, List.length_cons, List.length_nil, List.map_cons, List.map_nil, Option.bind_some, id, Nat.reduceAdd, Nat.reduceLT, if_true, if_pos, true_and, and_true, reduceIte, Bool.not_true, Bool.not_false, decide_true, decide_false, List.getElem?_cons_zero, List.getElem?_cons_succ, E.wr, wrL, List.append_nil, List.nil_append, List.singleton_append, List.cons_append, es]
    refine ⟨by omega, ?_⟩
    by_cases hz : (place' - ss.getD k 0) % P cs k = 0
    · rw [if_neg (by rw [decide_eq_true hz]; decide)]
      have er := h1 h cs (l.take (i + 1)) hc (by rw [List.length_take]; omega) (fun j hj => hk j (List.mem_of_mem_take hj))
      have ec : slcD (.tup (l.map nD)) .non (.int ((i : Int) + 1)) = some (rowD (l.take (i + 1))) := by
        rw [show ((i : Int) + 1) = ((i + 1 : Nat) : Int) from rfl, cut_to (by rw [List.length_map]; omega), ← List.map_take]
        rfl
      simp only [wpA, wpB, wpC, we_callr, reread, List.length_cons, List.length_nil, List.map_cons, List.map_nil, Option.bind_some, id, Nat.reduceAdd, Nat.reduceLT, if_true, if_pos, true_and, and_true, reduceIte, Bool.not_true, Bool.not_false, decide_true, decide_false, List.getElem?_cons_zero, List.getElem?_cons_succ, E.wr, wrL, List.append_nil, List.nil_append, List.singleton_append, List.cons_append, we_opt (show (E.bin Bop.add (E.var 6) (E.cst (D.int 1))).isNo = false from rfl), ec, er]
      refine ⟨place', _, _, _, rfl, fun j hj => ?_⟩
      rw [show l.take (i + 1) = l.take i ++ [k] by rw [List.take_succ, hkk]; rfl] at hj
      rcases List.mem_append.mp hj with h | h
      · exact q2 j h
      · rw [List.mem_singleton.mp h]; exact hz
    · rw [if_pos (by rw [decide_eq_false hz]; rfl)]
      obtain ⟨t', rfl⟩ : ∃ t', t = t' + 1 := by
        cases t with
        | zero =>
          have q1' : place' = place + (m : Int) * ((rnd cs (l.take i) : Nat) : Int) := by rw [← q1]; simp
          refine absurd ?_ hz
          rw [show place' - ss.getD k 0 = (m : Int) * ((rnd cs (l.take i) : Nat) : Int) - (ss.getD k 0 - place) by omega]
          exact hm2
        | succ t' => exact ⟨t', rfl⟩
      have q3 : place' + ((rnd cs (l.take i) : Nat) : Int) + (t' : Int) * ((rnd cs (l.take i) : Nat) : Int) = place + (m : Int) * ((rnd cs (l.take i) : Nat) : Int) := by
        rw [← q1, show ((t' + 1 : Nat) : Int) = (t' : Int) + 1 from rfl, Int.add_mul, Int.one_mul]
        omega
      have hnn : 0 ≤ (t' : Int) * ((rnd cs (l.take i) : Nat) : Int) := Int.mul_nonneg (by omega) (by omega)
      refine ⟨⟨_, t', rfl, q3, fun j hj => ?_⟩, by omega⟩
      have a1 := Int.dvd_of_emod_eq_zero (q2 j hj)
      have a2 : P cs j ∣ ((rnd cs (l.take i) : Nat) : Int) := by
        rw [← (pN_eq hc j).1]
        exact Int.natCast_dvd_natCast.mpr (hdv j hj)
      refine Int.emod_eq_zero_of_dvd ?_
      rw [show place' + ((rnd cs (l.take i) : Nat) : Int) - ss.getD j 0 = (place' - ss.getD j 0) + ((rnd cs (l.take i) : Nat) : Int) by omega]
      exact Int.dvd_add a1 a2
  · rintro n ⟨place, x6, x7, x8, rfl, hpl⟩
    rw [enm_len, List.length_map, List.take_length] at *
    simp only [wpA, wpB, wpC, we_callr, reread, List.length_cons, List.length_nil, List.map_cons, List.map_nil, Option.bind_some, id, Nat.reduceAdd, Nat.reduceLT, if_true, if_pos, true_and, and_true, reduceIte, Bool.not_true, Bool.not_false, decide_true, decide_false, List.getElem?_cons_zero, List.getElem?_cons_succ, E.wr, wrL, List.append_nil, List.nil_append, List.singleton_append, List.cons_append]
    have hr := rnd_pos hc _ l rfl
    have hdv := rnd_dvd (cs := cs) _ l rfl
    refine ⟨by omega, ?_⟩
    rw [if_pos hm]
    have b1 := Int.emod_nonneg (place - start) (show ((rnd cs l : Nat) : Int) ≠ 0 by omega)
    have b2 := Int.emod_lt_of_pos (place - start) (show (0 : Int) < ((rnd cs l : Nat) : Int) by omega)
    refine ⟨by omega, by omega, fun k hkl => ?_⟩
    have a1 := Int.dvd_of_emod_eq_zero (hpl k hkl)
    have a2 : P cs k ∣ ((rnd cs l : Nat) : Int) := by
      rw [← (pN_eq hc k).1]
      exact Int.natCast_dvd_natCast.mpr (hdv k hkl)
    refine Int.emod_eq_zero_of_dvd ?_
    rw [Int.emod_def, show start + (place - start - ((rnd cs l : Nat) : Int) * ((place - start) / ((rnd cs l : Nat) : Int))) - ss.getD k 0 = (place - ss.getD k 0) - ((rnd cs l : Nat) : Int) * ((place - start) / ((rnd cs l : Nat) : Int)) by omega]
    exact Int.dvd_sub a1 (Int.dvd_trans a2 (Int.dvd_mul_right _ _))
end Sc
namespace Sc
open PySem PySem.Spec PyProof.Rows L2
def Li.wRound : FnIR := ⟨4, 2, [], [], false, [
  .asg 2 (.cst (.int 1)),
  .fr (.nm 3) (.var 1) [.asg 2 (.bin .fdiv (.bin .mul (.var 2) (.idx (.idx (.idx (.var 0) (.cst (.int 1))) (.var 3)) (.cst (.int 0)))) (.call 0 [.var 2, .idx (.idx (.idx (.var 0) (.cst (.int 1))) (.var 3)) (.cst (.int 0))] []))],
  .ret (.var 2)]⟩
theorem rnd_all {cs : List (Int × Int)} {m : Nat} : ∀ (n : Nat) (l : List Nat), l.length = n → (∀ j ∈ l, pN cs j ∣ m) → rnd cs l ∣ m
  | 0, l, e, _ => by
    rw [List.length_eq_zero_iff.mp e]
    exact Nat.one_dvd m
  | n + 1, l, e, h => by
    obtain ⟨l, k, rfl⟩ : ∃ r k, l = r ++ [k] := ⟨l.dropLast, l.getLast (fun e2 => by rw [e2] at e; cases e), (List.dropLast_concat_getLast _).symm⟩
    rw [rnd_snoc]
    exact Nat.lcm_dvd (rnd_all n l (by rw [List.length_append] at e; simpa using e) fun j hj => h j (List.mem_append_left _ hj)) (h k (List.mem_append_right _ (List.mem_singleton_self k)))
/-- two places on a tooth of each, less than a round from one start: one -/
theorem meet_eq {cs : List (Int × Int)} {ss : List Int} {l : List Nat} {x y start : Int} (hc : Cs' cs) (hx : ∀ k ∈ l, (x - ss.getD k 0) % P cs k = 0) (hy : ∀ k ∈ l, (y - ss.getD k 0) % P cs k = 0) (x1 : start ≤ x) (x2 : x < start + (rnd cs l : Nat)) (y1 : start ≤ y) (y2 : y < start + (rnd cs l : Nat)) : x = y := by
  have hd : ((rnd cs l : Nat) : Int) ∣ x - y := by
    refine Int.ofNat_dvd_left.mpr (rnd_all _ l rfl fun j hj => ?_)
    have a1 := Int.dvd_of_emod_eq_zero (hx j hj)
    have a2 := Int.dvd_of_emod_eq_zero (hy j hj)
    have a3 := Int.dvd_sub a1 a2
    rw [show x - ss.getD j 0 - (y - ss.getD j 0) = x - y by omega, ← (pN_eq hc j).1] at a3
    exact Int.ofNat_dvd_left.mp a3
  obtain ⟨q, hq⟩ := hd
  have hr := (rnd_pos hc _ l rfl).1
  rcases (by omega : q ≤ -1 ∨ q = 0 ∨ 1 ≤ q) with h | h | h
  · have : ((rnd cs l : Nat) : Int) * q ≤ ((rnd cs l : Nat) : Int) * (-1) := Int.mul_le_mul_of_nonneg_left h (by omega)
    omega
  · rw [h, Int.mul_zero] at hq
    omega
  · have : ((rnd cs l : Nat) : Int) * 1 ≤ ((rnd cs l : Nat) : Int) * q := Int.mul_le_mul_of_nonneg_left h (by omega)
    omega
theorem wRound_ok {Φ : Fns} (h0 : DivOk (Φ 0)) : RoundOk (Li.wRound.run Φ) := fun h cs l hc hl hk => by
  refine eq_of_wr (wr_run rfl rfl ?_)
  show WS Φ Li.wRound.body [some (houseD h cs), some (rowD l), none, none] _
  unfold Li.wRound rowD
  simp only [wpA, wpB, wpC, we_callr, reread, List.length_cons, List.length_nil, List.map_cons, List.map_nil, Option.bind_some, id, Nat.reduceAdd, Nat.reduceLT, if_true, if_pos, true_and, and_true, reduceIte, Bool.not_true, Bool.not_false, decide_true, decide_false, List.getElem?_cons_zero, List.getElem?_cons_succ, E.wr, wrL, List.append_nil, List.nil_append, List.singleton_append, List.cons_append]
  refine ws_for (fun i n => ∃ x3, n = [some (houseD h cs), some (.tup (l.map nD)), some (.int (rnd cs (l.take i) : Nat)), x3]) ⟨_, rfl⟩ ?_ ?_
  · rintro i d n hd ⟨x3, rfl⟩
    obtain ⟨k, hkk, rfl⟩ := row_at hd
    have hi := (List.getElem?_eq_some_iff.mp hkk).1
    have hkl := hk k (List.mem_of_getElem? hkk)
    have hp := pN_eq hc k
    have hp0 : (cs.getD k (2, 1)).1 = ((pN cs k : Nat) : Int) := hp.1.symm
    have hr := rnd_pos hc _ (l.take i) rfl
    have e := h0 (rnd cs (l.take i) : Nat) (pN cs k : Nat) (by omega) (by omega)
    have eg : Int.gcd (rnd cs (l.take i) : Nat) (pN cs k : Nat) = Nat.gcd (rnd cs (l.take i)) (pN cs k) := rfl
    have et : l.take (i + 1) = l.take i ++ [k] := by rw [List.take_succ, hkk]; rfl
    rw [eg] at e
    have hg : 0 < Nat.gcd (rnd cs (l.take i)) (pN cs k) := Nat.gcd_pos_of_pos_left _ hr.1
    have hg2 : Nat.gcd (rnd cs (l.take i)) (pN cs k) ≤ 64 := Nat.le_trans (Nat.gcd_le_right _ (by omega)) hp.2.2
    simp only [wpA, wpB, wpC, we_callr, reread, List.length_cons, List.length_nil, List.map_cons, List.map_nil, Option.bind_some, id, Nat.reduceAdd, Nat.reduceLT, if_true, if_pos, true_and, and_true, reduceIte, Bool.not_true, Bool.not_false, decide_true, decide_false, List.getElem?_cons_zero, List.getElem?_cons_succ, E.wr, wrL, List.append_nil, List.nil_append, List.singleton_append, List.cons_append, hCs, cAt hkl, cPit, hp0, e]
    refine ⟨mulR (show ((pN cs k : Nat) : Int).natAbs < 2 ^ 64 by omega), ⟨by omega, pw4000 (k := 64) (by omega) (by decide)⟩, some (.int (k : Int)), ?_⟩
    rw [et, rnd_snoc]
    rfl
  · rintro n ⟨x3, rfl⟩
    rw [List.length_map, List.take_length]
    simp only [wpA, wpB, wpC, we_callr, reread, List.length_cons, List.length_nil, List.map_cons, List.map_nil, Option.bind_some, id, Nat.reduceAdd, Nat.reduceLT, if_true, if_pos, true_and, and_true, reduceIte, Bool.not_true, Bool.not_false, decide_true, decide_false, List.getElem?_cons_zero, List.getElem?_cons_succ, E.wr, wrL, List.append_nil, List.nil_append, List.singleton_append, List.cons_append]
end Sc
namespace Sc
open PySem PySem.Spec PyProof.Rows L2
def Li.wGreedy : FnIR := ⟨5, 3, [0], [], false, [
  .asg 3 (.tup []),
  .fr (.nm 4) (.rng .no (.bi .len [.var 2])) [.ite (.an (.cmp .gt (.call 1 [.var 0, .cst (.int 4)] [0]) (.cst (.int 0))) (.call 0 [.var 1, .var 2, .bin .add (.var 3) (.tup [.var 4])] [])) [.asg 3 (.bin .add (.var 3) (.tup [.var 4]))] []],
  .ret (.var 3)]⟩
def Li.meetRight : FnIR := ⟨7, 4, [], [], false, [
  .asg 4 (.callk 0 3 ["start"] [.var 0, .var 1, .var 2, .var 3] [.at 0, .at 1, .at 2, .at 3]),
  .ite (.nt (.call 1 [.var 0, .var 1, .var 2] [])) [.ret (.cmp .is_ (.var 4) (.cst .non))] [],
  .asg 5 (.call 2 [.var 0, .var 2] []),
  .ite (.or (.nt (.bi .isi [.var 4, .cst (.ty "int")])) (.or (.bi .isi [.var 4, .cst (.ty "bool")]) (.nt (.chn .le .lt (.var 3) (.var 4) (.bin .add (.var 3) (.var 5)))))) [.ret (.cst (.bl false))] [],
  .ite (.cmp .ne (.lc (.cst (.int 1)) (.nm 6) (.var 2) (.cmp .ne (.bin .mod (.bin .sub (.var 4) (.idx (.var 1) (.var 6))) (.idx (.idx (.idx (.var 0) (.cst (.int 1))) (.var 6)) (.cst (.int 0)))) (.cst (.int 0))) [6]) (.lst [])) [.ret (.cst (.bl false))] [],
  .ite (.cmp .ne (.callk 0 3 ["start"] [.var 0, .var 1, .var 2, .var 4] [.at 0, .at 1, .at 2, .at 3]) (.var 4)) [.ret (.cst (.bl false))] [],
  .ret (.cmp .eq (.callk 0 3 ["start"] [.var 0, .var 1, .var 2, .bin .add (.var 4) (.cst (.int 1))] [.at 0, .at 1, .at 2, .at 3]) (.bin .add (.var 4) (.var 5)))]⟩
def GreedyOk (F : Fn) : Prop := ∀ p b h cs ss, Pen p b → b < 2 ^ 28 → Cs' cs → cs.length ≤ 7 → ss.length = cs.length → WR (F [p, houseD h cs, stD ss]) fun d o => ∃ (l : List Nat) (p' : D), d = rowD l ∧ o = [p'] ∧ Pen p' (b + cs.length) ∧ l.length ≤ cs.length ∧ ∀ k ∈ l, k < cs.length
theorem greedy_ok {Φ : Fns} (h1 : MeetOk (Φ 0)) (h0 : DrawOk (Φ 1)) : GreedyOk (Li.wGreedy.run Φ) := fun p b h cs ss hp hb hc hm hl => by
  refine wr_run rfl (by have := hp.isL (r := [some (houseD h cs), some (stD ss)]); simp [Li.wGreedy, this]) ?_
  show WS Φ Li.wGreedy.body [some p, some (houseD h cs), some (stD ss), none, none] _
  unfold Li.wGreedy
  simp only [wpA, wpB, wpC, we_callr, reread, List.length_cons, List.length_nil, List.map_cons, List.map_nil, Option.bind_some, id, Nat.reduceAdd, Nat.reduceLT, if_true, if_pos, true_and, and_true, reduceIte, Bool.not_true, Bool.not_false, decide_true, decide_false, List.getElem?_cons_zero, List.getElem?_cons_succ, E.wr, wrL, List.append_nil, List.nil_append, List.singleton_append, List.cons_append, lenSt, rgN (show ss.length ≤ 16777216 by omega)]
  refine ⟨by decide, ?_⟩
  refine ws_for (fun i n => ∃ (q : D) (l : List Nat) (x4 : Option D), n = [some q, some (houseD h cs), some (stD ss), some (rowD l), x4] ∧ Pen q (b + i) ∧ l.length ≤ i ∧ ∀ k ∈ l, k < cs.length) ⟨p, [], _, rfl, hp, Nat.le_refl _, fun k hk => by cases hk⟩ ?_ ?_
  · rintro i d n hd ⟨q, l, x4, rfl, Q, ll, hk⟩
    obtain ⟨k, hkk, rfl⟩ := row_at hd
    have hi : i < ss.length := by have := (List.getElem?_eq_some_iff.mp hkk).1; simpa using this
    have hki : k < cs.length := by have := List.mem_range.mp (List.mem_of_getElem? hkk); omega
    simp only [wpA, wpB, wpC, we_callr, reread, List.length_cons, List.length_nil, List.map_cons, List.map_nil, Option.bind_some, id, Nat.reduceAdd, Nat.reduceLT, if_true, if_pos, true_and, and_true, reduceIte, Bool.not_true, Bool.not_false, decide_true, decide_false, List.getElem?_cons_zero, List.getElem?_cons_succ, E.wr, wrL, List.append_nil, List.nil_append, List.singleton_append, List.cons_append]
    refine h0.use Q (by omega) (by decide) (by decide) fun r p1 P1 a0 a1 => ?_
    simp only [wpA, wpB, wpC, we_callr, reread, List.length_cons, List.length_nil, List.map_cons, List.map_nil, Option.bind_some, id, Nat.reduceAdd, Nat.reduceLT, if_true, if_pos, true_and, and_true, reduceIte, Bool.not_true, Bool.not_false, decide_true, decide_false, List.getElem?_cons_zero, List.getElem?_cons_succ, E.wr, wrL, List.append_nil, List.nil_append, List.singleton_append, List.cons_append, rowAddN (l := l) (k := k) (by omega), h1 h cs ss (l ++ [k]) hc hl (fun j hj => by
      rcases List.mem_append.mp hj with e | e
      · exact hk j e
      · rw [List.mem_singleton.mp e]; exact hki)]
    have keep : ∃ q l_1 x4, [some p1, some (houseD h cs), some (stD ss), some (rowD l), some (.int (k : Int))] = [some q, some (houseD h cs), some (stD ss), some (rowD l_1), x4] ∧ Pen q (b + (i + 1)) ∧ l_1.length ≤ i + 1 ∧ ∀ k ∈ l_1, k < cs.length := ⟨p1, l, _, rfl, P1, by omega, hk⟩
    by_cases hr : 0 < r
    · rw [if_pos (decide_eq_true hr)]
      refine ⟨by decide, ?_⟩
      cases mts (al cs ss) (l ++ [k]) with
      | true =>
        rw [if_pos rfl]
        refine ⟨by decide, p1, l ++ [k], _, rfl, P1, by rw [List.length_append]; simp only [List.length_cons, List.length_nil]; omega, fun j hj => ?_⟩
        rcases List.mem_append.mp hj with e | e
        · exact hk j e
        · rw [List.mem_singleton.mp e]; exact hki
      | false =>
        rw [if_neg Bool.false_ne_true]
        exact keep
    · rw [if_neg (by rw [decide_eq_false hr]; decide), if_neg Bool.false_ne_true]
      exact keep
  · rintro n ⟨q, l, x4, rfl, Q, ll, hk⟩
    rw [List.length_map, List.length_range] at Q ll
    simp only [wpA, wpB, wpC, we_callr, reread, List.length_cons, List.length_nil, List.map_cons, List.map_nil, Option.bind_some, id, Nat.reduceAdd, Nat.reduceLT, if_true, if_pos, true_and, and_true, reduceIte, Bool.not_true, Bool.not_false, decide_true, decide_false, List.getElem?_cons_zero, List.getElem?_cons_succ, E.wr, wrL, List.append_nil, List.nil_append, List.singleton_append, List.cons_append]
    exact ⟨l, q, rfl, rfl, Q.up (by omega), by omega, hk⟩
theorem isNonN : biD .isi [D.non, .ty "int"] = some (.bl false) := rfl
def MeetRightOk (F : Fn) : Prop := ∀ h cs ss (l : List Nat) (start : Int), Cs' cs → ss.length = cs.length → l.length ≤ 10 → (∀ k ∈ l, k < cs.length) → F [houseD h cs, stD ss, rowD l, .int start] = .ok (.bl true) []
theorem meetRight_ok {Φ : Fns} (h0 : MeetingOk (Φ 0)) (h1 : MeetOk (Φ 1)) (h2 : RoundOk (Φ 2)) : MeetRightOk (Li.meetRight.run Φ) := fun h cs ss l start hc hl hl10 hk => by
  refine eq_of_wr (wr_run rfl rfl ?_)
  show WS Φ Li.meetRight.body [some (houseD h cs), some (stD ss), some (rowD l), some (.int start), none, none, none] _
  unfold Li.meetRight
  simp only [wpA, wpB, wpC, we_callr, reread, List.length_cons, List.length_nil, List.map_cons, List.map_nil, Option.bind_some, id, Nat.reduceAdd, Nat.reduceLT, if_true, if_pos, true_and, and_true, reduceIte, Bool.not_true, Bool.not_false, decide_true, decide_false, List.getElem?_cons_zero, List.getElem?_cons_succ, E.wr, wrL, List.append_nil, List.nil_append, List.singleton_append, List.cons_append, permD, List.getD_cons_zero, List.getD_cons_succ]
  refine (h0 h cs ss l start hc hl hl10 hk).mono ?_
  rintro d _ ⟨rfl, hd⟩
  cases hm : mts (al cs ss) l with
  | false =>
    rw [hm, if_neg Bool.false_ne_true] at hd
    subst hd
    simp only [wpA, wpB, wpC, we_callr, reread, List.length_cons, List.length_nil, List.map_cons, List.map_nil, Option.bind_some, id, Nat.reduceAdd, Nat.reduceLT, if_true, if_pos, true_and, and_true, reduceIte, Bool.not_true, Bool.not_false, decide_true, decide_false, List.getElem?_cons_zero, List.getElem?_cons_succ, E.wr, wrL, List.append_nil, List.nil_append, List.singleton_append, List.cons_append, h1 h cs ss l hc hl hk, hm]
    rfl
  | true =>
    rw [hm, if_pos rfl] at hd
    obtain ⟨x, rfl, a1, a2, a3⟩ := hd
    simp only [wpA, wpB, wpC, we_callr, reread, List.length_cons, List.length_nil, List.map_cons, List.map_nil, Option.bind_some, id, Nat.reduceAdd, Nat.reduceLT, if_true, if_pos, true_and, and_true, reduceIte, Bool.not_true, Bool.not_false, decide_true, decide_false, List.getElem?_cons_zero, List.getElem?_cons_succ, E.wr, wrL, List.append_nil, List.nil_append, List.singleton_append, List.cons_append, h1 h cs ss l hc hl hk, hm, h2 h cs l hc hl10 hk, isI, isB]
    rw [if_neg Bool.false_ne_true, if_neg Bool.false_ne_true, if_neg Bool.false_ne_true, if_pos (decide_eq_true a1), if_neg (by rw [decide_eq_true a2]; decide)]
    refine WL.of (show seqD (rowD l) = some (l.map nD) from rfl) ?_
    refine wc_pure (fun _ => false) id _ _ (by rw [List.length_map]; unfold big; omega) ?_ ?_
    · intro d hd
      obtain ⟨k, hkm, rfl⟩ := List.mem_map.mp hd
      have hkl := hk k hkm
      have es : idxD (stD ss) (.int (k : Int)) = some (.int (ss.getD k 0)) := sAt (by omega)
      have hp := P_pos hc k
      have a4 : (x - ss.getD k 0) % (cs.getD k (2, 1)).1 = 0 := a3 k hkm
      unfold P at hp
      unfold nD
      simp only [wpA, wpB, wpC, we_callr, reread, List.length_cons, List.length_nil, List.map_cons, List.map_nil, Option.bind_some, id, Nat.reduceAdd, Nat.reduceLT, if_true, if_pos, true_and, and_true, reduceIte, Bool.not_true, Bool.not_false, decide_true, decide_false, List.getElem?_cons_zero, List.getElem?_cons_succ, E.wr, wrL, List.append_nil, List.nil_append, List.singleton_append, List.cons_append, es, hCs, cAt hkl, cPit, a4, wc_some (show (E.cmp Cop.ne (E.bin Bop.mod (E.bin Bop.sub (E.var 4) ((E.var 1).idx (E.var 6))) ((((E.var 0).idx (E.cst (D.int 1))).idx (E.var 6)).idx (E.cst (D.int 0)))) (E.cst (D.int 0))).isNo = false from rfl)]
      exact ⟨by omega, fun h => (by cases h)⟩
    · intro n'
      refine ⟨by decide, WL.of (show cmpD .ne (.lst ((((l.map nD).filter fun _ => false)).map id)) (.lst []) = some false by rw [List.filter_eq_nil_iff.mpr (fun a _ => Bool.false_ne_true)]; rfl) ?_⟩
      rw [if_neg Bool.false_ne_true]
      have hr := (rnd_pos hc _ l rfl).1
      refine (h0 h cs ss l x hc hl hl10 hk).mono ?_
      rintro d _ ⟨rfl, hd⟩
      rw [hm, if_pos rfl] at hd
      obtain ⟨y, rfl, b1, b2, b3⟩ := hd
      have exy : y = x := meet_eq hc b3 a3 b1 b2 (by omega) (by omega)
      subst exy
      refine ⟨rfl, WL.of (show cmpD .ne (.int y) (.int y) = some false by simp only [wpA, wpB, wpC, decide_true, Bool.not_true]) ?_⟩
      rw [if_neg Bool.false_ne_true]
      refine (h0 h cs ss l (y + 1) hc hl hl10 hk).mono ?_
      rintro d _ ⟨rfl, hd⟩
      rw [hm, if_pos rfl] at hd
      obtain ⟨z, rfl, c1, c2, c3⟩ := hd
      have ez : z = y + (rnd cs l : Nat) := by
        refine meet_eq hc c3 (fun k hkm => ?_) c1 c2 (by omega) (by omega)
        have a1 := Int.dvd_of_emod_eq_zero (a3 k hkm)
        have a2 : P cs k ∣ ((rnd cs l : Nat) : Int) := by
          rw [← (pN_eq hc k).1]
          exact Int.natCast_dvd_natCast.mpr (rnd_dvd _ l rfl k hkm)
        refine Int.emod_eq_zero_of_dvd ?_
        rw [show y + ((rnd cs l : Nat) : Int) - ss.getD k 0 = (y - ss.getD k 0) + ((rnd cs l : Nat) : Int) by omega]
        exact Int.dvd_add a1 a2
      subst ez
      exact ⟨rfl, WL.of (show cmpD .eq (.int _) (.int _) = some true by simp only [wpA, wpB, wpC, decide_true]) rfl⟩
end Sc
namespace Sc.k06
open PySem PySem.Spec PyProof.Rows L2 Sc
abbrev stm (i : Nat) : Stmt := PySem.Challenge.pw_shovecombs_k06_meetings_from_a_start.main.body.getD i (.Pass ⟨0, 0, 0, 0⟩)
def sg_w_pen : FSig := ⟨"_law_pen", [.eat], true, [], true⟩
def ir_w_pen : FnIR := ⟨1, 1, [], [], true, [
  .ret (.lst [.bi .list [.slc (.var 0) (.no) (.cst (.int 63))], .cst (.int 0), .cst (.int 0)])]⟩
abbrev sc_w_pen : Scope := defScope (stm 9)
def cs_w_pen : Cs := ⟨⟨["_law_script"], sc_w_pen, sc_w_pen, [], [], []⟩, [], true⟩
noncomputable def tb_w_pen : List (FSig × Fn) := []
noncomputable def F_w_pen : Fn := ir_w_pen.run (tb tb_w_pen)
theorem ck_w_pen : fnB ir_w_pen cs_w_pen sg_w_pen.pm ["_law_script"] (defScope (stm 9)) (defBody (stm 9)) = true := by kernel_rfl
def sg_w_draw : FSig := ⟨"_law_draw", [.io, .eat], false, [], true⟩
def ir_w_draw : FnIR := ⟨6, 2, [0], [], false, [
  .ite (.cmp .gt (.idx (.var 0) (.cst (.int 2))) (.cst (.int 0))) [.asg 5 (.bin .mod (.idx (.var 0) (.cst (.int 2))) (.var 1)), .setI 0 (.cst (.int 2)) (.bin .fdiv (.idx (.var 0) (.cst (.int 2))) (.var 1)), .ret (.var 5)] [],
  .asg 2 (.idx (.var 0) (.cst (.int 1))),
  .setI 0 (.cst (.int 1)) (.bin .add (.var 2) (.cst (.int 1))),
  .asg 3 (.bin .add (.bin .mul (.cst (.int 60013)) (.var 2)) (.cst (.int 71))),
  .ite (.cmp .ne (.idx (.var 0) (.cst (.int 0))) (.lst [])) [.asg 3 (.idx (.idx (.var 0) (.cst (.int 0))) (.bin .mod (.var 2) (.bi .len [.idx (.var 0) (.cst (.int 0))])))] [],
  .ite (.an (.cmp .lt (.var 2) (.bi .len [.idx (.var 0) (.cst (.int 0))])) (.cmp .ge (.bi .abs [.var 3]) (.bin .pow (.cst (.int 10)) (.cst (.int 18))))) [.setI 0 (.cst (.int 2)) (.bin .fdiv (.bi .abs [.var 3]) (.var 1)), .ret (.bin .mod (.bi .abs [.var 3]) (.var 1))] [],
  .asg 4 (.bin .mod (.bin .pow (.bin .add (.bin .add (.bin .mod (.var 3) (.cst (.int 2147483549))) (.bin .mul (.cst (.int 50023)) (.var 2))) (.cst (.int 41))) (.cst (.int 5))) (.cst (.int 2147483579))),
  .asg 4 (.bin .mod (.bin .pow (.bin .add (.bin .mul (.var 4) (.bin .add (.bin .mul (.cst (.int 2)) (.var 2)) (.cst (.int 9)))) (.cst (.int 80021))) (.cst (.int 3))) (.cst (.int 2147483629))),
  .ret (.bin .mod (.bin .fdiv (.var 4) (.cst (.int 16))) (.var 1))]⟩
abbrev sc_w_draw : Scope := defScope (stm 10)
def cs_w_draw : Cs := ⟨⟨["_law_pen_here", "_law_many", "_law_at", "_law_cell", "_law_number", "_law_digit"], sc_w_draw, sc_w_draw, [], [], [0]⟩, [], false⟩
noncomputable def tb_w_draw : List (FSig × Fn) := []
noncomputable def F_w_draw : Fn := ir_w_draw.run (tb tb_w_draw)
theorem ck_w_draw : fnB ir_w_draw cs_w_draw sg_w_draw.pm ["_law_pen_here", "_law_many"] (defScope (stm 10)) (defBody (stm 10)) = true := by kernel_rfl
def sg_w_any_house : FSig := ⟨"_law_any_house", [.io, .eat], false, [], true⟩
def ir_w_any_house : FnIR := ⟨8, 2, [0], [], false, [
  .asg 2 (.idx (.lst [.cst (.int 1), .cst (.int 2), .cst (.int 3), .cst (.int 4)]) (.call 0 [.var 0, .cst (.int 4)] [0])),
  .asg 3 (.lc (.bi .max [.cst (.int 2), .bin .mul (.var 2) (.bin .add (.cst (.int 1)) (.call 0 [.var 0, .bin .fdiv (.cst (.int 64)) (.var 2)] [0]))]) (.nm 6) (.rng .no (.bin .add (.cst (.int 1)) (.call 0 [.var 0, .var 1] [0]))) (.no) [6]),
  .asg 4 (.call 0 [.var 0, .cst (.int 2)] [0]),
  .asg 5 (.lc (.bin .add (.cst (.int 1)) (.bin .mul (.var 4) (.call 0 [.var 0, .bin .sub (.var 7) (.cst (.int 1))] [0]))) (.nm 7) (.var 3) (.no) [7]),
  .ret (.tup [.idx (.lst [.cst (.int 1), .cst (.int 1), .cst (.int 2), .cst (.int 3)]) (.call 0 [.var 0, .cst (.int 4)] [0]), .bi .tuple [.lz (.var 3) (.var 5)]])]⟩
abbrev sc_w_any_house : Scope := defScope (stm 12)
def cs_w_any_house : Cs := ⟨⟨["_law_pen_here", "_law_most", "_law_base", "_law_pitches", "_law_plain", "_law_strides", "_law_k", "_law_pitch"], sc_w_any_house, sc_w_any_house, [], [sg_w_draw], [0]⟩, [], false⟩
noncomputable def tb_w_any_house : List (FSig × Fn) := [(sg_w_draw, F_w_draw)]
noncomputable def F_w_any_house : Fn := ir_w_any_house.run (tb tb_w_any_house)
theorem ck_w_any_house : fnB ir_w_any_house cs_w_any_house sg_w_any_house.pm ["_law_pen_here", "_law_most"] (defScope (stm 12)) (defBody (stm 12)) = true := by kernel_rfl
def sg_w_stand : FSig := ⟨"_law_stand", [.io, .eat], false, [], true⟩
def ir_w_stand : FnIR := ⟨5, 2, [0], [], false, [
  .asg 2 (.idx (.lst [.cst (.int 0), .bin .sub (.call 0 [.var 0, .cst (.int 1000)] [0]) (.cst (.int 500)), .bin .pow (.cst (.int 10)) (.cst (.int 39)), .bin .sub (.cst (.int 0)) (.bin .pow (.cst (.int 10)) (.cst (.int 39)))]) (.call 0 [.var 0, .cst (.int 4)] [0])),
  .asg 3 (.idx (.lst [.cst (.int 2), .cst (.int 8), .cst (.int 64), .bin .pow (.cst (.int 10)) (.cst (.int 6))]) (.call 0 [.var 0, .cst (.int 4)] [0])),
  .ret (.bi .tuple [.lc (.bin .add (.var 2) (.call 0 [.var 0, .var 3] [0])) (.nm 4) (.idx (.var 1) (.cst (.int 1))) (.no) [4]])]⟩
abbrev sc_w_stand : Scope := defScope (stm 13)
def cs_w_stand : Cs := ⟨⟨["_law_pen_here", "_law_house", "_law_away", "_law_wide", "_law_comb"], sc_w_stand, sc_w_stand, [], [sg_w_draw], [0]⟩, [], false⟩
noncomputable def tb_w_stand : List (FSig × Fn) := [(sg_w_draw, F_w_draw)]
noncomputable def F_w_stand : Fn := ir_w_stand.run (tb tb_w_stand)
theorem ck_w_stand : fnB ir_w_stand cs_w_stand sg_w_stand.pm ["_law_pen_here", "_law_house"] (defScope (stm 13)) (defBody (stm 13)) = true := by kernel_rfl
def sg_w_divisor : FSig := ⟨"_law_divisor", [.eat, .eat], false, [], true⟩
def ir_w_divisor : FnIR := ⟨2, 2, [], [], false, [
  .wh (.cmp .gt (.var 1) (.cst (.int 0))) [.par 0 1 (.var 1) (.bin .mod (.var 0) (.var 1))],
  .ret (.var 0)]⟩
abbrev sc_w_divisor : Scope := defScope (stm 11)
def cs_w_divisor : Cs := ⟨⟨["_law_one", "_law_other"], sc_w_divisor, sc_w_divisor, [], [], []⟩, [], false⟩
noncomputable def tb_w_divisor : List (FSig × Fn) := []
noncomputable def F_w_divisor : Fn := ir_w_divisor.run (tb tb_w_divisor)
theorem ck_w_divisor : fnB ir_w_divisor cs_w_divisor sg_w_divisor.pm ["_law_one", "_law_other"] (defScope (stm 11)) (defBody (stm 11)) = true := by kernel_rfl
def sg_w_near_stand : FSig := ⟨"_law_near_stand", [.io, .eat], false, [], true⟩
def ir_w_near_stand : FnIR := ⟨6, 2, [0], [], false, [
  .asg 2 (.bi .list [.call 0 [.var 0, .var 1] [0]]),
  .asg 3 (.call 1 [.var 0, .bi .len [.var 2]] [0]),
  .fr (.nm 4) (.rng .no (.bi .len [.var 2])) [.asg 5 (.call 2 [.idx (.idx (.idx (.var 1) (.cst (.int 1))) (.var 3)) (.cst (.int 0)), .idx (.idx (.idx (.var 1) (.cst (.int 1))) (.var 4)) (.cst (.int 0))] []), .setI 2 (.var 4) (.bin .add (.bin .add (.idx (.var 2) (.var 3)) (.bin .mul (.var 5) (.bin .sub (.call 1 [.var 0, .cst (.int 7)] [0]) (.cst (.int 3))))) (.bi .int [.an (.cmp .ne (.var 4) (.var 3)) (.cmp .eq (.call 1 [.var 0, .cst (.int 5)] [0]) (.cst (.int 0)))]))],
  .ret (.bi .tuple [.var 2])]⟩
abbrev sc_w_near_stand : Scope := defScope (stm 16)
def cs_w_near_stand : Cs := ⟨⟨["_law_pen_here", "_law_house", "_law_stand_here", "_law_at", "_law_k", "_law_shared"], sc_w_near_stand, sc_w_near_stand, [], [sg_w_stand, sg_w_draw, sg_w_divisor], [0]⟩, [2], false⟩
noncomputable def tb_w_near_stand : List (FSig × Fn) := [(sg_w_stand, F_w_stand), (sg_w_draw, F_w_draw), (sg_w_divisor, F_w_divisor)]
noncomputable def F_w_near_stand : Fn := ir_w_near_stand.run (tb tb_w_near_stand)
theorem ck_w_near_stand : fnB ir_w_near_stand cs_w_near_stand sg_w_near_stand.pm ["_law_pen_here", "_law_house"] (defScope (stm 16)) (defBody (stm 16)) = true := by kernel_rfl
def sg_divisor : FSig := ⟨"divisor", [.eat, .eat], false, [], true⟩
def ir_divisor : FnIR := ⟨2, 2, [], [], false, [
  .wh (.cmp .gt (.var 1) (.cst (.int 0))) [.par 0 1 (.var 1) (.bin .mod (.var 0) (.var 1))],
  .ret (.var 0)]⟩
abbrev sc_divisor : Scope := defScope (stm 1)
def cs_divisor : Cs := ⟨⟨["one", "other"], sc_divisor, sc_divisor, [], [], []⟩, [], false⟩
noncomputable def tb_divisor : List (FSig × Fn) := []
noncomputable def F_divisor : Fn := ir_divisor.run (tb tb_divisor)
theorem ck_divisor : fnB ir_divisor cs_divisor sg_divisor.pm ["one", "other"] (defScope (stm 1)) (defBody (stm 1)) = true := by kernel_rfl
def sg_common : FSig := ⟨"common", [.eat, .eat, .eat], false, [], true⟩
def ir_common : FnIR := ⟨3, 3, [], [], false, [
  .ret (.call 0 [.idx (.idx (.idx (.var 0) (.cst (.int 1))) (.var 1)) (.cst (.int 0)), .idx (.idx (.idx (.var 0) (.cst (.int 1))) (.var 2)) (.cst (.int 0))] [])]⟩
abbrev sc_common : Scope := defScope (stm 2)
def cs_common : Cs := ⟨⟨["house", "j", "k"], sc_common, sc_common, [], [sg_divisor], []⟩, [], false⟩
noncomputable def tb_common : List (FSig × Fn) := [(sg_divisor, F_divisor)]
noncomputable def F_common : Fn := ir_common.run (tb tb_common)
theorem ck_common : fnB ir_common cs_common sg_common.pm ["house", "j", "k"] (defScope (stm 2)) (defBody (stm 2)) = true := by kernel_rfl
def sg_alike : FSig := ⟨"alike", [.eat, .eat, .eat, .eat], false, [], true⟩
def ir_alike : FnIR := ⟨4, 4, [], [], false, [
  .ret (.cmp .eq (.bin .mod (.bin .sub (.idx (.var 1) (.var 2)) (.idx (.var 1) (.var 3))) (.call 0 [.var 0, .var 2, .var 3] [])) (.cst (.int 0)))]⟩
abbrev sc_alike : Scope := defScope (stm 5)
def cs_alike : Cs := ⟨⟨["house", "stand", "j", "k"], sc_alike, sc_alike, [], [sg_common], []⟩, [], false⟩
noncomputable def tb_alike : List (FSig × Fn) := [(sg_common, F_common)]
noncomputable def F_alike : Fn := ir_alike.run (tb tb_alike)
theorem ck_alike : fnB ir_alike cs_alike sg_alike.pm ["house", "stand", "j", "k"] (defScope (stm 5)) (defBody (stm 5)) = true := by kernel_rfl
def sg_unlike : FSig := ⟨"unlike", [.eat, .eat, .eat], false, [], true⟩
def ir_unlike : FnIR := ⟨6, 3, [], [], false, [
  .fr (.tp [.nm 3, .nm 4]) (.enm (.var 2)) [.fr (.nm 5) (.slc (.var 2) (.bin .add (.var 3) (.cst (.int 1))) (.no)) [.ite (.nt (.call 0 [.var 0, .var 1, .var 4, .var 5] [])) [.ret (.tup [.var 4, .var 5])] []]],
  .ret (.cst .non)]⟩
abbrev sc_unlike : Scope := defScope (stm 6)
def cs_unlike : Cs := ⟨⟨["house", "stand", "some", "at", "j", "k"], sc_unlike, sc_unlike, [], [sg_alike], []⟩, [], false⟩
noncomputable def tb_unlike : List (FSig × Fn) := [(sg_alike, F_alike)]
noncomputable def F_unlike : Fn := ir_unlike.run (tb tb_unlike)
theorem ck_unlike : fnB ir_unlike cs_unlike sg_unlike.pm ["house", "stand", "some"] (defScope (stm 6)) (defBody (stm 6)) = true := by kernel_rfl
def sg_round_of : FSig := ⟨"round_of", [.eat, .eat], false, [], true⟩
def ir_round_of : FnIR := ⟨5, 2, [], [], false, [
  .asg 2 (.cst (.int 1)),
  .fr (.nm 3) (.var 1) [.asg 4 (.idx (.idx (.idx (.var 0) (.cst (.int 1))) (.var 3)) (.cst (.int 0))), .asg 2 (.bin .mul (.bin .fdiv (.var 2) (.call 0 [.var 2, .var 4] [])) (.var 4))],
  .ret (.var 2)]⟩
abbrev sc_round_of : Scope := defScope (stm 3)
def cs_round_of : Cs := ⟨⟨["house", "some", "found", "k", "pitch"], sc_round_of, sc_round_of, [], [sg_divisor], []⟩, [], false⟩
noncomputable def tb_round_of : List (FSig × Fn) := [(sg_divisor, F_divisor)]
noncomputable def F_round_of : Fn := ir_round_of.run (tb tb_round_of)
theorem ck_round_of : fnB ir_round_of cs_round_of sg_round_of.pm ["house", "some"] (defScope (stm 3)) (defBody (stm 3)) = true := by kernel_rfl
def sg_meeting : FSig := ⟨"meeting", [.eat, .eat, .eat, .eat], false, [⟨3, ["start"], [.at 0, .at 1, .at 2, .at 3]⟩, ⟨3, [], [.at 0, .at 1, .at 2, .df (.int 0)]⟩], false⟩
def ir_meeting : FnIR := ⟨9, 4, [], [], false, [
  .ite (.cmp .isn (.call 0 [.var 0, .var 1, .var 2] []) (.cst .non)) [.ret (.cst .non)] [],
  .asg 4 (.cst (.int 0)),
  .asg 5 (.cst (.int 1)),
  .fr (.tp [.nm 6, .nm 7]) (.enm (.var 2)) [.asg 8 (.idx (.idx (.idx (.var 0) (.cst (.int 1))) (.var 7)) (.cst (.int 0))), .wh (.cmp .ne (.bin .mod (.bin .sub (.var 4) (.idx (.var 1) (.var 7))) (.var 8)) (.cst (.int 0))) [.aug 4 .add (.var 5)], .asg 5 (.call 1 [.var 0, .slc (.var 2) (.no) (.bin .add (.var 6) (.cst (.int 1)))] [])],
  .ret (.bin .add (.var 3) (.bin .mod (.bin .sub (.var 4) (.var 3)) (.var 5)))]⟩
abbrev sc_meeting : Scope := defScope (stm 7)
def cs_meeting : Cs := ⟨⟨["house", "stand", "some", "start", "place", "step", "at", "k", "pitch"], sc_meeting, sc_meeting, [], [sg_unlike, sg_round_of], []⟩, [], false⟩
noncomputable def tb_meeting : List (FSig × Fn) := [(sg_unlike, F_unlike), (sg_round_of, F_round_of)]
noncomputable def F_meeting : Fn := ir_meeting.run (tb tb_meeting)
theorem ck_meeting : fnB ir_meeting cs_meeting sg_meeting.pm ["house", "stand", "some", "start"] (defScope (stm 7)) (defBody (stm 7)) = true := by kernel_rfl
def sg_w_some : FSig := ⟨"_law_some", [.io, .eat], false, [], true⟩
def ir_w_some : FnIR := ⟨3, 2, [0], [], false, [
  .ret (.bi .tuple [.lc (.var 2) (.nm 2) (.rng .no (.var 1)) (.cmp .eq (.call 0 [.var 0, .cst (.int 2)] [0]) (.cst (.int 0))) [2]])]⟩
abbrev sc_w_some : Scope := defScope (stm 14)
def cs_w_some : Cs := ⟨⟨["_law_pen_here", "_law_many", "_law_k"], sc_w_some, sc_w_some, [], [sg_w_draw], [0]⟩, [], false⟩
noncomputable def tb_w_some : List (FSig × Fn) := [(sg_w_draw, F_w_draw)]
noncomputable def F_w_some : Fn := ir_w_some.run (tb tb_w_some)
theorem ck_w_some : fnB ir_w_some cs_w_some sg_w_some.pm ["_law_pen_here", "_law_many"] (defScope (stm 14)) (defBody (stm 14)) = true := by kernel_rfl
def sg_w_meet : FSig := ⟨"_law_meet", [.eat, .eat, .eat], false, [], true⟩
def ir_w_meet : FnIR := ⟨6, 3, [], [], false, [
  .fr (.tp [.nm 3, .nm 4]) (.enm (.var 2)) [.fr (.nm 5) (.slc (.var 2) (.bin .add (.var 3) (.cst (.int 1))) (.no)) [.ite (.cmp .ne (.bin .mod (.bin .sub (.idx (.var 1) (.var 4)) (.idx (.var 1) (.var 5))) (.call 0 [.idx (.idx (.idx (.var 0) (.cst (.int 1))) (.var 4)) (.cst (.int 0)), .idx (.idx (.idx (.var 0) (.cst (.int 1))) (.var 5)) (.cst (.int 0))] [])) (.cst (.int 0))) [.ret (.cst (.bl false))] []]],
  .ret (.cst (.bl true))]⟩
abbrev sc_w_meet : Scope := defScope (stm 15)
def cs_w_meet : Cs := ⟨⟨["_law_house", "_law_stand_here", "_law_some_here", "_law_at", "_law_j", "_law_k"], sc_w_meet, sc_w_meet, [], [sg_w_divisor], []⟩, [], false⟩
noncomputable def tb_w_meet : List (FSig × Fn) := [(sg_w_divisor, F_w_divisor)]
noncomputable def F_w_meet : Fn := ir_w_meet.run (tb tb_w_meet)
theorem ck_w_meet : fnB ir_w_meet cs_w_meet sg_w_meet.pm ["_law_house", "_law_stand_here", "_law_some_here"] (defScope (stm 15)) (defBody (stm 15)) = true := by kernel_rfl
def sg_w_greedy : FSig := ⟨"_law_greedy", [.io, .eat, .eat], false, [], true⟩
def ir_w_greedy : FnIR := ⟨5, 3, [0], [], false, [
  .asg 3 (.tup []),
  .fr (.nm 4) (.rng .no (.bi .len [.var 2])) [.ite (.an (.cmp .gt (.call 1 [.var 0, .cst (.int 4)] [0]) (.cst (.int 0))) (.call 0 [.var 1, .var 2, .bin .add (.var 3) (.tup [.var 4])] [])) [.asg 3 (.bin .add (.var 3) (.tup [.var 4]))] []],
  .ret (.var 3)]⟩
abbrev sc_w_greedy : Scope := defScope (stm 18)
def cs_w_greedy : Cs := ⟨⟨["_law_pen_here", "_law_house", "_law_stand_here", "_law_some_here", "_law_k"], sc_w_greedy, sc_w_greedy, [], [sg_w_meet, sg_w_draw], [0]⟩, [], false⟩
noncomputable def tb_w_greedy : List (FSig × Fn) := [(sg_w_meet, F_w_meet), (sg_w_draw, F_w_draw)]
noncomputable def F_w_greedy : Fn := ir_w_greedy.run (tb tb_w_greedy)
theorem ck_w_greedy : fnB ir_w_greedy cs_w_greedy sg_w_greedy.pm ["_law_pen_here", "_law_house", "_law_stand_here"] (defScope (stm 18)) (defBody (stm 18)) = true := by kernel_rfl
def sg_w_round : FSig := ⟨"_law_round", [.eat, .eat], false, [], true⟩
def ir_w_round : FnIR := ⟨4, 2, [], [], false, [
  .asg 2 (.cst (.int 1)),
  .fr (.nm 3) (.var 1) [.asg 2 (.bin .fdiv (.bin .mul (.var 2) (.idx (.idx (.idx (.var 0) (.cst (.int 1))) (.var 3)) (.cst (.int 0)))) (.call 0 [.var 2, .idx (.idx (.idx (.var 0) (.cst (.int 1))) (.var 3)) (.cst (.int 0))] []))],
  .ret (.var 2)]⟩
abbrev sc_w_round : Scope := defScope (stm 17)
def cs_w_round : Cs := ⟨⟨["_law_house", "_law_some_here", "_law_found", "_law_k"], sc_w_round, sc_w_round, [], [sg_w_divisor], []⟩, [], false⟩
noncomputable def tb_w_round : List (FSig × Fn) := [(sg_w_divisor, F_w_divisor)]
noncomputable def F_w_round : Fn := ir_w_round.run (tb tb_w_round)
theorem ck_w_round : fnB ir_w_round cs_w_round sg_w_round.pm ["_law_house", "_law_some_here"] (defScope (stm 17)) (defBody (stm 17)) = true := by kernel_rfl
def sg_w_right : FSig := ⟨"_law_right", [.eat, .eat, .eat, .eat], false, [], true⟩
def ir_w_right : FnIR := ⟨7, 4, [], [], false, [
  .asg 4 (.callk 0 3 ["start"] [.var 0, .var 1, .var 2, .var 3] [.at 0, .at 1, .at 2, .at 3]),
  .ite (.nt (.call 1 [.var 0, .var 1, .var 2] [])) [.ret (.cmp .is_ (.var 4) (.cst .non))] [],
  .asg 5 (.call 2 [.var 0, .var 2] []),
  .ite (.or (.nt (.bi .isi [.var 4, .cst (.ty "int")])) (.or (.bi .isi [.var 4, .cst (.ty "bool")]) (.nt (.chn .le .lt (.var 3) (.var 4) (.bin .add (.var 3) (.var 5)))))) [.ret (.cst (.bl false))] [],
  .ite (.cmp .ne (.lc (.cst (.int 1)) (.nm 6) (.var 2) (.cmp .ne (.bin .mod (.bin .sub (.var 4) (.idx (.var 1) (.var 6))) (.idx (.idx (.idx (.var 0) (.cst (.int 1))) (.var 6)) (.cst (.int 0)))) (.cst (.int 0))) [6]) (.lst [])) [.ret (.cst (.bl false))] [],
  .ite (.cmp .ne (.callk 0 3 ["start"] [.var 0, .var 1, .var 2, .var 4] [.at 0, .at 1, .at 2, .at 3]) (.var 4)) [.ret (.cst (.bl false))] [],
  .ret (.cmp .eq (.callk 0 3 ["start"] [.var 0, .var 1, .var 2, .bin .add (.var 4) (.cst (.int 1))] [.at 0, .at 1, .at 2, .at 3]) (.bin .add (.var 4) (.var 5)))]⟩
abbrev sc_w_right : Scope := defScope (stm 19)
def cs_w_right : Cs := ⟨⟨["_law_house", "_law_stand_here", "_law_some_here", "_law_first", "_law_found", "_law_wide", "_law_k"], sc_w_right, sc_w_right, [], [sg_meeting, sg_w_meet, sg_w_round], []⟩, [], false⟩
noncomputable def tb_w_right : List (FSig × Fn) := [(sg_meeting, F_meeting), (sg_w_meet, F_w_meet), (sg_w_round, F_w_round)]
noncomputable def F_w_right : Fn := ir_w_right.run (tb tb_w_right)
theorem ck_w_right : fnB ir_w_right cs_w_right sg_w_right.pm ["_law_house", "_law_stand_here", "_law_some_here", "_law_first"] (defScope (stm 19)) (defBody (stm 19)) = true := by kernel_rfl
def sg_law : FSig := ⟨"law", [.eat], false, [], true⟩
def ir_law : FnIR := ⟨12, 1, [], [], false, [
  .asg 1 (.call 0 [.var 0] []),
  .fr (.nm 2) (.rng .no (.cst (.int 6))) [.asg 4 (.call 1 [.var 1, .cst (.int 7)] [1]), .fr (.nm 5) (.tup [.call 2 [.var 1, .var 4] [1], .call 3 [.var 1, .var 4] [1]]) [.asg 6 (.bi .repr [.tup [.var 4, .var 5]]), .asg 7 (.call 4 [.var 1, .bi .len [.var 5]] [1]), .asg 8 (.lst [.idx (.var 5) (.var 7), .bin .sub (.bin .add (.idx (.var 5) (.var 7)) (.call 4 [.var 1, .cst (.int 400)] [1])) (.cst (.int 200)), .bin .add (.bin .sub (.cst (.int 0)) (.bin .pow (.cst (.int 10)) (.cst (.int 39)))) (.call 4 [.var 1, .cst (.int 99)] [1]), .bin .pow (.cst (.int 10)) (.cst (.int 39))]), .asg 9 (.lst [.tup [], .tup [.var 7], .call 5 [.var 1, .bi .len [.var 5]] [1], .call 6 [.var 1, .var 4, .var 5] [1]]), .fr (.nm 10) (.bin .add (.var 9) (.lst [.tr (.no) (.bi .len [.var 5])])) [.asg 11 (.idx (.var 8) (.call 4 [.var 1, .cst (.int 4)] [1])), .ite (.nt (.call 7 [.var 4, .var 5, .var 10, .var 11] [])) [.ret (.cst (.bl false))] [], .ite (.cmp .ne (.bi .repr [.callk 8 3 [] [.var 4, .var 5, .var 10] [.at 0, .at 1, .at 2, .df (.int 0)]]) (.bi .repr [.callk 8 3 ["start"] [.var 4, .var 5, .var 10, .cst (.int 0)] [.at 0, .at 1, .at 2, .at 3]])) [.ret (.cst (.bl false))] []], .ite (.cmp .ne (.bi .repr [.tup [.var 4, .var 5]]) (.var 6)) [.ret (.cst (.bl false))] []]],
  .asg 3 (.tup [.cst (.int 1), .tup [.tup [.cst (.int 4), .cst (.int 1)], .tup [.cst (.int 6), .cst (.int 1)]]]),
  .ret (.an (.cmp .eq (.callk 8 3 [] [.var 3, .tup [.cst (.int 1), .cst (.int 5)], .tup [.cst (.int 0), .cst (.int 1)]] [.at 0, .at 1, .at 2, .df (.int 0)]) (.cst (.int 5))) (.cmp .is_ (.callk 8 3 [] [.var 3, .tup [.cst (.int 1), .cst (.int 4)], .tup [.cst (.int 0), .cst (.int 1)]] [.at 0, .at 1, .at 2, .df (.int 0)]) (.cst .non)))]⟩
abbrev sc_law : Scope := defScope (stm 20)
def cs_law : Cs := ⟨⟨["_law_script", "_law_pen_here", "_law_turn", "_law_two", "_law_house", "_law_stand_here", "_law_kept", "_law_at", "_law_starts", "_law_asked", "_law_some_here", "_law_first"], sc_law, sc_law, [], [sg_w_pen, sg_w_any_house, sg_w_stand, sg_w_near_stand, sg_w_draw, sg_w_some, sg_w_greedy, sg_w_right, sg_meeting], []⟩, [1], false⟩
noncomputable def tb_law : List (FSig × Fn) := [(sg_w_pen, F_w_pen), (sg_w_any_house, F_w_any_house), (sg_w_stand, F_w_stand), (sg_w_near_stand, F_w_near_stand), (sg_w_draw, F_w_draw), (sg_w_some, F_w_some), (sg_w_greedy, F_w_greedy), (sg_w_right, F_w_right), (sg_meeting, F_meeting)]
noncomputable def F_law : Fn := ir_law.run (tb tb_law)
theorem ck_law : fnB ir_law cs_law sg_law.pm ["_law_script"] (defScope (stm 20)) (defBody (stm 20)) = true := by kernel_rfl
def d_w_pen : He.DefD := ⟨("_law_pen", none), "_law_pen", "_law_pen", defArgs (stm 9), defBody (stm 9), defScope (stm 9), [], []⟩
def d_w_draw : He.DefD := ⟨("_law_draw", none), "_law_draw", "_law_draw", defArgs (stm 10), defBody (stm 10), defScope (stm 10), [], []⟩
def d_w_any_house : He.DefD := ⟨("_law_any_house", none), "_law_any_house", "_law_any_house", defArgs (stm 12), defBody (stm 12), defScope (stm 12), [], []⟩
def d_w_stand : He.DefD := ⟨("_law_stand", none), "_law_stand", "_law_stand", defArgs (stm 13), defBody (stm 13), defScope (stm 13), [], []⟩
def d_w_divisor : He.DefD := ⟨("_law_divisor", none), "_law_divisor", "_law_divisor", defArgs (stm 11), defBody (stm 11), defScope (stm 11), [], []⟩
def d_w_near_stand : He.DefD := ⟨("_law_near_stand", none), "_law_near_stand", "_law_near_stand", defArgs (stm 16), defBody (stm 16), defScope (stm 16), [], []⟩
def d_divisor : He.DefD := ⟨("divisor", none), "divisor", "divisor", defArgs (stm 1), defBody (stm 1), defScope (stm 1), [], []⟩
def d_common : He.DefD := ⟨("common", none), "common", "common", defArgs (stm 2), defBody (stm 2), defScope (stm 2), [], []⟩
def d_alike : He.DefD := ⟨("alike", none), "alike", "alike", defArgs (stm 5), defBody (stm 5), defScope (stm 5), [], []⟩
def d_unlike : He.DefD := ⟨("unlike", none), "unlike", "unlike", defArgs (stm 6), defBody (stm 6), defScope (stm 6), [], []⟩
def d_round_of : He.DefD := ⟨("round_of", none), "round_of", "round_of", defArgs (stm 3), defBody (stm 3), defScope (stm 3), [], []⟩
def d_meeting : He.DefD := ⟨("meeting", none), "meeting", "meeting", defArgs (stm 7), defBody (stm 7), defScope (stm 7), [], [("start", .int 0)]⟩
def d_w_some : He.DefD := ⟨("_law_some", none), "_law_some", "_law_some", defArgs (stm 14), defBody (stm 14), defScope (stm 14), [], []⟩
def d_w_meet : He.DefD := ⟨("_law_meet", none), "_law_meet", "_law_meet", defArgs (stm 15), defBody (stm 15), defScope (stm 15), [], []⟩
def d_w_greedy : He.DefD := ⟨("_law_greedy", none), "_law_greedy", "_law_greedy", defArgs (stm 18), defBody (stm 18), defScope (stm 18), [], []⟩
def d_w_round : He.DefD := ⟨("_law_round", none), "_law_round", "_law_round", defArgs (stm 17), defBody (stm 17), defScope (stm 17), [], []⟩
def d_w_right : He.DefD := ⟨("_law_right", none), "_law_right", "_law_right", defArgs (stm 19), defBody (stm 19), defScope (stm 19), [], []⟩
def d_law : He.DefD := ⟨("law", none), "law", "law", defArgs (stm 20), defBody (stm 20), defScope (stm 20), [], []⟩
def fnT : List He.DefD := [d_w_pen, d_w_draw, d_w_any_house, d_w_stand, d_w_divisor, d_w_near_stand, d_divisor, d_common, d_alike, d_unlike, d_round_of, d_meeting, d_w_some, d_w_meet, d_w_greedy, d_w_round, d_w_right, d_law]
def faT : List He.Fa := [.glo "_law_pen", .glo "_law_draw", .glo "_law_any_house", .glo "_law_stand", .glo "_law_divisor", .glo "_law_near_stand", .glo "divisor", .glo "common", .glo "alike", .glo "unlike", .glo "round_of", .glo "meeting", .glo "_law_some", .glo "_law_meet", .glo "_law_greedy", .glo "_law_round", .glo "_law_right", .glo "law"] ++ bnames.map .free
section
variable {P : Program} {w : World} {K : PySem.W.Frag} {mg : Str → Option Value} {h : Heap} {f : Addr}
theorem facts (inK : K.In h) (gl : h.Ns mainGlobals mg) (hfa : mg ("law" : Str) = some (.ref f)) (c : He.SaysD faT fnT K) : ∃ fd : FuncData, (∀ (s : Shared) (v : Value), BindsTo s fd ⟨[v], []⟩ [("_law_script", v)]) ∧ ∀ base : Heap, K.In base → base.Ns mainGlobals mg → FnD P w K mg base 18 f fd ["_law_script"] [.eat] false F_law := by
  have bn := free_bn inK gl c (fun x hx => List.mem_append_right _ (List.mem_map.mpr ⟨x, hx, rfl⟩))
  obtain ⟨fd0, F0⟩ := c.def_ 0 (d := d_w_pen) rfl
  have g0 := He.glo_ok inK gl (c.fact 0 (f := .glo "_law_pen") rfl)
  obtain ⟨fd1, F1⟩ := c.def_ 1 (d := d_w_draw) rfl
  have g1 := He.glo_ok inK gl (c.fact 1 (f := .glo "_law_draw") rfl)
  obtain ⟨fd2, F2⟩ := c.def_ 2 (d := d_w_any_house) rfl
  have g2 := He.glo_ok inK gl (c.fact 2 (f := .glo "_law_any_house") rfl)
  obtain ⟨fd3, F3⟩ := c.def_ 3 (d := d_w_stand) rfl
  have g3 := He.glo_ok inK gl (c.fact 3 (f := .glo "_law_stand") rfl)
  obtain ⟨fd4, F4⟩ := c.def_ 4 (d := d_w_divisor) rfl
  have g4 := He.glo_ok inK gl (c.fact 4 (f := .glo "_law_divisor") rfl)
  obtain ⟨fd5, F5⟩ := c.def_ 5 (d := d_w_near_stand) rfl
  have g5 := He.glo_ok inK gl (c.fact 5 (f := .glo "_law_near_stand") rfl)
  obtain ⟨fd6, F6⟩ := c.def_ 6 (d := d_divisor) rfl
  have g6 := He.glo_ok inK gl (c.fact 6 (f := .glo "divisor") rfl)
  obtain ⟨fd7, F7⟩ := c.def_ 7 (d := d_common) rfl
  have g7 := He.glo_ok inK gl (c.fact 7 (f := .glo "common") rfl)
  obtain ⟨fd8, F8⟩ := c.def_ 8 (d := d_alike) rfl
  have g8 := He.glo_ok inK gl (c.fact 8 (f := .glo "alike") rfl)
  obtain ⟨fd9, F9⟩ := c.def_ 9 (d := d_unlike) rfl
  have g9 := He.glo_ok inK gl (c.fact 9 (f := .glo "unlike") rfl)
  obtain ⟨fd10, F10⟩ := c.def_ 10 (d := d_round_of) rfl
  have g10 := He.glo_ok inK gl (c.fact 10 (f := .glo "round_of") rfl)
  obtain ⟨fd11, F11⟩ := c.def_ 11 (d := d_meeting) rfl
  have g11 := He.glo_ok inK gl (c.fact 11 (f := .glo "meeting") rfl)
  obtain ⟨fd12, F12⟩ := c.def_ 12 (d := d_w_some) rfl
  have g12 := He.glo_ok inK gl (c.fact 12 (f := .glo "_law_some") rfl)
  obtain ⟨fd13, F13⟩ := c.def_ 13 (d := d_w_meet) rfl
  have g13 := He.glo_ok inK gl (c.fact 13 (f := .glo "_law_meet") rfl)
  obtain ⟨fd14, F14⟩ := c.def_ 14 (d := d_w_greedy) rfl
  have g14 := He.glo_ok inK gl (c.fact 14 (f := .glo "_law_greedy") rfl)
  obtain ⟨fd15, F15⟩ := c.def_ 15 (d := d_w_round) rfl
  have g15 := He.glo_ok inK gl (c.fact 15 (f := .glo "_law_round") rfl)
  obtain ⟨fd16, F16⟩ := c.def_ 16 (d := d_w_right) rfl
  have g16 := He.glo_ok inK gl (c.fact 16 (f := .glo "_law_right") rfl)
  obtain ⟨fd17, F17⟩ := c.def_ 17 (d := d_law) rfl
  have g17 := He.glo_ok inK gl (c.fact 17 (f := .glo "law") rfl)
  have e := hfa.symm.trans g17
  cases e
  have b := FunD.bindsA (ps := ["_law_script"]) F17 fun _ _ _ _ _ _ us hl => match us, hl with | [_], _ => rfl
  refine ⟨fd17, fun s v => b s [v] rfl, fun base _ _ => ?_⟩
  have k0 : CalD P w K mg base 1 sg_w_pen F_w_pen := cal_of (k := 0) (c := cs_w_pen) (l := tb_w_pen) (ps := ["_law_script"]) F0 g0 rfl rfl (fun _ => F0.bindsN fun _ _ _ _ _ _ us hl => match us, hl with | [_], _ => rfl) (fun q hq => by cases hq) ck_w_pen rfl rfl rfl (noG rfl) bn (by
    intro p hp
    simp [tb_w_pen] at hp)
  have k1 : CalD P w K mg base 2 sg_w_draw F_w_draw := cal_of (k := 1) (c := cs_w_draw) (l := tb_w_draw) (ps := ["_law_pen_here", "_law_many"]) F1 g1 rfl rfl (fun _ => F1.bindsN fun _ _ _ _ _ _ us hl => match us, hl with | [_, _], _ => rfl) (fun q hq => by cases hq) ck_w_draw rfl rfl rfl (noG rfl) bn (by
    intro p hp
    simp [tb_w_draw] at hp)
  have k2 : CalD P w K mg base 3 sg_w_any_house F_w_any_house := cal_of (k := 2) (c := cs_w_any_house) (l := tb_w_any_house) (ps := ["_law_pen_here", "_law_most"]) F2 g2 rfl rfl (fun _ => F2.bindsN fun _ _ _ _ _ _ us hl => match us, hl with | [_, _], _ => rfl) (fun q hq => by cases hq) ck_w_any_house rfl rfl rfl (noG rfl) bn (by
    intro p hp
    simp only [tb_w_any_house, List.mem_cons, List.not_mem_nil, or_false] at hp
    subst hp
    exact k1.mono (by decide))
  have k3 : CalD P w K mg base 4 sg_w_stand F_w_stand := cal_of (k := 3) (c := cs_w_stand) (l := tb_w_stand) (ps := ["_law_pen_here", "_law_house"]) F3 g3 rfl rfl (fun _ => F3.bindsN fun _ _ _ _ _ _ us hl => match us, hl with | [_, _], _ => rfl) (fun q hq => by cases hq) ck_w_stand rfl rfl rfl (noG rfl) bn (by
    intro p hp
    simp only [tb_w_stand, List.mem_cons, List.not_mem_nil, or_false] at hp
    subst hp
    exact k1.mono (by decide))
  have k4 : CalD P w K mg base 5 sg_w_divisor F_w_divisor := cal_of (k := 4) (c := cs_w_divisor) (l := tb_w_divisor) (ps := ["_law_one", "_law_other"]) F4 g4 rfl rfl (fun _ => F4.bindsN fun _ _ _ _ _ _ us hl => match us, hl with | [_, _], _ => rfl) (fun q hq => by cases hq) ck_w_divisor rfl rfl rfl (noG rfl) bn (by
    intro p hp
    simp [tb_w_divisor] at hp)
  have k5 : CalD P w K mg base 6 sg_w_near_stand F_w_near_stand := cal_of (k := 5) (c := cs_w_near_stand) (l := tb_w_near_stand) (ps := ["_law_pen_here", "_law_house"]) F5 g5 rfl rfl (fun _ => F5.bindsN fun _ _ _ _ _ _ us hl => match us, hl with | [_, _], _ => rfl) (fun q hq => by cases hq) ck_w_near_stand rfl rfl rfl (noG rfl) bn (by
    intro p hp
    simp only [tb_w_near_stand, List.mem_cons, List.not_mem_nil, or_false] at hp
    rcases hp with rfl | rfl | rfl
    · exact k3.mono (by decide)
    · exact k1.mono (by decide)
    · exact k4.mono (by decide)
    )
  have k6 : CalD P w K mg base 7 sg_divisor F_divisor := cal_of (k := 6) (c := cs_divisor) (l := tb_divisor) (ps := ["one", "other"]) F6 g6 rfl rfl (fun _ => F6.bindsN fun _ _ _ _ _ _ us hl => match us, hl with | [_, _], _ => rfl) (fun q hq => by cases hq) ck_divisor rfl rfl rfl (noG rfl) bn (by
    intro p hp
    simp [tb_divisor] at hp)
  have k7 : CalD P w K mg base 8 sg_common F_common := cal_of (k := 7) (c := cs_common) (l := tb_common) (ps := ["house", "j", "k"]) F7 g7 rfl rfl (fun _ => F7.bindsN fun _ _ _ _ _ _ us hl => match us, hl with | [_, _, _], _ => rfl) (fun q hq => by cases hq) ck_common rfl rfl rfl (noG rfl) bn (by
    intro p hp
    simp only [tb_common, List.mem_cons, List.not_mem_nil, or_false] at hp
    subst hp
    exact k6.mono (by decide))
  have k8 : CalD P w K mg base 9 sg_alike F_alike := cal_of (k := 8) (c := cs_alike) (l := tb_alike) (ps := ["house", "stand", "j", "k"]) F8 g8 rfl rfl (fun _ => F8.bindsN fun _ _ _ _ _ _ us hl => match us, hl with | [_, _, _, _], _ => rfl) (fun q hq => by cases hq) ck_alike rfl rfl rfl (noG rfl) bn (by
    intro p hp
    simp only [tb_alike, List.mem_cons, List.not_mem_nil, or_false] at hp
    subst hp
    exact k7.mono (by decide))
  have k9 : CalD P w K mg base 10 sg_unlike F_unlike := cal_of (k := 9) (c := cs_unlike) (l := tb_unlike) (ps := ["house", "stand", "some"]) F9 g9 rfl rfl (fun _ => F9.bindsN fun _ _ _ _ _ _ us hl => match us, hl with | [_, _, _], _ => rfl) (fun q hq => by cases hq) ck_unlike rfl rfl rfl (noG rfl) bn (by
    intro p hp
    simp only [tb_unlike, List.mem_cons, List.not_mem_nil, or_false] at hp
    subst hp
    exact k8.mono (by decide))
  have k10 : CalD P w K mg base 11 sg_round_of F_round_of := cal_of (k := 10) (c := cs_round_of) (l := tb_round_of) (ps := ["house", "some"]) F10 g10 rfl rfl (fun _ => F10.bindsN fun _ _ _ _ _ _ us hl => match us, hl with | [_, _], _ => rfl) (fun q hq => by cases hq) ck_round_of rfl rfl rfl (noG rfl) bn (by
    intro p hp
    simp only [tb_round_of, List.mem_cons, List.not_mem_nil, or_false] at hp
    subst hp
    exact k6.mono (by decide))
  have k11 : CalD P w K mg base 12 sg_meeting F_meeting := cal_of (k := 11) (c := cs_meeting) (l := tb_meeting) (ps := ["house", "stand", "some", "start"]) F11 g11 rfl rfl (fun h => by cases h) (by
    intro q hq
    simp only [sg_meeting, List.mem_cons, List.not_mem_nil, or_false] at hq
    rcases hq with rfl | rfl
    · exact (by
      obtain ⟨mv, hk⟩ := FunD.kbinds0 (ps := ["house", "stand", "some", "start"]) F11 3 ["start"] [] (fun us mv ws => (us ++ ((ws.drop 0).take 1))) (fun h => by cases h) (fun q hq => by cases hq) (fun r1 r2 r3 => (r1.append ((r3.drop 0).take 1))) (fun _ _ _ _ _ _ us mv ws h1 h2 h3 => match us, mv, ws, h1, h2, h3 with | [u0, u1, u2], [], [w0], _, _, _ => rfl)
      exact ⟨perm_flat rfl, _, _, hk, fun vs zs h1 h2 => match vs, zs, h1, h2 with | [u0, u1, u2], [w0], _, _ => rfl⟩)
    · exact (by
      obtain ⟨mv, hk⟩ := FunD.kbinds0 (ps := ["house", "stand", "some", "start"]) F11 3 [] [("start", V.int 0)] (fun us mv ws => (us ++ ((mv.drop 0).take 1))) (fun h => by cases h) (fun q hq => hq) (fun r1 r2 r3 => (r1.append ((r2.drop 0).take 1))) (fun _ _ _ _ _ _ us mv ws h1 h2 h3 => match us, mv, ws, h1, h2, h3 with | [u0, u1, u2], [m0], [], _, _, _ => ⟨_, _, _, _, _, _, rfl, rfl, rfl⟩)
      exact ⟨perm_flat rfl, _, _, hk, fun vs zs h1 h2 => match vs, zs, h1, h2 with | [u0, u1, u2], [], _, _ => rfl⟩)
    ) ck_meeting rfl rfl rfl (noG rfl) bn (by
    intro p hp
    simp only [tb_meeting, List.mem_cons, List.not_mem_nil, or_false] at hp
    rcases hp with rfl | rfl
    · exact k9.mono (by decide)
    · exact k10.mono (by decide)
    )
  have k12 : CalD P w K mg base 13 sg_w_some F_w_some := cal_of (k := 12) (c := cs_w_some) (l := tb_w_some) (ps := ["_law_pen_here", "_law_many"]) F12 g12 rfl rfl (fun _ => F12.bindsN fun _ _ _ _ _ _ us hl => match us, hl with | [_, _], _ => rfl) (fun q hq => by cases hq) ck_w_some rfl rfl rfl (noG rfl) bn (by
    intro p hp
    simp only [tb_w_some, List.mem_cons, List.not_mem_nil, or_false] at hp
    subst hp
    exact k1.mono (by decide))
  have k13 : CalD P w K mg base 14 sg_w_meet F_w_meet := cal_of (k := 13) (c := cs_w_meet) (l := tb_w_meet) (ps := ["_law_house", "_law_stand_here", "_law_some_here"]) F13 g13 rfl rfl (fun _ => F13.bindsN fun _ _ _ _ _ _ us hl => match us, hl with | [_, _, _], _ => rfl) (fun q hq => by cases hq) ck_w_meet rfl rfl rfl (noG rfl) bn (by
    intro p hp
    simp only [tb_w_meet, List.mem_cons, List.not_mem_nil, or_false] at hp
    subst hp
    exact k4.mono (by decide))
  have k14 : CalD P w K mg base 15 sg_w_greedy F_w_greedy := cal_of (k := 14) (c := cs_w_greedy) (l := tb_w_greedy) (ps := ["_law_pen_here", "_law_house", "_law_stand_here"]) F14 g14 rfl rfl (fun _ => F14.bindsN fun _ _ _ _ _ _ us hl => match us, hl with | [_, _, _], _ => rfl) (fun q hq => by cases hq) ck_w_greedy rfl rfl rfl (noG rfl) bn (by
    intro p hp
    simp only [tb_w_greedy, List.mem_cons, List.not_mem_nil, or_false] at hp
    rcases hp with rfl | rfl
    · exact k13.mono (by decide)
    · exact k1.mono (by decide)
    )
  have k15 : CalD P w K mg base 16 sg_w_round F_w_round := cal_of (k := 15) (c := cs_w_round) (l := tb_w_round) (ps := ["_law_house", "_law_some_here"]) F15 g15 rfl rfl (fun _ => F15.bindsN fun _ _ _ _ _ _ us hl => match us, hl with | [_, _], _ => rfl) (fun q hq => by cases hq) ck_w_round rfl rfl rfl (noG rfl) bn (by
    intro p hp
    simp only [tb_w_round, List.mem_cons, List.not_mem_nil, or_false] at hp
    subst hp
    exact k4.mono (by decide))
  have k16 : CalD P w K mg base 17 sg_w_right F_w_right := cal_of (k := 16) (c := cs_w_right) (l := tb_w_right) (ps := ["_law_house", "_law_stand_here", "_law_some_here", "_law_first"]) F16 g16 rfl rfl (fun _ => F16.bindsN fun _ _ _ _ _ _ us hl => match us, hl with | [_, _, _, _], _ => rfl) (fun q hq => by cases hq) ck_w_right rfl rfl rfl (noG rfl) bn (by
    intro p hp
    simp only [tb_w_right, List.mem_cons, List.not_mem_nil, or_false] at hp
    rcases hp with rfl | rfl | rfl
    · exact k11.mono (by decide)
    · exact k13.mono (by decide)
    · exact k15.mono (by decide)
    )
  exact fnD_of (k := 17) F17 (fn_chk ck_law rfl rfl) (gf_of (l := tb_law) rfl (noG rfl) bn (by
    intro p hp
    simp only [tb_law, List.mem_cons, List.not_mem_nil, or_false] at hp
    rcases hp with rfl | rfl | rfl | rfl | rfl | rfl | rfl | rfl | rfl
    · exact k0.mono (by decide)
    · exact k2.mono (by decide)
    · exact k3.mono (by decide)
    · exact k5.mono (by decide)
    · exact k1.mono (by decide)
    · exact k12.mono (by decide)
    · exact k14.mono (by decide)
    · exact k16.mono (by decide)
    · exact k11.mono (by decide)
    ))
end
abbrev R : PySem.W.OpenRow := PySem.W.OpenLaw.row PySem.Challenge.rw_shovecombs_k06_meetings_from_a_start
abbrev hook : PySem.W.Hook := He.hookD 4 faT fnT
def obT (s : PySem.W.SharedT) : He.AlD := He.obsDG 4 faT fnT (HandSHeadRun.getT s)
theorem ob_eq (s : PySem.W.SharedT) : obT s = hook.obs s.abs := He.obsDG_eq (HandSHeadRun.getT_eq s)
theorem run (w : World) : HandSHeadRun.RunEq R (PySem.W.view R.prog [20]) hook obT 4000 ["divisor", "common", "round_of", "alike", "unlike", "meeting", "_law_pen", "_law_draw", "_law_divisor", "_law_any_house", "_law_stand", "_law_some", "_law_meet", "_law_near_stand", "_law_round", "_law_greedy", "_law_right"] w := by
  intro os
  kernel_rfl
end Sc.k06
namespace Sc
open PySem PySem.Spec PyProof.Rows L2
/-- what one asking does: the look, and the two tellings alike -/
theorem ask_ok {Φ : Fns} (h4 : DrawOk (Φ 4)) (h7 : MeetRightOk (Φ 7)) (h8 : MeetingOk (Φ 8)) {B : Nat} {h : Int} {cs : List (Int × Int)} {ss : List Int} {l : List Nat} {s0 s1 s2 s3 : Int} {p : D} {x0 x2 x3 x6 x7 x9 x11 : Option D} {P : Post}
    (hc : Cs' cs) (hl : ss.length = cs.length) (hl10 : l.length ≤ 10) (hk : ∀ k ∈ l, k < cs.length) (hp : Pen p B) (hB : B < 2 ^ 20)
    (hn : ∀ p' y11, Pen p' (B + 1) → P.nx [x0, some p', x2, x3, some (houseD h cs), some (stD ss), x6, x7, some (.lst [.int s0, .int s1, .int s2, .int s3]), x9, some (rowD l), y11]) :
    WS Φ [.asg 11 (.idx (.var 8) (.call 4 [.var 1, .cst (.int 4)] [1])), .ite (.nt (.call 7 [.var 4, .var 5, .var 10, .var 11] [])) [.ret (.cst (.bl false))] [], .ite (.cmp .ne (.bi .repr [.callk 8 3 [] [.var 4, .var 5, .var 10] [.at 0, .at 1, .at 2, .df (.int 0)]]) (.bi .repr [.callk 8 3 ["start"] [.var 4, .var 5, .var 10, .cst (.int 0)] [.at 0, .at 1, .at 2, .at 3]])) [.ret (.cst (.bl false))] []] [x0, some p, x2, x3, some (houseD h cs), some (stD ss), x6, x7, some (.lst [.int s0, .int s1, .int s2, .int s3]), x9, some (rowD l), x11] P := by
  obtain ⟨d, o, e8, rfl, hd⟩ := (h8 h cs ss l 0 hc hl hl10 hk).ex
  have hr : ∃ u, biD .repr [d] = some (.str u) := by
    have hrr := rnd_pos hc _ l rfl
    have h10 : rnd cs l ≤ 64 ^ 10 := Nat.le_trans hrr.2 (Nat.pow_le_pow_right (by decide) hl10)
    cases hm : mts (al cs ss) l with
    | true =>
      rw [hm, if_pos rfl] at hd
      obtain ⟨x, rfl, a1, a2, _⟩ := hd
      exact tame_repr (B := 1925) (tame_int (k := 59) (small64 (by omega))) (by decide)
    | false =>
      rw [hm, if_neg Bool.false_ne_true] at hd
      subst hd
      exact ⟨_, rfl⟩
  obtain ⟨u, eu⟩ := hr
  simp only [wpA, wpB, wpC, we_callr, reread, List.length_cons, List.length_nil, List.map_cons, List.map_nil, Option.bind_some, id, Nat.reduceAdd, Nat.reduceLT, if_true, if_pos, true_and, and_true, reduceIte, Bool.not_true, Bool.not_false, decide_true, decide_false, List.getElem?_cons_zero, List.getElem?_cons_succ, E.wr, wrL, List.append_nil, List.nil_append, List.singleton_append, List.cons_append]
  refine h4.use hp (by omega) (by decide) (by decide) fun r p1 P1 a0 a1 => ?_
  obtain ⟨s, _, es⟩ := mem_ix (l := [s0, s1, s2, s3]) a0 (by simpa using a1)
  have es : idxD (.lst [.int s0, .int s1, .int s2, .int s3]) (.int r) = some (.int s) := es
  rw [ixL] at es
  simp only [wpA, wpB, wpC, we_callr, reread, List.length_cons, List.length_nil, List.map_cons, List.map_nil, Option.bind_some, id, Nat.reduceAdd, Nat.reduceLT, if_true, if_pos, true_and, and_true, reduceIte, Bool.not_true, Bool.not_false, decide_true, decide_false, List.getElem?_cons_zero, List.getElem?_cons_succ, E.wr, wrL, List.append_nil, List.nil_append, List.singleton_append, List.cons_append, es, h7 h cs ss l s hc hl hl10 hk, permD, List.getD_cons_zero, List.getD_cons_succ, e8, eu]
  rw [if_neg Bool.false_ne_true, if_neg Bool.false_ne_true]
  exact hn p1 _ P1
end Sc
namespace Sc
open PySem PySem.Spec PyProof.Rows L2
theorem tame_hs {h : Int} {cs : List (Int × Int)} {ss : List Int} (h1 : 1 ≤ h) (h3 : h ≤ 3) (hc : Cs' cs) (hm : cs.length ≤ 7) (hl : ss.length = cs.length) (hs : ∀ s ∈ ss, Sm s) : ∃ s, biD .repr [.tup [houseD h cs, stD ss]] = some (.str s) := by
  refine tame_repr (B := 200000) (tame_tup (B := 90000) (fun x hx => ?_) (by simp only [List.length_cons, List.length_nil]; omega)) (by decide)
  simp only [List.mem_cons, List.not_mem_nil, or_false] at hx
  rcases hx with rfl | rfl
  · exact (tame_house (k := 55) (hands := 0) (m := 7) hm (by omega) hc.1).up (by decide)
  · exact (tame_row (k := 57) (m := 7) (by omega) hs).up (by decide)
theorem law_ok {Φ : Fns} (h0 : PenOk (Φ 0)) (h1 : HouseOk (Φ 1) 7) (h2 : StandOk (Φ 2)) (h3 : NearOk (Φ 3)) (h4 : DrawOk (Φ 4)) (h5 : SomeOk (Φ 5)) (h6 : GreedyOk (Φ 6)) (h7 : MeetRightOk (Φ 7)) (h8 : MeetingOk (Φ 8)) {ns : List Int} (hn : ns.length ≤ 63) : WR (k06.ir_law.run Φ [.scr (ns.map .int)]) fun d o => d = .bl true ∧ o = [] := by
  refine wr_run rfl rfl ?_
  show WS Φ k06.ir_law.body [some (.scr (ns.map .int)), none, none, none, none, none, none, none, none, none, none, none] _
  unfold k06.ir_law
  have e6 : rngD (.int 0) (.int 6) = some ((List.range 6).map nD) := rgN (n := 6) (by decide)
  refine ws_cut (fun n => ∃ p, n = [some (.scr (ns.map .int)), some p, none, none, none, none, none, none, none, none, none, none] ∧ Pen p 0) ?_ ?_
  · simp only [wpA, wpB, wpC, we_callr, reread, List.length_cons, List.length_nil, List.map_cons, List.map_nil, Option.bind_some, id, Nat.reduceAdd, Nat.reduceLT, if_true, if_pos, true_and, and_true, reduceIte, Bool.not_true, Bool.not_false, decide_true, decide_false, List.getElem?_cons_zero, List.getElem?_cons_succ, E.wr, wrL, List.append_nil, List.nil_append, List.singleton_append, List.cons_append]
    refine (h0 ns hn).mono ?_
    rintro p _ ⟨P0, rfl⟩
    exact ⟨rfl, p, rfl, P0⟩
  rintro _ ⟨p, rfl, P0⟩
  refine ws_cut (fun n => ∃ x0 p' x2 x3 x4 x5 x6 x7 x8 x9 x10 x11, n = [x0, some p', x2, x3, x4, x5, x6, x7, x8, x9, x10, x11]) ?_ ?_
  · simp only [wpA, wpB, wpC, we_callr, reread, List.length_cons, List.length_nil, List.map_cons, List.map_nil, Option.bind_some, id, Nat.reduceAdd, Nat.reduceLT, if_true, if_pos, true_and, and_true, reduceIte, Bool.not_true, Bool.not_false, decide_true, decide_false, List.getElem?_cons_zero, List.getElem?_cons_succ, E.wr, wrL, List.append_nil, List.nil_append, List.singleton_append, List.cons_append, e6]
    refine ws_for (fun i n => ∃ x0 p' x2 x3 x4 x5 x6 x7 x8 x9 x10 x11, n = [x0, some p', x2, x3, x4, x5, x6, x7, x8, x9, x10, x11] ∧ Pen p' (1000 * i)) ⟨_, _, _, _, _, _, _, _, _, _, _, _, rfl, P0⟩ ?_ ?_
    · rintro i d n hd ⟨x0, p', x2, x3, x4, x5, x6, x7, x8, x9, x10, x11, rfl, P'⟩
      obtain ⟨j, hj, rfl⟩ := row_at hd
      have hi : i < 6 := by have := (List.getElem?_eq_some_iff.mp hj).1; simpa using this
      simp only [wpA, wpB, wpC, we_callr, reread, List.length_cons, List.length_nil, List.map_cons, List.map_nil, Option.bind_some, id, Nat.reduceAdd, Nat.reduceLT, if_true, if_pos, true_and, and_true, reduceIte, Bool.not_true, Bool.not_false, decide_true, decide_false, List.getElem?_cons_zero, List.getElem?_cons_succ, E.wr, wrL, List.append_nil, List.nil_append, List.singleton_append, List.cons_append]
      refine (h1 p' (1000 * i) P' (by omega)).mono ?_
      rintro _ _ ⟨h, cs, p1, rfl, rfl, P1, g1, g2, g3, g4, g5⟩
      have hc : Cs' cs := ⟨g5, by omega⟩
      simp only [wpA, wpB, wpC, we_callr, reread, List.length_cons, List.length_nil, List.map_cons, List.map_nil, Option.bind_some, id, Nat.reduceAdd, Nat.reduceLT, if_true, if_pos, true_and, and_true, reduceIte, Bool.not_true, Bool.not_false, decide_true, decide_false, List.getElem?_cons_zero, List.getElem?_cons_succ, E.wr, wrL, List.append_nil, List.nil_append, List.singleton_append, List.cons_append]
      refine (h2 p1 _ h cs P1 (by omega) hc.2).mono ?_
      rintro _ _ ⟨ss1, p2, rfl, rfl, P2, l1, m1⟩
      simp only [wpA, wpB, wpC, we_callr, reread, List.length_cons, List.length_nil, List.map_cons, List.map_nil, Option.bind_some, id, Nat.reduceAdd, Nat.reduceLT, if_true, if_pos, true_and, and_true, reduceIte, Bool.not_true, Bool.not_false, decide_true, decide_false, List.getElem?_cons_zero, List.getElem?_cons_succ, E.wr, wrL, List.append_nil, List.nil_append, List.singleton_append, List.cons_append]
      refine (h3 p2 _ h cs P2 (by omega) hc g3).mono ?_
      rintro _ _ ⟨ss2, p3, rfl, rfl, P3, l2, m2⟩
      simp only [wpA, wpB, wpC, we_callr, reread, List.length_cons, List.length_nil, List.map_cons, List.map_nil, Option.bind_some, id, Nat.reduceAdd, Nat.reduceLT, if_true, if_pos, true_and, and_true, reduceIte, Bool.not_true, Bool.not_false, decide_true, decide_false, List.getElem?_cons_zero, List.getElem?_cons_succ, E.wr, wrL, List.append_nil, List.nil_append, List.singleton_append, List.cons_append]
      refine ⟨by decide, ?_⟩
      refine ws_for (fun m n => ∃ p' x5 x6 x7 x8 x9 x10 x11, n = [x0, some p', some (.int (j : Int)), x3, some (houseD h cs), x5, x6, x7, x8, x9, x10, x11] ∧ Pen p' (1000 * i + 200 + 100 * m)) ⟨_, _, _, _, _, _, _, _, rfl, P3.up (by omega)⟩ ?_ ?_
      · rintro m d n hd ⟨p4, x5, x6, x7, x8, x9, x10, x11, rfl, P4⟩
        have hm2 : m < 2 := by have := (List.getElem?_eq_some_iff.mp hd).1; simpa using this
        obtain ⟨ss, rfl, hl, hs⟩ : ∃ ss, d = stD ss ∧ ss.length = cs.length ∧ ∀ s ∈ ss, Sm s := by
          have hd := List.mem_of_getElem? hd
          simp only [List.mem_cons, List.not_mem_nil, or_false] at hd
          rcases hd with rfl | rfl
          · exact ⟨ss1, rfl, l1, fun s hs => Sm.of (m1 s hs)⟩
          · exact ⟨ss2, rfl, l2, m2⟩
        obtain ⟨u, eu⟩ := tame_hs g1 g2 hc g4 hl hs
        simp only [wpA, wpB, wpC, we_callr, reread, List.length_cons, List.length_nil, List.map_cons, List.map_nil, Option.bind_some, id, Nat.reduceAdd, Nat.reduceLT, if_true, if_pos, true_and, and_true, reduceIte, Bool.not_true, Bool.not_false, decide_true, decide_false, List.getElem?_cons_zero, List.getElem?_cons_succ, E.wr, wrL, List.append_nil, List.nil_append, List.singleton_append, List.cons_append, eu, lenSt]
        refine ⟨by decide, ?_⟩
        refine h4.use P4 (by omega) (by omega) (by omega) fun r p5 P5 a0 a1 => ?_
        obtain ⟨at_, rfl⟩ : ∃ n : Nat, r = (n : Int) := ⟨r.toNat, by omega⟩
        simp only [wpA, wpB, wpC, we_callr, reread, List.length_cons, List.length_nil, List.map_cons, List.map_nil, Option.bind_some, id, Nat.reduceAdd, Nat.reduceLT, if_true, if_pos, true_and, and_true, reduceIte, Bool.not_true, Bool.not_false, decide_true, decide_false, List.getElem?_cons_zero, List.getElem?_cons_succ, E.wr, wrL, List.append_nil, List.nil_append, List.singleton_append, List.cons_append, sAt (show at_ < ss.length by omega)]
        refine h4.use P5 (by omega) (by decide) (by decide) fun r2 p6 P6 b0 b1 => ?_
        simp only [wpA, wpB, wpC, we_callr, reread, List.length_cons, List.length_nil, List.map_cons, List.map_nil, Option.bind_some, id, Nat.reduceAdd, Nat.reduceLT, if_true, if_pos, true_and, and_true, reduceIte, Bool.not_true, Bool.not_false, decide_true, decide_false, List.getElem?_cons_zero, List.getElem?_cons_succ, E.wr, wrL, List.append_nil, List.nil_append, List.singleton_append, List.cons_append]
        refine ⟨by decide, ?_⟩
        refine h4.use P6 (by omega) (by decide) (by decide) fun r3 p7 P7 c0 c1 => ?_
        simp only [wpA, wpB, wpC, we_callr, reread, List.length_cons, List.length_nil, List.map_cons, List.map_nil, Option.bind_some, id, Nat.reduceAdd, Nat.reduceLT, if_true, if_pos, true_and, and_true, reduceIte, Bool.not_true, Bool.not_false, decide_true, decide_false, List.getElem?_cons_zero, List.getElem?_cons_succ, E.wr, wrL, List.append_nil, List.nil_append, List.singleton_append, List.cons_append]
        refine ⟨by decide, by decide, by decide, by decide, ?_⟩
        simp only [wpA, wpB, wpC, we_callr, reread, List.length_cons, List.length_nil, List.map_cons, List.map_nil, Option.bind_some, id, Nat.reduceAdd, Nat.reduceLT, if_true, if_pos, true_and, and_true, reduceIte, Bool.not_true, Bool.not_false, decide_true, decide_false, List.getElem?_cons_zero, List.getElem?_cons_succ, E.wr, wrL, List.append_nil, List.nil_append, List.singleton_append, List.cons_append, lenSt, hCs, hHd, cPit, cStr]
        refine (h5 p7 _ ss.length P7 (by omega) (by omega)).mono ?_
        rintro _ _ ⟨q5, p8, rfl, rfl, P8, s5, f5⟩
        simp only [wpA, wpB, wpC, we_callr, reread, List.length_cons, List.length_nil, List.map_cons, List.map_nil, Option.bind_some, id, Nat.reduceAdd, Nat.reduceLT, if_true, if_pos, true_and, and_true, reduceIte, Bool.not_true, Bool.not_false, decide_true, decide_false, List.getElem?_cons_zero, List.getElem?_cons_succ, E.wr, wrL, List.append_nil, List.nil_append, List.singleton_append, List.cons_append]
        refine (h6 p8 _ h cs ss P8 (by omega) hc g4 hl).mono ?_
        rintro _ _ ⟨q6, p9, rfl, rfl, P9, l6, f6⟩
        simp only [wpA, wpB, wpC, we_callr, reread, List.length_cons, List.length_nil, List.map_cons, List.map_nil, Option.bind_some, id, Nat.reduceAdd, Nat.reduceLT, if_true, if_pos, true_and, and_true, reduceIte, Bool.not_true, Bool.not_false, decide_true, decide_false, List.getElem?_cons_zero, List.getElem?_cons_succ, E.wr, wrL, List.append_nil, List.nil_append, List.singleton_append, List.cons_append, lenSt, rgN (show ss.length ≤ 16777216 by omega)]
        refine ⟨by decide, by decide, by decide, ?_⟩
        refine ws_for (fun e n => ∃ p' x10 x11, n = [x0, some p', some (.int (j : Int)), x3, some (houseD h cs), some (stD ss), some (.str u), some (.int (at_ : Int)), some (.lst [.int (ss.getD at_ 0), .int (ss.getD at_ 0 + r2 - 200), .int (0 - 10 ^ Int.toNat 39 + r3), .int (10 ^ Int.toNat 39)]), some (.lst [.tup [], .tup [.int (at_ : Int)], rowD q5, rowD q6]), x10, x11] ∧ Pen p' (1000 * i + 200 + 100 * m + 30 + e)) ⟨_, _, _, rfl, P9.up (by omega)⟩ ?_ ?_
        · rintro e d n hd ⟨p', x10, x11, rfl, Pe⟩
          have he : e < 5 := by have := (List.getElem?_eq_some_iff.mp hd).1; simpa using this
          obtain ⟨l, rfl, hl10, hk⟩ : ∃ l, d = rowD l ∧ l.length ≤ 10 ∧ ∀ k ∈ l, k < cs.length := by
            have hd := List.mem_of_getElem? hd
            simp only [List.mem_cons, List.not_mem_nil, or_false] at hd
            rcases hd with rfl | rfl | rfl | rfl | rfl
            · exact ⟨[], rfl, by decide, fun k hk => by cases hk⟩
            · exact ⟨[at_], rfl, by simp, fun k hk => by simp at hk; omega⟩
            · refine ⟨q5, rfl, ?_, fun k hk => by have := f5 k hk; omega⟩
              have := rising_len (lo := 0) s5 (fun k _ => Nat.zero_le k) f5 (Nat.zero_le _)
              omega
            · exact ⟨q6, rfl, by omega, f6⟩
            · exact ⟨List.range ss.length, rfl, by rw [List.length_range]; omega, fun k hk => by rw [← hl]; exact List.mem_range.mp hk⟩
          simp only [asN, asT, asL0, asLS, Option.bind_some, wl_ite, wl_some, wl_bind, set0, setS, gN0, gNS, List.length_cons, List.length_nil, Nat.reduceAdd, Nat.reduceLT, true_and, if_true, if_pos, Nat.zero_lt_succ, Nat.succ_lt_succ_iff]
          refine ask_ok h4 h7 h8 hc hl hl10 hk Pe (by omega) ?_
          exact fun p2 y11 P2 => ⟨p2, _, y11, rfl, P2.up (by omega)⟩
        · rintro n ⟨p', x10, x11, rfl, Pe⟩
          simp only [wpA, wpB, wpC, we_callr, reread, List.length_cons, List.length_nil, List.map_cons, List.map_nil, Option.bind_some, id, Nat.reduceAdd, Nat.reduceLT, if_true, if_pos, true_and, and_true, reduceIte, Bool.not_true, Bool.not_false, decide_true, decide_false, List.getElem?_cons_zero, List.getElem?_cons_succ, E.wr, wrL, List.append_nil, List.nil_append, List.singleton_append, List.cons_append, eu]
          refine ⟨by decide, ?_⟩
          rw [if_neg (by simp)]
          exact ⟨_, _, _, _, _, _, _, _, rfl, Pe.up (by simp only [List.length_cons, List.length_nil]; omega)⟩
      · rintro n ⟨p4, x5, x6, x7, x8, x9, x10, x11, rfl, P4⟩
        exact ⟨_, _, _, _, _, _, _, _, _, _, _, _, rfl, P4.up (by simp only [List.length_cons, List.length_nil]; omega)⟩
    · rintro n ⟨x0, p', x2, x3, x4, x5, x6, x7, x8, x9, x10, x11, rfl, P'⟩
      exact ⟨_, _, _, _, _, _, _, _, _, _, _, _, rfl⟩
  rintro _ ⟨x0, p', x2, x3, x4, x5, x6, x7, x8, x9, x10, x11, rfl⟩
  have hcs : Cs' [(4, 1), (6, 1)] := ⟨fun c hc => (by
    simp only [List.mem_cons, List.not_mem_nil, or_false] at hc
    rcases hc with rfl | rfl <;> (unfold combOk; decide)), by decide⟩
  obtain ⟨d1, o1, f1, rfl, hd1⟩ := (h8 1 [(4, 1), (6, 1)] [1, 5] [0, 1] 0 hcs rfl (by decide) (by decide)).ex
  obtain ⟨d2, o2, f2, rfl, hd2⟩ := (h8 1 [(4, 1), (6, 1)] [1, 4] [0, 1] 0 hcs rfl (by decide) (by decide)).ex
  rw [if_pos (by decide +kernel)] at hd1
  rw [if_neg (by decide +kernel)] at hd2
  obtain ⟨x, rfl, b1, b2, b3⟩ := hd1
  subst hd2
  have hx : x = 5 := by
    have c0 : (x - 1) % 4 = 0 := b3 0 (by simp)
    have c1 : (x - 5) % 6 = 0 := b3 1 (by simp)
    have b2' : x < 0 + 12 := b2
    omega
  subst hx
  have f1' : Φ 8 [.tup [.int 1, .tup [.tup [.int 4, .int 1], .tup [.int 6, .int 1]]], .tup [.int 1, .int 5], .tup [.int 0, .int 1], .int 0] = .ok (.int 5) [] := f1
  have f2' : Φ 8 [.tup [.int 1, .tup [.tup [.int 4, .int 1], .tup [.int 6, .int 1]]], .tup [.int 1, .int 4], .tup [.int 0, .int 1], .int 0] = .ok .non [] := f2
  simp only [wpA, wpB, wpC, we_callr, reread, List.length_cons, List.length_nil, List.map_cons, List.map_nil, Option.bind_some, id, Nat.reduceAdd, Nat.reduceLT, if_true, if_pos, true_and, and_true, reduceIte, Bool.not_true, Bool.not_false, decide_true, decide_false, List.getElem?_cons_zero, List.getElem?_cons_succ, E.wr, wrL, List.append_nil, List.nil_append, List.singleton_append, List.cons_append, permD, List.getD_cons_zero, List.getD_cons_succ, f1', f2']
  exact ⟨by decide, by decide, by decide, by decide, by decide, by decide, by decide, by decide, rfl⟩
end Sc
namespace Sc.k06
open Sc
theorem k_draw : DrawOk F_w_draw := draw_ok
theorem k_div : DivOk F_w_divisor := divisor_ok
theorem k_unlike : UnlikeOk F_unlike := unlike_ok (alike_ok (common_ok divisor_ok))
theorem k_stand : StandOk F_w_stand := standW_ok k_draw
theorem k_meet : MeetOk F_w_meet := wMeet_ok k_div
theorem k_meeting : MeetingOk F_meeting := meeting_ok k_unlike (round_ok divisor_ok)
theorem law_true (ns : List Int) (h : ns.length ≤ 63) : F_law [.scr (ns.map .int)] = .ok (.bl true) [] :=
  eq_of_wr (law_ok (Φ := tb tb_law) penW_ok (anyHouse_ok k_draw (by decide) (by decide)) k_stand (near_ok k_stand k_draw k_div) k_draw (some_ok k_draw) (greedy_ok k_meet k_draw) (meetRight_ok k_meeting k_meet (wRound_ok k_div)) k_meeting h)
end Sc.k06
open PySem PySem.W PySem.Calls PyProof.Rows
theorem PySem.Challenge.cw_shovecombs_k06_meetings_from_a_start_holds : PySem.Challenge.rw_shovecombs_k06_meetings_from_a_start.Holds := by
  w_on; o_law
  refine HandSHeadRun.head_any (r := OpenLaw.row PySem.Challenge.rw_shovecombs_k06_meetings_from_a_start) (q := view (OpenLaw.row PySem.Challenge.rw_shovecombs_k06_meetings_from_a_start).prog [20]) (H := Sc.k06.hook) (ob := Sc.k06.obT) (M := 4000) (loose := ["divisor", "common", "round_of", "alike", "unlike", "meeting", "_law_pen", "_law_draw", "_law_divisor", "_law_any_house", "_law_stand", "_law_some", "_law_meet", "_law_near_stand", "_law_round", "_law_greedy", "_law_right"]) (d := HandSHeadRun.topDef (OpenLaw.row PySem.Challenge.rw_shovecombs_k06_meetings_from_a_start).prog 20) (kwd := []) Sc.k06.ob_eq
    (by kernel_rfl) (fun s => by kernel_rfl) Sc.k06.run (by kernel_rfl) (by kernel_rfl) (by kernel_rfl) (by rfl) (by first | assumption | decide +kernel) (by decide +kernel) ⟨rfl, rfl, rfl, rfl, rfl, by decide +kernel⟩ ?hw ?hc
  case hw => w_witness2
  case hc =>
    refine Sc.walk_D (l := PySem.Challenge.rw_shovecombs_k06_meetings_from_a_start) (n := 63) (k := 18) (x := "_law_script") (g := Sc.k06.F_law) rfl (by decide) (by kernel_rfl) ⟨rfl, by decide, by decide⟩ ?F Sc.k06.law_true
    intro w mg fa h Y G hmg0
    obtain ⟨K, KX, c⟩ := Y
    have hmg : mg ("law" : PySem.Str) = some (.ref fa) := by
      have e : (HandSHeadRun.topDef (OpenLaw.row PySem.Challenge.rw_shovecombs_k06_meetings_from_a_start).prog 20).name = ("law" : PySem.Str) := by kernel_rfl
      rw [← e]
      exact hmg0
    obtain ⟨fd, hb, hF⟩ := Sc.k06.facts (P := (PySem.Challenge.rw_shovecombs_k06_meetings_from_a_start).prog) (w := w) KX G hmg c
    exact ⟨K, fd, KX, hb, hF⟩
