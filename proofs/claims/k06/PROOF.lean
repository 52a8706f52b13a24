import PyProof.Rows.All
import Wide.All
import OpenK.AllK
import Wide.FinOn
import HandS.Base
import HandS.ForMost
import HandS.Slots
import HandS.TupAny
import HandS.TupMul
import HandS.Style
import HandS.Dict
import HandS.Deep
import KE.LtData
import HandS.Flow
import HandS.Codes
import HandS.WordsDict
import HandS.Text
import HandS.StrMore
import HandS.RaiseMore
import HandS.Iter
import HandS.Comp
import KE.GoesMore
import HandS.NoneIn
import HandS.Defaults
import HandS.Ends
import HandS.HeadEnd
import HandS.IsInst
import HandS.Conv
import HandS.Small
import HandS.ReplaceLit
import HandS.ReplaceList
import HandS.Head0
import HandS.Head1
import HandS.Head2
import HandS.HeadHook1
import HandS.HeadHook2
import PySem.Challenge.RW_roundfaults_k06_whole_words_as_what_they
set_option Elab.async false
set_option linter.all false
set_option maxRecDepth 100000
set_option maxHeartbeats 8000000
/-! Dv1: an evaluator of programs over data of its own: values, a heap, outcomes with open choices. -/
namespace Dv
noncomputable section
open PySem
/-- values: a tuple stands in place, lists and other objects by their number -/
inductive MV where
  | non | bl (b : Bool) | int (i : Int) | str (s : List Nat) | ref (i : Nat) | tup (xs : List MV) | fn (g : Nat) | scr
/-- objects: pot n, draws of which at most n were made; cls c, an instance of the c-th class -/
inductive MO where
  | lst (xs : List MV) | dct (lk : Bool) (kvs : List (MV × MV)) | ins (c : Nat) (fs : List (Option MV)) | pot (n : Nat) | gone
/-- the heap, the newest object first; lo: the levels below which no object names one at or above it (0: not known), the innermost call's first; sc: the script -/
structure MH where
  n : Nat
  lo : List Nat
  os : List MO
  sc : List Int
/-- outcomes: a value, an exception of the c-th class with its value, any of n choices, no outcome told -/
inductive R (α : Type) where
  | ok (a : α) (m : MH) | exc (c : Nat) (v : MV) (m : MH) | cho (n : Nat) (k : Nat → R α) | bad
namespace R
def bind {α β : Type} (x : R α) (f : α → MH → R β) : R β := R.rec (motive := fun _ => R β) (fun a m => f a m) (fun c v m => .exc c v m) (fun n _ ih => .cho n ih) .bad x
/-- every outcome is as wanted -/
def All {α : Type} (P : α → MH → Prop) (E : Nat → MV → MH → Prop) : R α → Prop
  | ok a m => P a m
  | exc c v m => E c v m
  | cho n k => ∀ i, i < n → (k i).All P E
  | bad => False
/-- the same, by a look at all choices -/
def all {α : Type} (p : α → MH → Bool) : R α → Bool
  | ok a m => p a m
  | exc _ _ _ => false
  | cho n k => (List.range n).all fun i => (k i).all p
  | bad => false
theorem All.mono {α : Type} {P P' : α → MH → Prop} {E E' : Nat → MV → MH → Prop} (hp : ∀ a m, P a m → P' a m) (he : ∀ c v m, E c v m → E' c v m) : ∀ {r : R α}, r.All P E → r.All P' E'
  | ok a m, h => hp a m h
  | exc c v m, h => he c v m h
  | cho n k, h => fun i hi => All.mono hp he (h i hi)
  | bad, h => h
theorem All.bind {α β : Type} {P : β → MH → Prop} {E : Nat → MV → MH → Prop} {f : α → MH → R β} : ∀ {r : R α}, (r.bind f).All P E ↔ r.All (fun a m => (f a m).All P E) E
  | ok a m => Iff.rfl
  | exc c v m => Iff.rfl
  | cho n k => ⟨fun h i hi => All.bind.mp (h i hi), fun h i hi => All.bind.mpr (h i hi)⟩
  | bad => Iff.rfl
theorem all_All {α : Type} {p : α → MH → Bool} {E : Nat → MV → MH → Prop} : ∀ {r : R α}, r.all p = true → r.All (fun a m => p a m = true) E
  | ok a m, h => h
  | exc c v m, h => by cases h
  | cho n k, h => fun i hi => all_All (List.all_eq_true.mp h i (List.mem_range.mpr hi))
  | bad, h => by cases h
end R
/-! ### the heap -/
namespace MH
def get (m : MH) (i : Nat) : Option MO := if i < m.n then m.os[m.n - 1 - i]? else none
def push (m : MH) (o : MO) : MH := ⟨m.n + 1, m.lo, o :: m.os, m.sc⟩
end MH
mutual
/-- names no object from n on -/
def MV.under (n : Nat) : MV → Bool
  | .ref i => Nat.blt i n
  | .tup xs => MV.unders n xs
  | _ => true
def MV.unders (n : Nat) : List MV → Bool
  | [] => true
  | x :: r => MV.under n x && MV.unders n r
end
def underO (n : Nat) : Option MV → Bool
  | some v => v.under n
  | none => true
def MO.under (n : Nat) : MO → Bool
  | .lst xs => MV.unders n xs
  | .dct _ kvs => kvs.all fun p => p.1.under n && p.2.under n
  | .ins _ fs => fs.all (underO n)
  | .pot _ => true
  | .gone => true
/-- the object i becomes o, into which v was stored -/
def MH.wr (m : MH) (i : Nat) (o : MO) (v : MV) : MH := ⟨m.n, List.rec (motive := fun _ => List Nat) [] (fun l _ ih => (match Nat.blt i l && !(v.under l) with
  | true => 0
  | false => l) :: ih) m.lo, m.os.set (m.n - 1 - i) o, m.sc⟩
/-! ### what may be done with values -/
def big : Nat := 16777216
def wide : Nat := 2 ^ 1024
def newL (xs : List MV) (m : MH) : R MV := .ok (.ref m.n) (m.push (.lst xs))
def cps (s : String) : List Nat := (Str.ofString s).cps.toList
def lstAt (m : MH) : MV → Option (List MV)
  | .ref i => match m.get i with
    | some (.lst xs) => some xs
    | _ => none
  | _ => none
def small (i : Int) : Bool := Nat.blt i.natAbs 18446744073709551616
def ixOf (n : Nat) (i : Int) : Option Nat := if 0 ≤ i then (if i < n then some i.toNat else none) else if -(n : Int) ≤ i then some (i + n).toNat else none
def bits (f : Nat → Nat → Nat) (i j : Int) (m : MH) : R MV := match i, j with
  | .ofNat a, .ofNat b => .ok (.int (.ofNat (f a b))) m
  | _, _ => .bad
def binV (op : Operator) (x y : MV) (m : MH) : R MV := match op, x, y with
  | .Add, .int i, .int j => .ok (.int (i + j)) m
  | .Add, .str a, .str b => if Nat.ble (a.length + b.length) big then .ok (.str (a ++ b)) m else .bad
  | .Add, .tup a, .tup b => if Nat.ble (a.length + b.length) big then .ok (.tup (a ++ b)) m else .bad
  | .Add, .ref i, .ref j => match lstAt m (.ref i), lstAt m (.ref j) with
    | some a, some b => if Nat.ble (a.length + b.length) big then newL (a ++ b) m else .bad
    | _, _ => .bad
  | .Sub, .int i, .int j => .ok (.int (i - j)) m
  | .Mult, .int i, .int j => if small i || small j then .ok (.int (i * j)) m else .bad
  | .Mult, .str a, .int k => if small k && Nat.ble (a.length * k.toNat) big && Nat.ble k.toNat big && decide (-1000000 ≤ k) then .ok (.str (List.replicate k.toNat a).flatten) m else .bad
  | .Mult, .ref i, .int k => match lstAt m (.ref i) with
    | some a => if small k && Nat.ble (a.length * k.toNat) big && Nat.ble k.toNat big && decide (-1000000 ≤ k) then newL (List.replicate k.toNat a).flatten m else .bad
    | none => .bad
  | .Mult, .tup _, .int _ => .bad
  | .Mod, .int i, .int j => if 0 < j then .ok (.int (i % j)) m else .bad
  | .FloorDiv, .int i, .int j => if 0 < j ∧ j < 1073741824 then .ok (.int (i / j)) m else .bad
  | .Pow, .int i, .int j => if 0 ≤ j ∧ j ≤ 10000 ∧ Nat.blt i.natAbs wide then .ok (.int (i ^ j.toNat)) m else .bad
  | .LShift, .int i, .int j => if 0 ≤ j ∧ j ≤ 1000000 ∧ small i then .ok (.int (i * 2 ^ j.toNat)) m else .bad
  | .RShift, .int i, .int j => if 0 ≤ j then .ok (.int (i / 2 ^ j.toNat)) m else .bad
  | .BitAnd, .int i, .int j => bits (· &&& ·) i j m
  | .BitOr, .int i, .int j => bits (· ||| ·) i j m
  | .BitXor, .int i, .int j => bits (· ^^^ ·) i j m
  | _, _, _ => .bad
/-! ### equal, less -/
def optAll {β : Type} (f : MV → Option β) : List MV → Option (List β)
  | [] => some []
  | x :: r => match f x with
    | some d => match optAll f r with
      | some ds => some (d :: ds)
      | none => none
    | none => none
/-- a value as data, its lists read off the heap -/
def dat (m : MH) : Nat → MV → Option PyData
  | _, .non => some .none
  | _, .bl b => some (.bool b)
  | _, .int i => some (.int i)
  | _, .str s => some (.str ⟨s.toArray⟩)
  | n + 1, .ref i => match m.get i with
    | some (.lst xs) => match optAll (dat m n) xs with
      | some ds => some (.list ds)
      | none => none
    | _ => none
  | n + 1, .tup xs => match optAll (dat m n) xs with
    | some ds => some (.tuple ds)
    | none => none
  | _, _ => none
end
end Dv
/-! Dv2: the evaluator's heap beside the machine's abstract one; what an expression's outcome tells of its reading. -/
namespace Dv
noncomputable section
open PySem L2
/-- where the written part stands: its objects, the global functions and classes by number -/
structure Gl where
  K : PySem.W.Frag
  ga : Nat → Addr
  ca : Nat → Addr
  sa : Addr
  sn : List Int
/-- the script stands at its address, written by nobody -/
def ScrOk (G : Gl) (H : Hp) : Prop := (∃ o, H G.sa = some (.frz o (.lst (G.sn.map V.int)))) ∨ ∃ (o : Obj) (its : Array Value) (n : Nat), G.K.lookup G.sa = some o ∧ o.cls = .type "list" ∧ o.dict = none ∧ o.data = .seq its n ∧ its.size ≤ sizeLine ∧ Vals (G.sn.map V.int) its.toList
section
variable (G : Gl)
mutual
/-- a value of ours and one of the machine's -/
def RV (r : Nat → Addr) (n : Nat) (H : Hp) : MV → V → Prop
  | .non, v => v = .non
  | .bl b, v => v = .bl b
  | .int i, v => v = .int i
  | .str s, v => v = .str ⟨s.toArray⟩
  | .ref i, v => i < n ∧ v = .ref (r i)
  | .tup xs, v => ∃ a vs, v = .ref a ∧ SqT G.K H a vs ∧ RVs r n H xs vs
  | .fn g, v => v = .ref (G.ga g)
  | .scr, v => v = .ref G.sa
def RVs (r : Nat → Addr) (n : Nat) (H : Hp) : List MV → List V → Prop
  | [], vs => vs = []
  | x :: xs, vs => ∃ v ws, vs = v :: ws ∧ RV r n H x v ∧ RVs r n H xs ws
end
/-- a value as a dict's key -/
def keyOf : MV → Option Key
  | .int i => some (.inl i)
  | .str s => some (.inr ⟨s.toArray⟩)
  | _ => none
/-- entries of ours and a dict's -/
def RKs (r : Nat → Addr) (n : Nat) (H : Hp) : List (MV × MV) → List (Key × V) → Prop
  | [], ws => ws = []
  | p :: ps, ws => ∃ k v us, ws = (k, v) :: us ∧ keyOf p.1 = some k ∧ RV G r n H p.2 v ∧ RKs r n H ps us
/-- an object of ours and what stands at its address -/
def RO (r : Nat → Addr) (n : Nat) (H : Hp) (o : MO) (a : Addr) : Prop := match o with
  | .lst xs => ∃ vs, H a = some (.lst vs) ∧ RVs G r n H xs vs
  | .dct lk kvs => ∃ ws, RKs G r n H kvs ws ∧ (ws.map (·.1)).Nodup ∧ match lk with
    | false => H a = some (.dK ws)
    | true => ∃ o, H a = some (.frz o (.dK ws))
  | .ins c fs => ∃ dx vs, SlX.Slt H a (G.ca c) dx vs ∧ (H dx = some (.own a) ∨ H dx = some (.xd [])) ∧ ∀ (i : Nat) (x : MV), fs[i]? = some (some x) → ∃ v, vs[i]? = some (some v) ∧ RV G r n H x v
  | .pot k => ∃ x y z : Int, H a = some (.lst [.int x, .int y, .int z]) ∧ 0 ≤ x ∧ 0 ≤ y ∧ y < 2305843009213693921 ∧ 0 ≤ z ∧ z ≤ (k : Int)
  | .gone => ∃ l, H a = some (.lst l)
/-- our heap stands in the machine's -/
structure Wd (r : Nat → Addr) (m : MH) (H : Hp) : Prop where
  len : m.os.length = m.n
  inj : ∀ i j, i < m.n → j < m.n → r i = r j → i = j
  obj : ∀ i o, m.get i = some o → RO G r m.n H o (r i)
  lev : ∀ l, l ∈ m.lo → l ≤ m.n ∧ ∀ i o, i < l → m.get i = some o → o.under l = true
  scr : ScrOk G H
  scE : m.sc = G.sn
end
/-- from one world to a later one -/
structure Up (r : Nat → Addr) (n : Nat) (H : Hp) (r' : Nat → Addr) (n' : Nat) (H' : Hp) : Prop where
  le : n ≤ n'
  agr : ∀ i, i < n → r' i = r i
  tup : ∀ a vs, H a = some (.tup vs) → H' a = some (.tup vs)
  frz : ∀ a o u, H a = some (.frz o u) → H' a = some (.frz o u)
  xd : ∀ a fs, H a = some (.xd fs) → H' a = some (.xd fs)
  own : ∀ a x, H a = some (.own x) → H' a = some (.own x) ∨ H' a = some (.xd [])
  frm : ∀ a u, (∀ i, i < n → r i ≠ a) → H a = some u → Mut (some u) → H' a = some u
  trk : ∀ a, H' a = none → H a = none
  new : ∀ i, n ≤ i → i < n' → (∀ j, j < n → r' i ≠ r j) ∧ H (r' i) = none
/-- .. what values need of it -/
structure Tp (r : Nat → Addr) (n : Nat) (H : Hp) (r' : Nat → Addr) (n' : Nat) (H' : Hp) : Prop where
  le : n ≤ n'
  agr : ∀ i, i < n → r' i = r i
  tup : ∀ a vs, H a = some (.tup vs) → H' a = some (.tup vs)
  frz : ∀ a o u, H a = some (.frz o u) → H' a = some (.frz o u)
  xd : ∀ a fs, H a = some (.xd fs) → H' a = some (.xd fs)
  own : ∀ a x, H a = some (.own x) → H' a = some (.own x) ∨ H' a = some (.xd [])
theorem Up.refl (r : Nat → Addr) (n : Nat) (H : Hp) : Up r n H r n H :=
  ⟨Nat.le_refl n, fun _ _ => rfl, fun _ _ h => h, fun _ _ _ h => h, fun _ _ h => h, fun _ _ h => .inl h, fun _ _ _ h _ => h, fun _ h => h, fun _ h1 h2 => absurd h2 (Nat.not_lt.mpr h1)⟩
theorem Up.trans {r r1 r2 : Nat → Addr} {n n1 n2 : Nat} {H H1 H2 : Hp} (a : Up r n H r1 n1 H1) (b : Up r1 n1 H1 r2 n2 H2) : Up r n H r2 n2 H2 where
  le := Nat.le_trans a.le b.le
  agr := fun i hi => (b.agr i (Nat.lt_of_lt_of_le hi a.le)).trans (a.agr i hi)
  tup := fun c vs h => b.tup c vs (a.tup c vs h)
  frz := fun c o u h => b.frz c o u (a.frz c o u h)
  xd := fun c fs h => b.xd c fs (a.xd c fs h)
  own := fun c x h => by
    rcases a.own c x h with h | h
    · exact b.own c x h
    · exact .inr (b.xd c _ h)
  trk := fun c h => a.trk c (b.trk c h)
  frm := fun c u hr h hm => by
    refine b.frm c u (fun i hi e => ?_) (a.frm c u hr h hm) hm
    by_cases hin : i < n
    · exact hr i hin ((a.agr i hin).symm.trans e)
    · have z := (a.new i (Nat.not_lt.mp hin) hi).2
      rw [e, h] at z
      cases z
  new := fun i h1 h2 => by
    by_cases hi : i < n1
    · obtain ⟨p, q⟩ := a.new i h1 hi
      rw [b.agr i hi]
      exact ⟨p, q⟩
    · obtain ⟨p, q⟩ := b.new i (Nat.not_lt.mp hi) h2
      have p' : ∀ j, j < n → r2 i ≠ r j := fun j hj e => p j (Nat.lt_of_lt_of_le hj a.le) (e.trans (a.agr j hj).symm)
      exact ⟨p', a.trk _ q⟩
section
variable {G : Gl} {r r' : Nat → Addr} {n n' : Nat} {H H' : Hp}
theorem Up.tp (u : Up r n H r' n' H') : Tp r n H r' n' H' := ⟨u.le, u.agr, u.tup, u.frz, u.xd, u.own⟩
theorem Tp.sqT (u : Tp r n H r' n' H') {a : Addr} {vs : List V} (h : SqT G.K H a vs) : SqT G.K H' a vs := by
  rcases h with (h | ⟨o, h⟩) | h
  · exact .inl (.inl (u.tup a vs h))
  · exact .inl (.inr ⟨o, u.frz a o _ h⟩)
  · exact .inr h
theorem Tp.scr (u : Tp r n H r' n' H') (h : ScrOk G H) : ScrOk G H' := h.imp (fun ⟨o, e⟩ => ⟨o, u.frz _ _ _ e⟩) id
theorem ScrOk.sqL (h : ScrOk G H) : SqL G.K H G.sa (G.sn.map V.int) := by
  rcases h with ⟨o, e⟩ | h
  · exact .inl (.inr ⟨o, e⟩)
  · exact .inr h
theorem Up.sqT (u : Up r n H r' n' H') {a : Addr} {vs : List V} (h : SqT G.K H a vs) : SqT G.K H' a vs := u.tp.sqT h
mutual
theorem RV.tp (u : Tp r n H r' n' H') : ∀ (x : MV) (v : V), RV G r n H x v → RV G r' n' H' x v
  | .non, v, h => by rw [RV] at h ⊢; exact h
  | .bl b, v, h => by rw [RV] at h ⊢; exact h
  | .int i, v, h => by rw [RV] at h ⊢; exact h
  | .str s, v, h => by rw [RV] at h ⊢; exact h
  | .ref i, v, h => by
    rw [RV] at h ⊢
    exact ⟨Nat.lt_of_lt_of_le h.1 u.le, by rw [u.agr i h.1]; exact h.2⟩
  | .tup xs, v, h => by
    rw [RV] at h ⊢
    obtain ⟨a, vs, e, s, q⟩ := h
    exact ⟨a, vs, e, u.sqT s, RVs.tp u xs vs q⟩
  | .fn g, v, h => by rw [RV] at h ⊢; exact h
  | .scr, v, h => by rw [RV] at h ⊢; exact h
theorem RVs.tp (u : Tp r n H r' n' H') : ∀ (xs : List MV) (vs : List V), RVs G r n H xs vs → RVs G r' n' H' xs vs
  | [], vs, h => by rw [RVs] at h ⊢; exact h
  | x :: xs, vs, h => by
    rw [RVs] at h ⊢
    obtain ⟨v, ws, e, p, q⟩ := h
    exact ⟨v, ws, e, RV.tp u x v p, RVs.tp u xs ws q⟩
end
theorem RV.up (u : Up r n H r' n' H') (x : MV) (v : V) (h : RV G r n H x v) : RV G r' n' H' x v := RV.tp u.tp x v h
theorem RVs.up (u : Up r n H r' n' H') (xs : List MV) (vs : List V) (h : RVs G r n H xs vs) : RVs G r' n' H' xs vs := RVs.tp u.tp xs vs h
theorem RKs.tp (u : Tp r n H r' n' H') : ∀ (ps : List (MV × MV)) (ws : List (Key × V)), RKs G r n H ps ws → RKs G r' n' H' ps ws
  | [], ws, h => h
  | p :: ps, ws, h => by
    obtain ⟨k, v, us, e, hk, hv, q⟩ := h
    exact ⟨k, v, us, e, hk, RV.tp u _ _ hv, RKs.tp u ps us q⟩
theorem RVs.length : ∀ {xs : List MV} {vs : List V}, RVs G r n H xs vs → xs.length = vs.length
  | [], vs, h => by
    rw [RVs] at h
    rw [h]
    rfl
  | x :: xs, vs, h => by
    rw [RVs] at h
    obtain ⟨v, ws, e, p, q⟩ := h
    rw [e, List.length_cons, List.length_cons, RVs.length q]
theorem RVs.nil : RVs G r n H [] [] := by rw [RVs]
theorem RVs.cons {x : MV} {v : V} {xs : List MV} {vs : List V} (h : RV G r n H x v) (q : RVs G r n H xs vs) : RVs G r n H (x :: xs) (v :: vs) := by
  rw [RVs]
  exact ⟨v, vs, rfl, h, q⟩
theorem RVs.append : ∀ {xs ys : List MV} {vs ws : List V}, RVs G r n H xs vs → RVs G r n H ys ws → RVs G r n H (xs ++ ys) (vs ++ ws)
  | [], ys, vs, ws, h, q => by rw [RVs] at h; rw [h]; exact q
  | x :: xs, ys, vs, ws, h, q => by
    rw [RVs] at h
    obtain ⟨v, us, e, p, h⟩ := h
    rw [e]
    exact RVs.cons p (RVs.append h q)
theorem RVs.get : ∀ {xs : List MV} {vs : List V} {i : Nat} {x : MV}, RVs G r n H xs vs → xs[i]? = some x → ∃ v, vs[i]? = some v ∧ RV G r n H x v
  | [], _, _, _, _, e => by simp at e
  | y :: xs, vs, 0, x, h, e => by
    rw [RVs] at h
    obtain ⟨v, us, e2, p, h⟩ := h
    simp at e
    rw [e2, ← e]
    exact ⟨v, rfl, p⟩
  | y :: xs, vs, i + 1, x, h, e => by
    rw [RVs] at h
    obtain ⟨v, us, e2, p, h⟩ := h
    rw [e2]
    exact RVs.get (i := i) h (by simpa using e)
theorem RVs.get' {xs : List MV} {vs : List V} {i : Nat} {v : V} (h : RVs G r n H xs vs) (e : vs[i]? = some v) : ∃ x, xs[i]? = some x ∧ RV G r n H x v := by
  have hl := h.length
  have hi := (List.getElem?_eq_some_iff.mp e).1
  have e2 : xs[i]? = some xs[i] := List.getElem?_eq_getElem (by omega)
  obtain ⟨v', e3, p⟩ := h.get e2
  rw [e] at e3
  cases e3
  exact ⟨_, e2, p⟩
end
/-! ### slots -/
abbrev St := List (Option MV)
/-- our slots and the machine's: what we know is there -/
def RS (G : Gl) (r : Nat → Addr) (n : Nat) (H : Hp) (s : St) (σ : L2.St) : Prop :=
  s.length = σ.length ∧ ∀ (i : Nat) (x : MV), s[i]? = some (some x) → ∃ v, σ[i]? = some (some v) ∧ RV G r n H x v
section
variable {G : Gl} {r r' : Nat → Addr} {n n' : Nat} {H H' : Hp} {s : St} {σ : L2.St}
theorem RS.tp (u : Tp r n H r' n' H') (h : RS G r n H s σ) : RS G r' n' H' s σ :=
  ⟨h.1, fun i x e => let ⟨v, e2, p⟩ := h.2 i x e; ⟨v, e2, RV.tp u x v p⟩⟩
theorem RS.up (u : Up r n H r' n' H') (h : RS G r n H s σ) : RS G r' n' H' s σ := h.tp u.tp
theorem RS.set (h : RS G r n H s σ) {i : Nat} {x : MV} {v : V} (p : RV G r n H x v) : RS G r n H (s.set i (some x)) (σ.set i (some v)) := by
  refine ⟨by rw [List.length_set, List.length_set, h.1], fun j y e => ?_⟩
  by_cases hj : j = i
  · subst hj
    have hlt : j < s.length := by
      have := (List.getElem?_eq_some_iff.mp e).1
      rwa [List.length_set] at this
    rw [List.getElem?_set_self hlt] at e
    have hlt2 : j < σ.length := h.1 ▸ hlt
    rw [List.getElem?_set_self hlt2]
    cases e
    exact ⟨v, rfl, p⟩
  · rw [List.getElem?_set_ne (Ne.symm hj)] at e ⊢
    exact h.2 j y e
theorem RS.wipe (h : RS G r n H s σ) (i : Nat) : RS G r n H (s.set i none) (σ.set i none) := by
  refine ⟨by rw [List.length_set, List.length_set, h.1], fun j y e => ?_⟩
  by_cases hj : j = i
  · subst hj
    have hlt : j < s.length := by
      have := (List.getElem?_eq_some_iff.mp e).1
      rwa [List.length_set] at this
    rw [List.getElem?_set_self hlt] at e
    cases e
  · rw [List.getElem?_set_ne (Ne.symm hj)] at e ⊢
    exact h.2 j y e
end
/-! ### readings by outcomes -/
abbrev X := St → MH → R MV
abbrev XB := St → MH → R Bool
abbrev XS := St → MH → R (List MV)
/-- what is wished of an exception: its class, its value, the world -/
abbrev Wi := Nat → MV → (Nat → Addr) → MH → Hp → Prop
def noW : Wi := fun _ _ _ _ _ => False
section
variable (G : Gl) (W : Wi)
def exW (r : Nat → Addr) (m : MH) (H : Hp) : Nat → MV → MH → Prop := fun c v m' => ∀ r' H', Up r m.n H r' m'.n H' → Wd G r' m' H' → W c v r' m' H'
/-- behind an outcome: a value -/
def okW {α : Type} (P : (Nat → Addr) → MH → Hp → α → Prop) (r : Nat → Addr) (m : MH) (H : Hp) : α → MH → Prop := fun a m' => ∀ r' H', Up r m.n H r' m'.n H' → Wd G r' m' H' → P r' m' H' a
def Go {α : Type} (P : (Nat → Addr) → MH → Hp → α → Prop) (r : Nat → Addr) (m : MH) (H : Hp) (x : R α) : Prop := x.All (okW G P r m H) (exW G W r m H)
/-- where an expression starts -/
def At (f : (Nat → Addr) → MH → St → Prop) (σ : L2.St) (H : Hp) : Prop := ∃ r m s, Wd G r m H ∧ RS G r m.n H s σ ∧ f r m s
def tE (f : X) : TE := fun σ H Q => At G (fun r m s => Go G W (fun r' m' H' x => ∀ v, RV G r' m'.n H' x v → Q v H') r m H (f s m)) σ H
def tT (f : XB) : TT := fun σ H Q => At G (fun r m s => Go G W (fun _ _ H' b => Q b H') r m H (f s m)) σ H
def tA (f : XS) : TA := fun σ H Q => At G (fun r m s => Go G W (fun r' m' H' xs => ∀ vs, RVs G r' m'.n H' xs vs → Q vs H') r m H (f s m)) σ H
end
section
variable {G : Gl} {W : Wi} {r r' : Nat → Addr} {m m' : MH} {H H' : Hp}
theorem exW.up (u : Up r m.n H r' m'.n H') {c : Nat} {v : MV} {m2 : MH} (h : exW G W r m H c v m2) : exW G W r' m' H' c v m2 := fun r2 H2 u2 w2 => h r2 H2 (u.trans u2) w2
theorem okW.up {α : Type} {P : (Nat → Addr) → MH → Hp → α → Prop} (u : Up r m.n H r' m'.n H') {a : α} {m2 : MH} (h : okW G P r m H a m2) : okW G P r' m' H' a m2 := fun r2 H2 u2 w2 => h r2 H2 (u.trans u2) w2
theorem Go.up {α : Type} {P : (Nat → Addr) → MH → Hp → α → Prop} {x : R α} (u : Up r m.n H r' m'.n H') (h : Go G W P r m H x) : Go G W P r' m' H' x := R.All.mono (fun _ _ h => okW.up u h) (fun _ _ _ h => exW.up u h) h
theorem Go.mono {α : Type} {P P' : (Nat → Addr) → MH → Hp → α → Prop} {x : R α} (h : Go G W P r m H x) (hp : ∀ r' m' H' a, Up r m.n H r' m'.n H' → Wd G r' m' H' → P r' m' H' a → P' r' m' H' a) : Go G W P' r m H x :=
  R.All.mono (fun a m2 h r2 H2 u2 w2 => hp r2 m2 H2 a u2 w2 (h r2 H2 u2 w2)) (fun _ _ _ h => h) h
/-- one outcome behind the other -/
theorem Go.bind {α β : Type} {P : (Nat → Addr) → MH → Hp → β → Prop} {x : R α} {f : α → MH → R β} (h : Go G W P r m H (x.bind f)) : Go G W (fun r' m' H' a => Go G W P r' m' H' (f a m')) r m H x := by
  have h := R.All.bind.mp h
  exact R.All.mono (fun a m2 h r2 H2 u2 w2 => Go.up u2 h) (fun _ _ _ h => h) h
theorem Go.ok {α : Type} {P : (Nat → Addr) → MH → Hp → α → Prop} {a : α} (w : Wd G r m H) (h : Go G W P r m H (.ok a m)) : P r m H a := h r H (Up.refl _ _ _) w
end
end
end Dv
/-! Dv3: steps of the heap; expressions. -/
namespace Dv
noncomputable section
open PySem L2
/-! ### the heap's looks -/
theorem get_lt {m : MH} {i : Nat} {o : MO} (h : m.get i = some o) : i < m.n := by
  unfold MH.get at h
  by_cases q : i < m.n
  · exact q
  · rw [if_neg q] at h
    cases h
theorem get_ex {m : MH} (hl : m.os.length = m.n) {i : Nat} (h : i < m.n) : ∃ o, m.get i = some o := by
  unfold MH.get
  rw [if_pos h]
  exact ⟨_, List.getElem?_eq_getElem (by omega)⟩
theorem get_push (m : MH) (hl : m.os.length = m.n) (o : MO) (i : Nat) : (m.push o).get i = if i = m.n then some o else m.get i := by
  unfold MH.push MH.get
  by_cases h : i = m.n
  · subst h
    rw [if_pos (Nat.lt_succ_self _), if_pos rfl]
    show (o :: m.os)[m.n + 1 - 1 - m.n]? = some o
    rw [show m.n + 1 - 1 - m.n = 0 by omega]
    rfl
  · rw [if_neg h]
    by_cases h2 : i < m.n
    · rw [if_pos h2, if_pos (show i < m.n + 1 by omega)]
      show (o :: m.os)[m.n + 1 - 1 - i]? = _
      rw [show m.n + 1 - 1 - i = (m.n - 1 - i) + 1 by omega]
      rfl
    · rw [if_neg h2, if_neg (show ¬ i < m.n + 1 by omega)]
theorem get_wr (m : MH) (hl : m.os.length = m.n) {i : Nat} (hi : i < m.n) (o : MO) (v : MV) (j : Nat) : (m.wr i o v).get j = if j = i then some o else m.get j := by
  unfold MH.wr MH.get
  by_cases h : j = i
  · subst h
    rw [if_pos hi, if_pos rfl]
    show (m.os.set (m.n - 1 - j) o)[m.n - 1 - j]? = some o
    rw [List.getElem?_set_self (by omega)]
  · rw [if_neg h]
    by_cases h2 : j < m.n
    · rw [if_pos h2, if_pos h2]
      show (m.os.set (m.n - 1 - i) o)[m.n - 1 - j]? = m.os[m.n - 1 - j]?
      rw [List.getElem?_set_ne (by omega)]
    · rw [if_neg h2, if_neg h2]
theorem wr_lo (m : MH) (i : Nat) (o : MO) (v : MV) : (m.wr i o v).lo = m.lo.map fun l => match Nat.blt i l && !(v.under l) with
  | true => 0
  | false => l := by
  show List.rec (motive := fun _ => List Nat) _ _ m.lo = _
  induction m.lo with
  | nil => rfl
  | cons l ls ih =>
    rw [List.map_cons, ← ih] <;> rfl
theorem lev_wr {m : MH} (hl : m.os.length = m.n) (lev : ∀ l, l ∈ m.lo → l ≤ m.n ∧ ∀ i o, i < l → m.get i = some o → o.under l = true) {i : Nat} (hi : i < m.n) {o o0 : MO} {v : MV} (h0 : m.get i = some o0) (hu : ∀ l, o0.under l = true → v.under l = true → o.under l = true) :
    ∀ l, l ∈ (m.wr i o v).lo → l ≤ (m.wr i o v).n ∧ ∀ j p, j < l → (m.wr i o v).get j = some p → p.under l = true := fun l hm => by
  rw [wr_lo] at hm
  obtain ⟨k, hk, rfl⟩ := List.mem_map.mp hm
  obtain ⟨k1, k2⟩ := lev k hk
  cases e : (Nat.blt i k && !(v.under k)) with
  | true => exact ⟨Nat.zero_le _, fun j p hj => absurd hj (Nat.not_lt_zero _)⟩
  | false =>
    refine ⟨k1, fun j p hj hp => ?_⟩
    have hj : j < k := hj
    rw [get_wr m hl hi] at hp
    by_cases h : j = i
    · subst h
      rw [if_pos rfl] at hp
      cases hp
      have hb : Nat.blt j k = true := Nat.ble_eq.mpr hj
      rw [hb, Bool.true_and, Bool.not_eq_false'] at e
      exact hu k (k2 j o0 hj h0) e
    · rw [if_neg h] at hp
      exact k2 j p hj hp
theorem lev_push {m : MH} (hl : m.os.length = m.n) (lev : ∀ l, l ∈ m.lo → l ≤ m.n ∧ ∀ i o, i < l → m.get i = some o → o.under l = true) (o : MO) : ∀ l, l ∈ (m.push o).lo → l ≤ (m.push o).n ∧ ∀ i p, i < l → (m.push o).get i = some p → p.under l = true := fun l hm => by
  obtain ⟨h1, h2⟩ := lev l hm
  refine ⟨Nat.le_succ_of_le h1, fun i p hi hp => h2 i p hi ?_⟩
  rw [get_push m hl, if_neg (by omega)] at hp
  exact hp
theorem wr_n (m : MH) (i : Nat) (o : MO) (v : MV) : (m.wr i o v).n = m.n := rfl
section
variable {G : Gl} {W : Wi} {r r' : Nat → Addr} {m m' : MH} {H H' : Hp}
theorem RO.there {n : Nat} {o : MO} {a : Addr} (q : RO G r n H o a) : ∃ u, H a = some u := by
  cases o with
  | lst xs =>
    obtain ⟨vs, e, _⟩ := q
    exact ⟨_, e⟩
  | pot k =>
    obtain ⟨x, y, z, e, _⟩ := q
    exact ⟨_, e⟩
  | dct lk kvs =>
    obtain ⟨ws, _, _, q⟩ := q
    cases lk with
    | false => exact ⟨_, q⟩
    | true =>
      obtain ⟨o, q⟩ := q
      exact ⟨_, q⟩
  | ins c fs =>
    obtain ⟨dx, vs, h, _, _⟩ := q
    rcases h with ⟨h, _⟩ | ⟨h, _⟩ <;> exact ⟨_, h⟩
  | gone =>
    obtain ⟨l, e⟩ := q
    exact ⟨_, e⟩
theorem Wd.there (w : Wd G r m H) {i : Nat} (h : i < m.n) : ∃ u, H (r i) = some u := by
  obtain ⟨o, e⟩ := get_ex w.len h
  exact (w.obj i o e).there
theorem Wd.ne (w : Wd G r m H) {i : Nat} (h : i < m.n) {p : Addr} (hp : H p = none) : r i ≠ p := fun e => by
  obtain ⟨u, q⟩ := w.there h
  rw [e, hp] at q
  cases q
theorem RO.tp {n n' : Nat} (u : Tp r n H r' n' H') {o : MO} {a : Addr} (h : RO G r n H o a) (k : ∀ x, H a = some x → Mut (some x) → H' a = some x) : RO G r' n' H' o a := by
  cases o with
  | lst xs =>
    obtain ⟨vs, e, q⟩ := h
    exact ⟨vs, k _ e trivial, RVs.tp u xs vs q⟩
  | pot c =>
    obtain ⟨x, y, z, e, q⟩ := h
    exact ⟨x, y, z, k _ e trivial, q⟩
  | dct lk kvs =>
    obtain ⟨ws, p, nd, q⟩ := h
    refine ⟨ws, RKs.tp u _ _ p, nd, ?_⟩
    cases lk with
    | false => exact k _ q trivial
    | true =>
      obtain ⟨o, q⟩ := q
      exact ⟨o, u.frz _ _ _ q⟩
  | ins c fs =>
    obtain ⟨dx, vs, h, hd, q⟩ := h
    refine ⟨dx, vs, ?_, ?_, fun i x e => ?_⟩
    · rcases h with ⟨h1, h2⟩ | ⟨h1, h2⟩
      · exact .inl ⟨k _ h1 trivial, h2⟩
      · exact .inr ⟨k _ h1 (by unfold SlX.SlO; trivial), u.xd _ _ h2⟩
    · rcases hd with hd | hd
      · exact u.own _ _ hd
      · exact .inr (u.xd _ _ hd)
    · obtain ⟨v, e, p⟩ := q i x e
      exact ⟨v, e, RV.tp u _ _ p⟩
  | gone =>
    obtain ⟨l, e⟩ := h
    exact ⟨l, k _ e trivial⟩
theorem RO.up {n n' : Nat} (u : Up r n H r' n' H') {o : MO} {a : Addr} (h : RO G r n H o a) (k : ∀ x, H a = some x → Mut (some x) → H' a = some x) : RO G r' n' H' o a := h.tp u.tp k
/-- r with p for the number n -/
def ext (r : Nat → Addr) (n : Nat) (p : Addr) : Nat → Addr := fun i => if i = n then p else r i
theorem ext_eq {n : Nat} {p : Addr} : ext r n p n = p := by
  unfold ext
  rw [if_pos rfl]
theorem ext_ne {n i : Nat} {p : Addr} (h : i ≠ n) : ext r n p i = r i := by
  unfold ext
  rw [if_neg h]
theorem upd_none {a b : Addr} {o : HO} (e : upd H b o a = none) : H a = none := by
  unfold upd at e
  by_cases h : a = b
  · rw [if_pos h] at e
    cases e
  · rw [if_neg h] at e
    exact e
/-- a new list -/
theorem up_new (w : Wd G r m H) {p : Addr} (hp : H p = none) (o : HO) : Up r m.n H (ext r m.n p) (m.n + 1) (upd H p o) where
  le := Nat.le_succ _
  agr := fun i hi => ext_ne (Nat.ne_of_lt hi)
  tup := fun a vs e => by rw [upd_ne (ne_of_none e hp)]; exact e
  frz := fun a _ u e => by rw [upd_ne (ne_of_none e hp)]; exact e
  xd := fun a fs e => by rw [upd_ne (ne_of_none e hp)]; exact e
  own := fun a x e => by rw [upd_ne (ne_of_none e hp)]; exact .inl e
  frm := fun a u _ e _ => by rw [upd_ne (ne_of_none e hp)]; exact e
  trk := fun a e => upd_none e
  new := fun i h1 h2 => by
    have e : i = m.n := by omega
    subst e
    rw [ext_eq]
    exact ⟨fun j hj z => w.ne hj hp z.symm, hp⟩
theorem wd_newL (w : Wd G r m H) {p : Addr} (hp : H p = none) {xs : List MV} {vs : List V} (h : RVs G r m.n H xs vs) : Wd G (ext r m.n p) (m.push (.lst xs)) (upd H p (.lst vs)) where
  len := by show m.os.length + 1 = m.n + 1; rw [w.len]
  inj := fun i j hi hj e => by
    have hi : i < m.n + 1 := hi
    have hj : j < m.n + 1 := hj
    by_cases h1 : i = m.n <;> by_cases h2 : j = m.n
    · rw [h1, h2]
    · subst h1
      rw [ext_eq, ext_ne h2] at e
      exact absurd e.symm (w.ne (by omega) hp)
    · subst h2
      rw [ext_eq, ext_ne h1] at e
      exact absurd e (w.ne (by omega) hp)
    · rw [ext_ne h1, ext_ne h2] at e
      exact w.inj i j (by omega) (by omega) e
  obj := fun i o e => by
    have u := up_new w hp (.lst vs)
    rw [get_push m w.len] at e
    by_cases h1 : i = m.n
    · subst h1
      rw [if_pos rfl] at e
      cases e
      rw [ext_eq]
      exact ⟨vs, upd_same, RVs.up u xs vs h⟩
    · rw [if_neg h1] at e
      rw [ext_ne h1]
      refine (w.obj i o e).up u fun ys q _ => ?_
      rw [upd_ne (w.ne (get_lt e) hp)]
      exact q
  lev := lev_push w.len w.lev _
  scr := (up_new w hp (.lst vs)).tp.scr w.scr
  scE := w.scE
theorem go_newL {P : (Nat → Addr) → MH → Hp → MV → Prop} (w : Wd G r m H) {p : Addr} (hp : H p = none) {xs : List MV} {vs : List V} (h : RVs G r m.n H xs vs) (g : Go G W P r m H (newL xs m)) :
    P (ext r m.n p) (m.push (.lst xs)) (upd H p (.lst vs)) (.ref m.n) :=
  g (ext r m.n p) (upd H p (.lst vs)) (up_new w hp _) (wd_newL w hp h)
/-- a list is stored into -/
theorem mut_tup {x : HO} (h : Mut (some x)) (vs : List V) : x ≠ .tup vs := fun z => by rw [z] at h; exact h
theorem mut_frz {x : HO} (h : Mut (some x)) (o : Obj) (u : HO) : x ≠ .frz o u := fun z => by rw [z] at h; exact h
theorem mut_own {x : HO} (h : Mut (some x)) (y : Addr) : x ≠ .own y := fun z => by rw [z] at h; exact h
theorem mut_xd {x : HO} (h : Mut (some x)) (fs : List (Str × V)) : x ≠ .xd fs := fun z => by rw [z] at h; exact h
/-- an object of ours is changed -/
theorem up_mut {n : Nat} {a : Addr} {x y : HO} (ha : H a = some x) (hm : Mut (some x)) {i : Nat} (hi : i < n) (e : r i = a) : Up r n H r n (upd H a y) where
  le := Nat.le_refl _
  agr := fun _ _ => rfl
  tup := fun b vs q => by rw [upd_ne (ne_of q ha (mut_tup hm _).symm)]; exact q
  frz := fun b _ u q => by rw [upd_ne (ne_of q ha (mut_frz hm _ _).symm)]; exact q
  xd := fun b fs q => by rw [upd_ne (ne_of q ha (mut_xd hm _).symm)]; exact q
  own := fun b y q => by rw [upd_ne (ne_of q ha (mut_own hm _).symm)]; exact .inl q
  frm := fun b zs hb q _ => by
    rw [upd_ne fun z => hb i hi (e.trans z.symm)]
    exact q
  trk := fun b q => upd_none q
  new := fun i h1 h2 => absurd h2 (Nat.not_lt.mpr h1)
theorem up_wr {n : Nat} {a : Addr} {ys : List V} {xs : List V} (ha : H a = some (.lst xs)) {i : Nat} (hi : i < n) (e : r i = a) : Up r n H r n (upd H a (.lst ys)) := up_mut ha trivial hi e
theorem wd_wr (w : Wd G r m H) {i : Nat} {xs : List V} (hi : i < m.n) (ha : H (r i) = some (.lst xs)) {ys : List MV} {vs : List V} (h : RVs G r m.n H ys vs) {x : MV} {o0 : MO} (h0 : m.get i = some o0) (hu : ∀ l, o0.under l = true → x.under l = true → (MO.lst ys).under l = true) : Wd G r (m.wr i (.lst ys) x) (upd H (r i) (.lst vs)) where
  len := by show (m.os.set (m.n - 1 - i) _).length = m.n; rw [List.length_set, w.len]
  inj := w.inj
  obj := fun j o e => by
    have u : Up r m.n H r m.n (upd H (r i) (.lst vs)) := up_wr ha hi rfl
    rw [get_wr m w.len hi] at e
    by_cases h1 : j = i
    · subst h1
      rw [if_pos rfl] at e
      cases e
      exact ⟨vs, upd_same, RVs.up u ys vs h⟩
    · rw [if_neg h1] at e
      refine (w.obj j o e).up u fun zs q _ => ?_
      rw [upd_ne fun z => h1 (w.inj j i (get_lt e) hi z)]
      exact q
  lev := lev_wr w.len w.lev hi h0 hu
  scr := (up_wr ha hi rfl : Up r m.n H r m.n (upd H (r i) (.lst vs))).tp.scr w.scr
  scE := w.scE
theorem unders_append (n : Nat) : ∀ xs ys : List MV, MV.unders n (xs ++ ys) = (MV.unders n xs && MV.unders n ys)
  | [], ys => by rw [List.nil_append, MV.unders, Bool.true_and]
  | x :: xs, ys => by rw [List.cons_append, MV.unders, MV.unders, unders_append n xs ys, Bool.and_assoc]
theorem Wd.lst (w : Wd G r m H) {i : Nat} {xs : List MV} (h : m.get i = some (.lst xs)) : ∃ vs, H (r i) = some (.lst vs) ∧ RVs G r m.n H xs vs := w.obj i _ h
theorem Wd.sqL (w : Wd G r m H) {i : Nat} {xs : List MV} (h : m.get i = some (.lst xs)) : ∃ vs, SqL G.K H (r i) vs ∧ RVs G r m.n H xs vs :=
  let ⟨vs, e, q⟩ := w.obj i _ h
  ⟨vs, .inl (.inl e), q⟩
end
/-! ### readings weakened -/
theorem pe_of {X : Cx} {e : Expr} {t t' : TE} (h : PE X e t) (i : ∀ σ H Q, t' σ H Q → t σ H Q) : PE X e t' := ⟨fun pins s σ H Q I q => h.run pins s σ H Q I (i σ H Q q)⟩
theorem pt_of {X : Cx} {e : Expr} {t t' : TT} (h : PT X e t) (i : ∀ σ H Q, t' σ H Q → t σ H Q) : PT X e t' := ⟨fun pins s σ H Q I q => h.run pins s σ H Q I (i σ H Q q)⟩
theorem pa_of {X : Cx} {es : List Expr} {t t' : TA} (h : PA X es t) (i : ∀ σ H Q, t' σ H Q → t σ H Q) : PA X es t' := ⟨fun pos pins s σ H Q I q => h.run pos pins s σ H Q I (i σ H Q q)⟩
/-- the wish of a value -/
abbrev vQ (G : Gl) (Q : VK) : (Nat → Addr) → MH → Hp → MV → Prop := fun r' m' H' x => ∀ v, RV G r' m'.n H' x v → Q v H'
section
variable {X0 : Cx} {G : Gl} {W : Wi}
/-- an expression does what f says -/
abbrev OkE (G : Gl) (W : Wi) (X0 : Cx) (e : Expr) (f : X) : Prop := PE X0 e (tE G W f)
abbrev OkT (G : Gl) (W : Wi) (X0 : Cx) (e : Expr) (f : XB) : Prop := PT X0 e (tT G W f)
abbrev OkA (G : Gl) (W : Wi) (X0 : Cx) (es : List Expr) (f : XS) : Prop := PA X0 es (tA G W f)
/-- the first of two outcomes -/
theorem tE_bind {f : X} {k : MV → X} {σ : L2.St} {H : Hp} {Q : VK} (h : tE G W (fun s m => (f s m).bind fun x m1 => k x s m1) σ H Q) :
    tE G W f σ H fun v H1 => ∃ r m s x, Wd G r m H1 ∧ RS G r m.n H1 s σ ∧ RV G r m.n H1 x v ∧ Go G W (vQ G Q) r m H1 (k x s m) := by
  obtain ⟨r, m, s, w, q, g⟩ := h
  exact ⟨r, m, s, w, q, (Go.bind g).mono fun r' m' H' x u w' g v p => ⟨r', m', s, x, w', q.up u, p, g⟩⟩
theorem tT_bind {f : X} {k : MV → XB} {σ : L2.St} {H : Hp} {Q : Bool → Hp → Prop} (h : tT G W (fun s m => (f s m).bind fun x m1 => k x s m1) σ H Q) :
    tE G W f σ H fun v H1 => ∃ r m s x, Wd G r m H1 ∧ RS G r m.n H1 s σ ∧ RV G r m.n H1 x v ∧ Go G W (fun _ _ H' b => Q b H') r m H1 (k x s m) := by
  obtain ⟨r, m, s, w, q, g⟩ := h
  exact ⟨r, m, s, w, q, (Go.bind g).mono fun r' m' H' x u w' g v p => ⟨r', m', s, x, w', q.up u, p, g⟩⟩
/-! ### names and constants -/
def xLoc (i : Nat) : X := fun s m => match s[i]? with
  | some (some v) => .ok v m
  | _ => .bad
def xC (v : MV) : X := fun _ m => .ok v m
theorem ok_loc {i : Nat} {x : Str} {pos : Pos} (hN : X0.N[i]? = some x) (hv : Vis X0.env.scope x) (hd : (x == ("__debug__" : Str)) = false) (hc : (x == ("__classdict__" : Str)) = false) : OkE G W X0 (.Name x pos) (xLoc i) := by
  refine pe_of (pe_var hN hv hd hc) fun σ H Q h => ?_
  obtain ⟨r, m, s, w, q, g⟩ := h
  unfold xLoc at g
  cases e : s[i]? with
  | none => rw [e] at g; exact g.elim
  | some o =>
    rw [e] at g
    cases o with
    | none => exact g.elim
    | some v =>
      obtain ⟨v', e', p⟩ := q.2 i v e
      exact ⟨v', e', Go.ok w g v' p⟩
theorem tC_of {v : MV} {u : V} (h : ∀ r n H, RV G r n H v u) {σ : L2.St} {H : Hp} {Q : VK} (t : tE G W (xC v) σ H Q) : tC u σ H Q := by
  obtain ⟨r, m, s, w, q, g⟩ := t
  exact Go.ok w g u (h _ _ _)
theorem ok_int {i : Int} {j pos} : OkE G W X0 (.Constant (.int i) j pos) (xC (.int i)) := pe_of pe_int fun _ _ _ h => tC_of (fun _ _ _ => by rw [RV]) h
theorem ok_bl {b : Bool} {j pos} : OkE G W X0 (.Constant (.bool b) j pos) (xC (.bl b)) := pe_of pe_bl fun _ _ _ h => tC_of (fun _ _ _ => by rw [RV]) h
theorem ok_non {j pos} : OkE G W X0 (.Constant .none j pos) (xC .non) := pe_of pe_non fun _ _ _ h => tC_of (fun _ _ _ => by rw [RV]) h
theorem ok_str {z : Str} {l : List Nat} {j pos} (h : z.cps.toList = l) : OkE G W X0 (.Constant (.str z) j pos) (xC (.str l)) := pe_of pe_str fun _ _ _ q => tC_of (fun _ _ _ => by
  rw [RV, ← h] <;> rfl) q
/-- a global constant -/
theorem ok_glob {x : Str} {v : MV} {w : V} {u : Value} {pos : Pos} (hg : L2.Gl X0 x) (hm : X0.mg x = some u) (r : RelV w u) (hv : ∀ r n H, RV G r n H v w) (hd : (x == ("__debug__" : Str)) = false) : OkE G W X0 (.Name x pos) (xC v) :=
  pe_of (pe_glob hg hm r hd) fun _ _ _ h => tC_of hv h
/-! ### two values -/
def xBin (f : MV → MV → MH → R MV) (a b : X) : X := fun s m => (a s m).bind fun x m1 => (b s m1).bind fun y m2 => f x y m2
/-- what f says of two values -/
def rS (G : Gl) (W : Wi) (f : MV → MV → MH → R MV) : R2 := fun v u H Q => ∃ r m x y, Wd G r m H ∧ RV G r m.n H x v ∧ RV G r m.n H y u ∧ Go G W (vQ G Q) r m H (f x y m)
theorem tOp_of {f : MV → MV → MH → R MV} {fa fb : X} {σ : L2.St} {H : Hp} {Q : VK} (h : tE G W (xBin f fa fb) σ H Q) : tOp (rS G W f) (tE G W fa) (tE G W fb) σ H Q := by
  obtain ⟨r, m, s, w, q, g⟩ := h
  refine ⟨r, m, s, w, q, (Go.bind g).mono fun r1 m1 H1 x u1 w1 g1 v p => ?_⟩
  refine ⟨r1, m1, s, w1, q.up u1, (Go.bind g1).mono fun r2 m2 H2 y u2 w2 g2 u p2 => ?_⟩
  exact ⟨r2, m2, x, y, w2, RV.up u2 x v p, p2, g2⟩
theorem ok_bin {op : Operator} {f : MV → MV → MH → R MV} {a b : Expr} {fa fb : X} {pos : Pos} (ho : OpR X0 (binaryOp op) (rS G W f)) (ha : OkE G W X0 a fa) (hb : OkE G W X0 b fb) : OkE G W X0 (.BinOp a op b pos) (xBin f fa fb) :=
  pe_of (pe_op ho ha hb) fun _ _ _ h => tOp_of h
theorem ok_cmp {op : CmpOp} {f : MV → MV → MH → R MV} {a b : Expr} {fa fb : X} {pos : Pos} (ho : OpR X0 (compareOp op) (rS G W f)) (ha : OkE G W X0 a fa) (hb : OkE G W X0 b fb) (hm : behindInMarks op b = false) : OkE G W X0 (.Compare a [op] [b] pos) (xBin f fa fb) :=
  pe_of (pe_cmpR ho ha hb hm) fun _ _ _ h => tOp_of h
/-! ### truth -/
def asB (v : MV) (m : MH) : R Bool := match v with
  | .bl b => .ok b m
  | _ => .bad
def truV (v : MV) (m : MH) : R Bool := match v with
  | .non => .ok false m
  | .bl b => .ok b m
  | .int i => .ok (i != 0) m
  | .str a => if Nat.ble a.length big then .ok (!a.isEmpty) m else .bad
  | .tup xs => .ok (!xs.isEmpty) m
  | .ref i => match m.get i with
    | some (.lst xs) => .ok (!xs.isEmpty) m
    | _ => .bad
  | .fn _ => .bad
  | .scr => .bad
def xTru (a : X) : XB := fun s m => (a s m).bind truV
def xB (a : X) : XB := fun s m => (a s m).bind asB
theorem go_asB {P : (Nat → Addr) → MH → Hp → Bool → Prop} {r : Nat → Addr} {m : MH} {H : Hp} (w : Wd G r m H) {x : MV} {v : V} (p : RV G r m.n H x v) (g : Go G W P r m H (asB x m)) : ∃ b, v = .bl b ∧ P r m H b := by
  cases x with
  | bl b =>
    rw [RV] at p
    exact ⟨b, p, Go.ok w g⟩
  | _ => exact g.elim
theorem rvs_isEmpty {r : Nat → Addr} {n : Nat} {H : Hp} {xs : List MV} {vs : List V} (h : RVs G r n H xs vs) : (!xs.isEmpty) = !vs.isEmpty := by
  have hl := h.length
  cases xs with
  | nil => cases vs with
    | nil => rfl
    | cons _ _ => cases hl
  | cons _ _ => cases vs with
    | nil => cases hl
    | cons _ _ => rfl
theorem go_truV {P : (Nat → Addr) → MH → Hp → Bool → Prop} {r : Nat → Addr} {m : MH} {H : Hp} (w : Wd G r m H) {x : MV} {v : V} (p : RV G r m.n H x v) (g : Go G W P r m H (truV x m)) : ∃ b, TruV G.K v H b ∧ P r m H b := by
  cases x with
  | non =>
    rw [RV] at p
    subst p
    exact ⟨false, rfl, Go.ok w g⟩
  | bl b =>
    rw [RV] at p
    subst p
    exact ⟨b, rfl, Go.ok w g⟩
  | int i =>
    rw [RV] at p
    subst p
    exact ⟨_, rfl, Go.ok w g⟩
  | str a =>
    rw [RV] at p
    subst p
    dsimp only [truV] at g
    by_cases hz : Nat.ble a.length big = true
    · rw [if_pos hz] at g
      refine ⟨_, ⟨?_, ?_⟩, Go.ok w g⟩
      · exact Nat.le_of_ble_eq_true hz
      · cases a with
        | nil => rfl
        | cons c a =>
          show true = (((((c :: a).toArray.size : Nat) : Int)) != 0)
          have : ((((c :: a).toArray.size : Nat) : Int) != 0) = true := by
            rw [bne_iff_ne, List.size_toArray, List.length_cons]
            omega
          exact this.symm
    · rw [if_neg hz] at g
      exact g.elim
  | tup xs =>
    rw [RV] at p
    obtain ⟨a, vs, rfl, hs, q⟩ := p
    exact ⟨_, .inr (.inl ⟨vs, hs, rvs_isEmpty q⟩), Go.ok w g⟩
  | ref i =>
    rw [RV] at p
    obtain ⟨hi, rfl⟩ := p
    dsimp only [truV] at g
    cases e : m.get i with
    | none => simp only [e] at g; exact g.elim
    | some o =>
      cases o with
      | lst xs =>
        simp only [e] at g
        obtain ⟨vs, hs, q⟩ := w.sqL e
        exact ⟨_, .inl ⟨vs, hs, rvs_isEmpty q⟩, Go.ok w g⟩
      | _ => simp only [e] at g; exact g.elim
  | fn _ => exact g.elim
  | scr => exact g.elim
/-- an expression that isn't looked at as a test in a way of its own -/
def plainT : Expr → Bool
  | .UnaryOp .Not _ _ => false
  | .BoolOp _ _ _ => false
  | .IfExp _ _ _ _ => false
  | .Compare _ _ _ _ => false
  | _ => true
theorem plainT_ok {a : Expr} (h : plainT a = true) (env : Env) : ∀ whole, isTrue a env whole = (do let v ← whole; standAt a.pos; holding [v] (truthy v)) := by
  intro whole
  cases a <;> first | rfl | (cases h; done) | skip
  rename_i op x pos
  cases op <;> first | rfl | cases h
theorem ok_tru {a : Expr} {fa : X} (h : plainT a = true) (hK : X0.K = G.K) (ha : OkE G W X0 a fa) : OkT G W X0 a (xTru fa) := by
  refine pt_of (pt_truth ha (plainT_ok h _)) fun σ H Q t => ?_
  obtain ⟨r, m, s, w, q, g⟩ := tT_bind (k := fun x _ m => truV x m) t
  refine ⟨r, m, s, w, q, g.mono fun r1 m1 H1 x u1 w1 g1 v p => ?_⟩
  obtain ⟨r2, m2, s2, x2, w2, q2, p2, g2⟩ := g1 v p
  rw [hK]
  exact go_truV w2 p2 g2
theorem ok_cmpT {op : CmpOp} {f : MV → MV → MH → R MV} {a b : Expr} {fa fb : X} {pos : Pos} (ho : OpR X0 (compareOp op) (rS G W f)) (ha : OkE G W X0 a fa) (hb : OkE G W X0 b fb) (hm : behindInMarks op b = false) : OkT G W X0 (.Compare a [op] [b] pos) (xB (xBin f fa fb)) := by
  refine pt_of (pt_cmpR ho ha hb hm) fun σ H Q t => ?_
  have t2 := tT_bind (k := fun x _ m => asB x m) t
  have t3 := tOp_of t2
  obtain ⟨r, m, s, w, q, g⟩ := t3
  refine ⟨r, m, s, w, q, g.mono fun r1 m1 H1 x u1 w1 g1 v p => ?_⟩
  obtain ⟨r2, m2, s2, w2, q2, g2⟩ := g1 v p
  refine ⟨r2, m2, s2, w2, q2, g2.mono fun r3 m3 H3 y u3 w3 g3 u p3 => ?_⟩
  obtain ⟨r4, m4, x4, y4, w4, p4, p5, g4⟩ := g3 u p3
  refine ⟨r4, m4, x4, y4, w4, p4, p5, g4.mono fun r5 m5 H5 z u5 w5 g5 c p6 => ?_⟩
  obtain ⟨r6, m6, s6, x6, w6, q6, p7, g6⟩ := g5 c p6
  exact go_asB w6 p7 g6
end
end
end Dv
/-! Dv4: operators on values. -/
namespace Dv
noncomputable section
open PySem L2 PyProof.Rows
section
variable {G : Gl} {W : Wi} {r r' : Nat → Addr} {m m' : MH} {H H' : Hp} {X0 : Cx}
/-- a new tuple -/
theorem up_tup (w : Wd G r m H) {p : Addr} (hp : H p = none) (vs : List V) : Up r m.n H r m.n (upd H p (.tup vs)) where
  le := Nat.le_refl _
  agr := fun _ _ => rfl
  tup := fun a vs e => by rw [upd_ne (ne_of_none e hp)]; exact e
  frz := fun a _ u e => by rw [upd_ne (ne_of_none e hp)]; exact e
  xd := fun a fs e => by rw [upd_ne (ne_of_none e hp)]; exact e
  own := fun a x e => by rw [upd_ne (ne_of_none e hp)]; exact .inl e
  frm := fun a u _ e _ => by rw [upd_ne (ne_of_none e hp)]; exact e
  trk := fun a e => upd_none e
  new := fun i h1 h2 => absurd h2 (Nat.not_lt.mpr h1)
theorem wd_up (w : Wd G r m H) (u : Up r m.n H r m.n H') (k : ∀ i x, i < m.n → H (r i) = some x → Mut (some x) → H' (r i) = some x) : Wd G r m H' where
  len := w.len
  inj := w.inj
  obj := fun i o e => (w.obj i o e).up u fun x q hm => k i x (get_lt e) q hm
  lev := w.lev
  scr := u.tp.scr w.scr
  scE := w.scE
theorem wd_tup (w : Wd G r m H) {p : Addr} (hp : H p = none) (vs : List V) : Wd G r m (upd H p (.tup vs)) := wd_up w (up_tup w hp vs) fun i xs hi e _ => by
  rw [upd_ne (ne_of_none e hp)]
  exact e
theorem rv_tup {n : Nat} {xs : List MV} {vs : List V} {a : Addr} (h : SqT G.K H a vs) (q : RVs G r n H xs vs) : RV G r n H (.tup xs) (.ref a) := by
  rw [RV]
  exact ⟨a, vs, rfl, h, q⟩
/-- the outcome a tuple, the machine's a new one -/
theorem go_tup {Q : VK} (w : Wd G r m H) {p : Addr} (hp : H p = none) {xs : List MV} {vs : List V} (q : RVs G r m.n H xs vs) (g : Go G W (vQ G Q) r m H (.ok (.tup xs) m)) : Q (.ref p) (upd H p (.tup vs)) :=
  g r (upd H p (.tup vs)) (up_tup w hp vs) (wd_tup w hp vs) (.ref p) (rv_tup (.inl (.inl upd_same)) (RVs.up (up_tup w hp vs) _ _ q))
theorem go_lst {Q : VK} (w : Wd G r m H) {p : Addr} (hp : H p = none) {xs : List MV} {vs : List V} (q : RVs G r m.n H xs vs) (g : Go G W (vQ G Q) r m H (newL xs m)) : Q (.ref p) (upd H p (.lst vs)) :=
  go_newL w hp q g (.ref p) (by rw [RV]; exact ⟨Nat.lt_succ_self _, by rw [ext_eq]⟩)
theorem go_val {Q : VK} (w : Wd G r m H) {x : MV} {v : V} (p : RV G r m.n H x v) (g : Go G W (vQ G Q) r m H (.ok x m)) : Q v H := Go.ok w g v p
theorem rv_int {n : Nat} {i : Int} : RV G r n H (.int i) (.int i) := by rw [RV]
theorem rv_bl {n : Nat} {b : Bool} : RV G r n H (.bl b) (.bl b) := by rw [RV]
theorem rv_non {n : Nat} : RV G r n H .non .non := by rw [RV]
theorem rv_str {n : Nat} {s : List Nat} : RV G r n H (.str s) (.str ⟨s.toArray⟩) := by rw [RV]
theorem RVs.rep {n : Nat} {xs : List MV} {vs : List V} (h : RVs G r n H xs vs) : ∀ k : Nat, RVs G r n H (List.replicate k xs).flatten (List.replicate k vs).flatten
  | 0 => RVs.nil
  | k + 1 => by
    rw [List.replicate_succ, List.flatten_cons, List.replicate_succ, List.flatten_cons]
    exact h.append (RVs.rep h k)
theorem small_ok {i : Int} (h : small i = true) : -(2 ^ 64) < i ∧ i < 2 ^ 64 := by
  unfold small at h
  have h2 : i.natAbs < 18446744073709551616 := by
    have := Nat.le_of_ble_eq_true (show Nat.ble (i.natAbs + 1) 18446744073709551616 = true from h)
    omega
  omega
theorem big_le {n : Nat} (h : Nat.ble n big = true) : n ≤ sizeLine := Nat.le_trans (Nat.le_of_ble_eq_true h) (by decide)
theorem lstAt_some {x : MV} {xs : List MV} (h : lstAt m x = some xs) : ∃ i, x = .ref i ∧ m.get i = some (.lst xs) := by
  cases x with
  | ref i =>
    refine ⟨i, rfl, ?_⟩
    unfold lstAt at h
    dsimp only at h
    cases e : m.get i with
    | none => rw [e] at h; cases h
    | some o =>
      rw [e] at h
      cases o with
      | lst ys => cases h; rfl
      | _ => cases h
  | _ => cases h
theorem str_app (a b : List Nat) : ((⟨a.toArray⟩ : Str) ++ (⟨b.toArray⟩ : Str)) = ⟨(a ++ b).toArray⟩ := by
  show (⟨a.toArray ++ b.toArray⟩ : Str) = _
  rw [List.append_toArray]
theorem str_rep (a : List Nat) (k : Nat) : (List.replicate k a.toArray).foldl (fun x y => x ++ y) #[] = (List.replicate k a).flatten.toArray := by
  have h : ∀ (k : Nat) (acc : List Nat), (List.replicate k a.toArray).foldl (fun x y => x ++ y) acc.toArray = (acc ++ (List.replicate k a).flatten).toArray := by
    intro k
    induction k with
    | zero => intro acc; simp
    | succ k ih =>
      intro acc
      rw [List.replicate_succ, List.foldl_cons, List.append_toArray, ih, List.replicate_succ, List.flatten_cons, List.append_assoc]
  have := h k []
  rw [List.nil_append] at this
  exact this
theorem len_rep {α : Type} (xs : List α) : ∀ k : Nat, (List.replicate k xs).flatten.length = xs.length * k
  | 0 => by simp
  | k + 1 => by rw [List.replicate_succ, List.flatten_cons, List.length_append, len_rep xs k, Nat.mul_succ, Nat.add_comm]
/-- a text some times -/
theorem op_mulS : OpR X0 (binaryOp .Mult) (fun x y H Q => ∃ (a : List Nat) (k : Int), x = .str ⟨a.toArray⟩ ∧ y = .int k ∧ -1000000 ≤ k ∧ k ≤ 16777216 ∧ a.length * k.toNat ≤ sizeLine ∧ Q (.str ⟨(List.replicate k.toNat a).flatten.toArray⟩) H) := by
  intro pins s σ H x y v u Q I rx ry h
  obtain ⟨a, k, rfl, rfl, h1, h2, h3, q⟩ := h
  obtain ⟨t, rfl⟩ := rx
  obtain ⟨t', rfl⟩ := ry
  have hl : (⟨a.toArray⟩ : Str).length = a.length := by
    show a.toArray.size = _
    rw [List.size_toArray]
  have h4 : a.length * k.toNat ≤ 16777216 := Nat.le_trans h3 (by decide)
  refine P.mul_str ?_ ?_ ?_ ?_
  · have e1 : ¬ (k < -(2 ^ 63 : Int)) := by omega
    have e2 : ¬ (k ≥ 2 ^ 63) := by omega
    rw [decide_eq_false e1, decide_eq_false e2]
    rfl
  · intro g1 g2 g3
    rw [hl] at g3
    have e1 : ((2 : Int) ^ 63 - 1) / k < a.length := g3
    have e2 : 0 < k := by omega
    have e3 : ((2 : Int) ^ 63 - 1) < a.length * k := by
      have := Int.lt_mul_of_ediv_lt e2 e1
      exact this
    have e4 : ((a.length * k.toNat : Nat) : Int) ≤ ((16777216 : Nat) : Int) := Int.ofNat_le.mpr h4
    have e5 : ((k.toNat : Nat) : Int) = k := Int.toNat_of_nonneg (by omega)
    rw [Int.natCast_mul, e5] at e4
    omega
  · intro g1 g2
    rw [hl]
    exact decide_eq_false (by omega)
  · by_cases g1 : k < 1
    · rw [if_pos g1]
      have e : k.toNat = 0 := by omega
      rw [e] at q
      exact ⟨by decide, .str Str.empty, H, I.tok _, ⟨_, rfl⟩, q⟩
    · rw [if_neg g1]
      by_cases g2 : (k == 1 || (⟨a.toArray⟩ : Str).length == 0) = true
      · rw [if_pos g2]
        refine ⟨.str ⟨a.toArray⟩, H, I.tok _, ⟨_, rfl⟩, ?_⟩
        have e : (List.replicate k.toNat a).flatten = a := by
          rcases Bool.or_eq_true_iff.mp g2 with g | g
          · have : k = 1 := by simpa using g
            subst this
            simp
          · have : a = [] := by
              have g : (⟨a.toArray⟩ : Str).length = 0 := by simpa using g
              rw [hl] at g
              exact List.length_eq_zero_iff.mp g
            subst this
            simp
        rw [e] at q
        exact q
      · rw [if_neg g2]
        have e : (⟨(List.replicate k.toNat (⟨a.toArray⟩ : Str).cps).foldl (fun x y => x ++ y) #[]⟩ : Str) = ⟨(List.replicate k.toNat a).flatten.toArray⟩ := congrArg Str.mk (str_rep a k.toNat)
        show Made.post (Made.str (⟨(List.replicate k.toNat (⟨a.toArray⟩ : Str).cps).foldl (fun x y => x ++ y) #[]⟩ : Str)) _ _
        rw [e]
        refine ⟨?_, .str ⟨(List.replicate k.toNat a).flatten.toArray⟩, H, I.tok _, ⟨_, rfl⟩, q⟩
        show (List.replicate k.toNat a).flatten.toArray.size ≤ sizeLine
        rw [List.size_toArray, len_rep]
        exact h3
/-- binary operators -/
theorem ok_binV (hK : X0.K = G.K) (op : Operator) : OpR X0 (binaryOp op) (rS G W (binV op)) := by
  intro pins s σ H v u v' u' Q I rx ry h
  obtain ⟨r, m, x, y, w, px, py, g⟩ := h
  cases op <;> cases x <;> cases y <;> first | exact g.elim | skip
  · -- int + int
    rw [RV] at px py
    subst px py
    exact op_add pins s σ H _ _ _ _ Q I rx ry ⟨_, _, rfl, rfl, go_val w rv_int g⟩
  · -- text + text
    rename_i a b
    rw [RV] at px py
    subst px py
    dsimp only [binV] at g
    by_cases hz : Nat.ble (a.length + b.length) big = true
    · rw [if_pos hz] at g
      refine op_add_str pins s σ H _ _ _ _ Q I rx ry ⟨_, _, rfl, rfl, ?_, ?_⟩
      · show a.toArray.size + b.toArray.size ≤ _
        rw [List.size_toArray, List.size_toArray]
        exact big_le hz
      · rw [str_app]
        exact go_val w rv_str g
    · rw [if_neg hz] at g
      exact g.elim
  · -- list + list
    rename_i i j
    rw [RV] at px py
    obtain ⟨hi, rfl⟩ := px
    obtain ⟨hj, rfl⟩ := py
    dsimp only [binV] at g
    cases e1 : lstAt m (.ref i) with
    | none => simp only [e1] at g; exact g.elim
    | some xs =>
      cases e2 : lstAt m (.ref j) with
      | none => simp only [e1, e2] at g; exact g.elim
      | some ys =>
        simp only [e1, e2] at g
        obtain ⟨_, z1, l1⟩ := lstAt_some e1
        obtain ⟨_, z2, l2⟩ := lstAt_some e2
        cases z1
        cases z2
        obtain ⟨vs, q1, p1⟩ := w.lst l1
        obtain ⟨ws, q2, p2⟩ := w.lst l2
        by_cases hz : Nat.ble (xs.length + ys.length) big = true
        · rw [if_pos hz] at g
          refine op_cat pins s σ H _ _ _ _ Q I rx ry ⟨_, _, vs, ws, rfl, rfl, q1, q2, ?_, fun p hp => go_lst w hp (p1.append p2) g⟩
          rw [← p1.length, ← p2.length]
          exact big_le hz
        · rw [if_neg hz] at g
          exact g.elim
  · -- tuple + tuple
    rename_i a b
    have px0 := px
    have py0 := py
    rw [RV] at px py
    obtain ⟨p1, vs, rfl, h1, q1⟩ := px
    obtain ⟨p2, ws, rfl, h2, q2⟩ := py
    dsimp only [binV] at g
    by_cases hz : Nat.ble (a.length + b.length) big = true
    · rw [if_pos hz] at g
      refine op_catA pins s σ H _ _ _ _ Q I rx ry ⟨_, _, vs, ws, rfl, rfl, by rw [hK]; exact h1, by rw [hK]; exact h2, ?_, fun e => ?_, fun _ e => ?_, fun _ _ p hp => go_tup w hp (q1.append q2) g⟩
      · rw [← q1.length, ← q2.length]
        exact big_le hz
      · subst e
        have e0 : a = [] := List.length_eq_zero_iff.mp q1.length
        subst e0
        exact go_val w py0 g
      · subst e
        have e0 : b = [] := List.length_eq_zero_iff.mp q2.length
        subst e0
        rw [List.append_nil] at g
        exact go_val w px0 g
    · rw [if_neg hz] at g
      exact g.elim
  · -- int - int
    rw [RV] at px py
    subst px py
    exact op_sub pins s σ H _ _ _ _ Q I rx ry ⟨_, _, rfl, rfl, go_val w rv_int g⟩
  · -- int * int
    rename_i i j
    rw [RV] at px py
    subst px py
    dsimp only [binV] at g
    by_cases hz : (small i || small j) = true
    · rw [if_pos hz] at g
      refine op_mul pins s σ H _ _ _ _ Q I rx ry ⟨_, _, rfl, rfl, ?_, go_val w rv_int g⟩
      rcases Bool.or_eq_true_iff.mp hz with hz | hz
      · exact .inl (small_ok hz)
      · exact .inr (small_ok hz)
    · rw [if_neg hz] at g
      exact g.elim
  · -- text * int
    rename_i a k
    rw [RV] at px
    rw [RV] at py
    subst px py
    dsimp only [binV] at g
    by_cases hz : (small k && Nat.ble (a.length * k.toNat) big && Nat.ble k.toNat big && decide (-1000000 ≤ k)) = true
    · rw [if_pos hz] at g
      obtain ⟨hz, h4⟩ := Bool.and_eq_true_iff.mp hz
      obtain ⟨hz, h3⟩ := Bool.and_eq_true_iff.mp hz
      obtain ⟨h1, h2⟩ := Bool.and_eq_true_iff.mp hz
      have h5 : k.toNat ≤ 16777216 := Nat.le_of_ble_eq_true h3
      exact op_mulS pins s σ H _ _ _ _ Q I rx ry ⟨a, k, rfl, rfl, of_decide_eq_true h4, by omega, big_le h2, go_val w rv_str g⟩
    · rw [if_neg hz] at g
      exact g.elim
  · -- list * int
    rename_i i k
    rw [RV] at px
    rw [RV] at py
    obtain ⟨hi, rfl⟩ := px
    subst py
    dsimp only [binV] at g
    cases e1 : lstAt m (.ref i) with
    | none => simp only [e1] at g; exact g.elim
    | some xs =>
      simp only [e1] at g
      obtain ⟨_, z1, l1⟩ := lstAt_some e1
      cases z1
      obtain ⟨vs, q1, p1⟩ := w.lst l1
      by_cases hz : (small k && Nat.ble (xs.length * k.toNat) big && Nat.ble k.toNat big && decide (-1000000 ≤ k)) = true
      · rw [if_pos hz] at g
        obtain ⟨hz, h4⟩ := Bool.and_eq_true_iff.mp hz
        obtain ⟨hz, h3⟩ := Bool.and_eq_true_iff.mp hz
        obtain ⟨h1, h2⟩ := Bool.and_eq_true_iff.mp hz
        have h5 : k.toNat ≤ 16777216 := Nat.le_of_ble_eq_true h3
        have h6 := of_decide_eq_true h4
        refine op_rep pins s σ H _ _ _ _ Q I rx ry ⟨_, k, vs, rfl, rfl, q1, by omega, by omega, ?_, fun p hp => go_lst w hp (p1.rep k.toNat) g⟩
        rw [← p1.length]
        exact big_le h2
      · rw [if_neg hz] at g
        exact g.elim
  · -- int % int
    rename_i i j
    rw [RV] at px py
    subst px py
    dsimp only [binV] at g
    by_cases hz : 0 < j
    · rw [if_pos hz] at g
      exact op_mod pins s σ H _ _ _ _ Q I rx ry ⟨_, _, rfl, rfl, hz, go_val w rv_int g⟩
    · rw [if_neg hz] at g
      exact g.elim
  · -- **
    rename_i i j
    rw [RV] at px py
    subst px py
    dsimp only [binV] at g
    by_cases hz : 0 ≤ j ∧ j ≤ 10000 ∧ Nat.blt i.natAbs wide = true
    · rw [if_pos hz] at g
      obtain ⟨t, rfl⟩ := rx
      obtain ⟨t', rfl⟩ := ry
      have hb : Builtin.Int.intBits i ≤ 1024 := intBits_le (Nat.le_of_ble_eq_true hz.2.2)
      refine pow_int hz.1 ?_ ⟨.int _, H, I.tok _, ⟨_, rfl⟩, go_val w rv_int g⟩
      have h1 : (Builtin.Int.intBits i : Int) * j ≤ 1024 * j := Int.mul_le_mul_of_nonneg_right (by omega) hz.1
      omega
    · rw [if_neg hz] at g
      exact g.elim
  · -- <<
    rename_i i j
    rw [RV] at px py
    subst px py
    dsimp only [binV] at g
    by_cases hz : 0 ≤ j ∧ j ≤ 1000000 ∧ small i = true
    · rw [if_pos hz] at g
      have := small_ok hz.2.2
      exact op_shl pins s σ H _ _ _ _ Q I rx ry ⟨_, _, rfl, rfl, ⟨hz.1, hz.2.1, by omega⟩, go_val w rv_int g⟩
    · rw [if_neg hz] at g
      exact g.elim
  · -- >>
    rename_i i j
    rw [RV] at px py
    subst px py
    dsimp only [binV] at g
    by_cases hz : 0 ≤ j
    · rw [if_pos hz] at g
      exact op_shr pins s σ H _ _ _ _ Q I rx ry ⟨_, _, rfl, rfl, hz, go_val w rv_int g⟩
    · rw [if_neg hz] at g
      exact g.elim
  · -- bits
    rename_i i j
    rw [RV] at px py
    subst px py
    cases i <;> cases j <;> first | exact g.elim | skip
    rename_i i j
    refine op_or pins s σ H _ _ _ _ Q I rx ry ⟨_, _, rfl, rfl, ?_⟩
    show Q (V.int (Builtin.bitOr (Int.ofNat i) (Int.ofNat j))) H
    rw [Bits.bitOr_pp (x := Int.ofNat i) (y := Int.ofNat j) (Int.natCast_nonneg i) (Int.natCast_nonneg j)]
    exact go_val w rv_int g
  · rename_i i j
    rw [RV] at px py
    subst px py
    cases i <;> cases j <;> first | exact g.elim | skip
    rename_i i j
    refine op_xor pins s σ H _ _ _ _ Q I rx ry ⟨_, _, rfl, rfl, ?_⟩
    show Q (V.int (Builtin.bitXor (Int.ofNat i) (Int.ofNat j))) H
    rw [Bits.bitXor_pp (x := Int.ofNat i) (y := Int.ofNat j) (Int.natCast_nonneg i) (Int.natCast_nonneg j)]
    exact go_val w rv_int g
  · rename_i i j
    rw [RV] at px py
    subst px py
    cases i <;> cases j <;> first | exact g.elim | skip
    rename_i i j
    refine op_and pins s σ H _ _ _ _ Q I rx ry ⟨_, _, rfl, rfl, ?_⟩
    show Q (V.int (Builtin.bitAnd (Int.ofNat i) (Int.ofNat j))) H
    rw [bitAnd_pp (x := Int.ofNat i) (y := Int.ofNat j) (Int.natCast_nonneg i) (Int.natCast_nonneg j)]
    exact go_val w rv_int g
  · -- int // int
    rename_i i j
    rw [RV] at px py
    subst px py
    dsimp only [binV] at g
    by_cases hz : 0 < j ∧ j < 1073741824
    · rw [if_pos hz] at g
      exact op_fdiv pins s σ H _ _ _ _ Q I rx ry ⟨_, _, rfl, rfl, hz, go_val w rv_int g⟩
    · rw [if_neg hz] at g
      exact g.elim
end
end
end Dv
/-! DvK: dicts: looked up, stored into. -/
namespace Dv
noncomputable section
open PySem L2 PyProof.Rows
/-- keys alike -/
def keyEq : MV → MV → Bool
  | .int i, .int j => i == j
  | .str s, .str t => s == t
  | _, _ => false
def keyB (x : MV) : Bool := match x with
  | .int _ => true
  | .str _ => true
  | _ => false
def dGet (kvs : List (MV × MV)) (k : MV) : Option MV := List.rec (motive := fun _ => Option MV) none (fun p _ ih => bif keyEq p.1 k then some p.2 else ih) kvs
def dPut (kvs : List (MV × MV)) (k v : MV) : List (MV × MV) := List.rec (motive := fun _ => List (MV × MV)) [(k, v)] (fun p r ih => bif keyEq p.1 k then (p.1, v) :: r else p :: ih) kvs
theorem dGet_cons (p : MV × MV) (r : List (MV × MV)) (k : MV) : dGet (p :: r) k = bif keyEq p.1 k then some p.2 else dGet r k := rfl
theorem dPut_cons (p : MV × MV) (r : List (MV × MV)) (k v : MV) : dPut (p :: r) k v = bif keyEq p.1 k then (p.1, v) :: r else p :: dPut r k v := rfl
theorem keyOf_ok {x : MV} (h : keyB x = true) : ∃ k, keyOf x = some k := by
  cases x <;> first | (cases h; done) | exact ⟨_, rfl⟩
theorem str_eq (a b : List Nat) : ((⟨a.toArray⟩ : Str) = ⟨b.toArray⟩) ↔ a = b := by
  constructor
  · intro h
    have : a.toArray = b.toArray := congrArg Str.cps h
    exact List.toArray_inj this
  · rintro rfl
    rfl
theorem keyEq_ok {x y : MV} {k l : Key} (hx : keyOf x = some k) (hy : keyOf y = some l) : keyEq x y = decide (k = l) := by
  cases x <;> first | (cases hx; done) | skip
  · cases y <;> first | (cases hy; done) | skip
    · cases hx
      cases hy
      rw [keyEq, key_ll]
    · cases hx
      cases hy
      rw [key_lr] <;> rfl
  · cases y <;> first | (cases hy; done) | skip
    · cases hx
      cases hy
      rw [key_rl] <;> rfl
    · cases hx
      cases hy
      rw [keyEq, key_rr]
      rename_i a b
      by_cases h : a = b
      · subst h
        rw [decide_eq_true rfl, beq_self_eq_true]
      · rw [decide_eq_false fun z => h ((str_eq a b).mp z)]
        exact beq_eq_false_iff_ne.mpr h
theorem keyOf_rv {G : Gl} {r : Nat → Addr} {n : Nat} {H : Hp} {x : MV} {v : V} {k : Key} (h : keyOf x = some k) (p : RV G r n H x v) : v = kV k := by
  cases x <;> first | (cases h; done) | skip
  · cases h
    rw [RV] at p
    exact p
  · cases h
    rw [RV] at p
    exact p
section
variable {G : Gl} {r : Nat → Addr} {n : Nat} {H : Hp}
/-- a look-up -/
theorem dGet_ok {x : MV} {k : Key} (hx : keyOf x = some k) : ∀ {kvs : List (MV × MV)} {ws : List (Key × V)}, RKs G r n H kvs ws → match dGet kvs x with
    | some y => ∃ v, valV ws k = some v ∧ RV G r n H y v
    | none => valV ws k = none
  | [], ws, h => by
    cases h
    rfl
  | p :: kvs, ws, h => by
    obtain ⟨l, v, us, rfl, hl, hv, q⟩ := h
    have ih := dGet_ok hx q
    rw [dGet_cons, keyEq_ok hl hx]
    by_cases e : l = k
    · subst e
      rw [decide_eq_true rfl]
      exact ⟨v, valV_pos rfl, hv⟩
    · rw [decide_eq_false e]
      show match dGet kvs x with
        | some y => ∃ v', valV ((l, v) :: us) k = some v' ∧ RV G r n H y v'
        | none => valV ((l, v) :: us) k = none
      rw [valV_neg e]
      exact ih
theorem putK_cons_pos {ws : List (Key × V)} {k : Key} {v w : V} (h : ∀ q ∈ ws, q.1 ≠ k) : putK ((k, w) :: ws) k v = (k, v) :: ws := by
  unfold putK
  rw [List.any_cons, decide_eq_true rfl, Bool.true_or, if_pos rfl, List.map_cons, if_pos rfl]
  congr 1
  conv => rhs; rw [← List.map_id ws]
  exact List.map_congr_left fun q hq => if_neg (h q hq)
theorem putK_cons_neg {ws : List (Key × V)} {l k : Key} {v w : V} (h : l ≠ k) : putK ((l, w) :: ws) k v = (l, w) :: putK ws k v := by
  unfold putK
  rw [List.any_cons, decide_eq_false h, Bool.false_or]
  by_cases e : (ws.any fun kv => decide (kv.1 = k)) = true
  · rw [if_pos e, if_pos e, List.map_cons, if_neg h]
  · rw [if_neg e, if_neg e] <;> rfl
/-- a store, into a dict whose keys are unlike -/
theorem dPut_ok {x y : MV} {k : Key} {v : V} (hx : keyOf x = some k) (hy : RV G r n H y v) : ∀ {kvs : List (MV × MV)} {ws : List (Key × V)}, RKs G r n H kvs ws → (ws.map (·.1)).Nodup → RKs G r n H (dPut kvs x y) (putK ws k v)
  | [], ws, h, _ => by
    cases h
    exact ⟨k, v, [], rfl, hx, hy, rfl⟩
  | p :: kvs, ws, h, nd => by
    obtain ⟨l, w, us, rfl, hl, hv, q⟩ := h
    rw [List.map_cons, List.nodup_cons] at nd
    rw [dPut_cons, keyEq_ok hl hx]
    by_cases e : l = k
    · subst e
      rw [decide_eq_true rfl, putK_cons_pos fun z hz e => nd.1 (List.mem_map.mpr ⟨z, hz, e⟩)]
      exact ⟨l, v, us, rfl, hl, hy, q⟩
    · rw [decide_eq_false e, putK_cons_neg e]
      exact ⟨l, w, _, rfl, hl, hv, dPut_ok hx hy q nd.2⟩
theorem RKs.length : ∀ {kvs : List (MV × MV)} {ws : List (Key × V)}, RKs G r n H kvs ws → kvs.length = ws.length
  | [], _, h => by cases h; rfl
  | p :: kvs, ws, h => by
    obtain ⟨l, w, us, rfl, _, _, q⟩ := h
    rw [List.length_cons, List.length_cons, RKs.length q]
theorem putK_mem {ws : List (Key × V)} {k l : Key} {v : V} : l ∈ (putK ws k v).map (·.1) → l = k ∨ l ∈ ws.map (·.1) := by
  intro h
  obtain ⟨q, hq, rfl⟩ := List.mem_map.mp h
  unfold putK at hq
  by_cases e : (ws.any fun kv => decide (kv.1 = k)) = true
  · rw [if_pos e] at hq
    obtain ⟨p, hp, rfl⟩ := List.mem_map.mp hq
    right
    by_cases d : p.1 = k
    · rw [if_pos d]
      exact List.mem_map.mpr ⟨p, hp, rfl⟩
    · rw [if_neg d]
      exact List.mem_map.mpr ⟨p, hp, rfl⟩
  · rw [if_neg e] at hq
    rcases List.mem_append.mp hq with h | h
    · exact .inr (List.mem_map.mpr ⟨q, h, rfl⟩)
    · rw [List.mem_singleton.mp h]
      exact .inl rfl
theorem putK_nodup {k : Key} {v : V} : ∀ {ws : List (Key × V)}, (ws.map (·.1)).Nodup → ((putK ws k v).map (·.1)).Nodup
  | [], _ => by
    show ([(k, v)].map (·.1)).Nodup
    simp
  | (l, w) :: ws, h => by
    rw [List.map_cons, List.nodup_cons] at h
    by_cases e : l = k
    · subst e
      rw [putK_cons_pos fun z hz e => h.1 (List.mem_map.mpr ⟨z, hz, e⟩), List.map_cons, List.nodup_cons]
      exact h
    · rw [putK_cons_neg e, List.map_cons, List.nodup_cons]
      refine ⟨fun z => ?_, putK_nodup h.2⟩
      rcases putK_mem z with d | d
      · exact e d
      · exact h.1 d
/-! ### a dict's object, read and written -/
variable {m : MH}
theorem Wd.dct (w : Wd G r m H) {i : Nat} {lk : Bool} {kvs : List (MV × MV)} (h : m.get i = some (.dct lk kvs)) : ∃ ws, RKs G r m.n H kvs ws ∧ (ws.map (·.1)).Nodup ∧ Rd H (r i) (.dK ws) ∧ (lk = false → H (r i) = some (.dK ws)) := by
  obtain ⟨ws, p, nd, q⟩ := w.obj i _ h
  cases lk with
  | false => exact ⟨ws, p, nd, .inl q, fun _ => q⟩
  | true =>
    obtain ⟨o, q⟩ := q
    exact ⟨ws, p, nd, .inr ⟨o, q⟩, fun z => by cases z⟩
/-- an object of ours becomes another one, of ours too -/
theorem wd_mut (w : Wd G r m H) {i : Nat} {x y : HO} (hi : i < m.n) (ha : H (r i) = some x) (hm : Mut (some x)) {o o0 : MO} {v : MV} (ho : RO G r m.n (upd H (r i) y) o (r i)) (h0 : m.get i = some o0) (hu : ∀ l, o0.under l = true → v.under l = true → o.under l = true) : Wd G r (m.wr i o v) (upd H (r i) y) where
  len := by show (m.os.set (m.n - 1 - i) _).length = m.n; rw [List.length_set, w.len]
  inj := w.inj
  obj := fun j p e => by
    have u : Up r m.n H r m.n (upd H (r i) y) := up_mut ha hm hi rfl
    rw [get_wr m w.len hi] at e
    by_cases h1 : j = i
    · subst h1
      rw [if_pos rfl] at e
      cases e
      exact ho
    · rw [if_neg h1] at e
      refine (w.obj j p e).up u fun z q _ => ?_
      rw [upd_ne fun z => h1 (w.inj j i (get_lt e) hi z)]
      exact q
  lev := lev_wr w.len w.lev hi h0 hu
  scr := (up_mut ha hm hi rfl : Up r m.n H r m.n (upd H (r i) y)).tp.scr w.scr
  scE := w.scE
/-- a new object of ours -/
theorem wd_new (w : Wd G r m H) {p : Addr} (hp : H p = none) {x : HO} {o : MO} (ho : RO G (ext r m.n p) (m.n + 1) (upd H p x) o p) : Wd G (ext r m.n p) (m.push o) (upd H p x) where
  len := by show m.os.length + 1 = m.n + 1; rw [w.len]
  inj := fun i j hi hj e => by
    have hi : i < m.n + 1 := hi
    have hj : j < m.n + 1 := hj
    by_cases h1 : i = m.n <;> by_cases h2 : j = m.n
    · rw [h1, h2]
    · subst h1
      rw [ext_eq, ext_ne h2] at e
      exact absurd e.symm (w.ne (by omega) hp)
    · subst h2
      rw [ext_eq, ext_ne h1] at e
      exact absurd e (w.ne (by omega) hp)
    · rw [ext_ne h1, ext_ne h2] at e
      exact w.inj i j (by omega) (by omega) e
  obj := fun i z e => by
    have u := up_new w hp x
    rw [get_push m w.len] at e
    by_cases h1 : i = m.n
    · subst h1
      rw [if_pos rfl] at e
      cases e
      rw [ext_eq]
      exact ho
    · rw [if_neg h1] at e
      rw [ext_ne h1]
      refine (w.obj i z e).up u fun ys q _ => ?_
      rw [upd_ne (w.ne (get_lt e) hp)]
      exact q
  lev := lev_push w.len w.lev _
  scr := (up_new w hp x).tp.scr w.scr
  scE := w.scE
theorem dPut_under {l : Nat} {k v : MV} (hk : k.under l = true) (hv : v.under l = true) : ∀ {kvs : List (MV × MV)}, (kvs.all fun p => p.1.under l && p.2.under l) = true → ((dPut kvs k v).all fun p => p.1.under l && p.2.under l) = true
  | [], _ => by
    show ([(k, v)].all fun p => p.1.under l && p.2.under l) = true
    rw [List.all_cons, hk, hv] <;> rfl
  | p :: kvs, h => by
    rw [List.all_cons, Bool.and_eq_true] at h
    rw [dPut_cons]
    cases keyEq p.1 k with
    | true =>
      show ((p.1, v) :: kvs).all _ = true
      rw [List.all_cons, h.2, hv, (Bool.and_eq_true_iff.mp h.1).1] <;> rfl
    | false =>
      show (p :: dPut kvs k v).all _ = true
      rw [List.all_cons, h.1, dPut_under hk hv h.2] <;> rfl
theorem keyB_under {l : Nat} {x : MV} (h : keyB x = true) : x.under l = true := by
  cases x <;> first | (cases h; done) | (rw [MV.under] <;> intros <;> contradiction)
end
end
end Dv
/-! Dv5: comparisons on values. -/
namespace Dv
noncomputable section
open PySem L2 PyProof.Rows
/-- data of at most that depth, lists and tuples of None, bools, ints and texts -/
def okM (m : MH) : Nat → MV → Bool
  | _, .non => true
  | _, .bl _ => true
  | _, .int _ => true
  | _, .str s => s.all fun c => Nat.blt c 1114112
  | n + 1, .ref i => match m.get i with
    | some (.lst xs) => xs.all (okM m n)
    | _ => false
  | n + 1, .tup xs => xs.all (okM m n)
  | _, _ => false
def eqL (f : MV → MV → Bool) : List MV → List MV → Bool
  | [], [] => true
  | x :: xs, y :: ys => f x y && eqL f xs ys
  | _, _ => false
/-- == of data -/
def eqM (m : MH) : Nat → MV → MV → Bool
  | _, .non, .non => true
  | _, .bl a, .bl b => a == b
  | _, .bl a, .int j => (if a then 1 else 0) == j
  | _, .int i, .bl b => i == (if b then 1 else 0)
  | _, .int i, .int j => i == j
  | _, .str a, .str b => a == b
  | n + 1, .ref i, .ref j => match m.get i, m.get j with
    | some (.lst xs), some (.lst ys) => eqL (eqM m n) xs ys
    | _, _ => false
  | n + 1, .tup xs, .tup ys => eqL (eqM m n) xs ys
  | _, _, _ => false
theorem optAll_ex {f : MV → Option PyData} {p : MV → Bool} {k : Nat} (h : ∀ x, p x = true → ∃ d, f x = some d ∧ d.canLay0 = true ∧ d.depth ≤ k) : ∀ {xs : List MV}, xs.all p = true → ∃ ds, optAll f xs = some ds ∧ PyData.canLayAll0 ds = true ∧ PyData.depthAll ds ≤ k
  | [], _ => ⟨[], rfl, rfl, Nat.zero_le _⟩
  | x :: xs, e => by
    rw [List.all_cons, Bool.and_eq_true] at e
    obtain ⟨d, h1, h2, h3⟩ := h x e.1
    obtain ⟨ds, g1, g2, g3⟩ := optAll_ex h e.2
    refine ⟨d :: ds, ?_, ?_, ?_⟩
    · rw [optAll, h1]
      dsimp only
      rw [g1]
    · rw [PyData.canLayAll0, h2, g2] <;> rfl
    · rw [PyData.depthAll]
      omega
theorem okM_ok (m : MH) : ∀ (n : Nat) (x : MV), okM m n x = true → ∃ d, dat m n x = some d ∧ d.canLay0 = true ∧ d.depth ≤ n
  | n, .non, _ => ⟨.none, by cases n <;> rfl, rfl, Nat.zero_le _⟩
  | n, .bl b, _ => ⟨.bool b, by cases n <;> rfl, rfl, Nat.zero_le _⟩
  | n, .int i, _ => ⟨.int i, by cases n <;> rfl, rfl, Nat.zero_le _⟩
  | n, .str s, h => by
    refine ⟨.str ⟨s.toArray⟩, by cases n <;> rfl, ?_, Nat.zero_le _⟩
    have h : (s.all fun c => Nat.blt c 1114112) = true := by
      cases n <;> exact h
    rw [PyData.canLay0]
    show (s.toArray.all (· < 0x110000)) = true
    rw [List.all_toArray]
    refine List.all_eq_true.mpr fun c hc => ?_
    have h2 := List.all_eq_true.mp h c hc
    have h3 := Nat.le_of_ble_eq_true (show Nat.ble (c + 1) 1114112 = true from h2)
    exact decide_eq_true (by omega)
  | 0, .ref i, h => by cases h
  | n + 1, .ref i, h => by
    unfold okM at h
    unfold dat
    cases e : m.get i with
    | none => rw [e] at h; cases h
    | some o =>
      rw [e] at h
      cases o with
      | lst xs =>
        obtain ⟨ds, g1, g2, g3⟩ := optAll_ex (okM_ok m n) h
        refine ⟨.list ds, ?_, by rw [PyData.canLay0]; exact g2, by rw [PyData.depth]; omega⟩
        dsimp only
        rw [g1]
      | _ => cases h
  | 0, .tup xs, h => by cases h
  | n + 1, .tup xs, h => by
    unfold okM at h
    unfold dat
    obtain ⟨ds, g1, g2, g3⟩ := optAll_ex (okM_ok m n) h
    refine ⟨.tuple ds, ?_, by rw [PyData.canLay0]; exact g2, by rw [PyData.depth]; omega⟩
    rw [g1]
  | 0, .fn _, h => by cases h
  | 0, .scr, h => by cases h
  | n + 1, .scr, h => by cases h
  | n + 1, .fn _, h => by cases h
theorem optAll_len {f : MV → Option PyData} : ∀ {xs : List MV} {ds : List PyData}, optAll f xs = some ds → ds.length = xs.length
  | [], ds, h => by
    rw [optAll] at h
    cases h
    rfl
  | x :: xs, ds, h => by
    rw [optAll] at h
    cases e : f x with
    | none => rw [e] at h; cases h
    | some d =>
      rw [e] at h
      dsimp only at h
      cases e2 : optAll f xs with
      | none => rw [e2] at h; cases h
      | some es =>
        rw [e2] at h
        cases h
        rw [List.length_cons, List.length_cons, optAll_len e2]
theorem optAll_cons {f : MV → Option PyData} {x : MV} {xs : List MV} {ds : List PyData} (h : optAll f (x :: xs) = some ds) : ∃ d es, ds = d :: es ∧ f x = some d ∧ optAll f xs = some es := by
  rw [optAll] at h
  cases e : f x with
  | none => rw [e] at h; cases h
  | some d =>
    rw [e] at h
    dsimp only at h
    cases e2 : optAll f xs with
    | none => rw [e2] at h; cases h
    | some es =>
      rw [e2] at h
      cases h
      exact ⟨d, es, rfl, rfl, rfl⟩
theorem eqL_ok {f : MV → Option PyData} {g : MV → MV → Bool} (h : ∀ x y d e, f x = some d → f y = some e → g x y = PyData.eqv d e) : ∀ {xs ys : List MV} {ds es : List PyData}, optAll f xs = some ds → optAll f ys = some es → eqL g xs ys = PyData.eqvAll ds es
  | [], [], ds, es, h1, h2 => by
    cases h1
    cases h2
    rfl
  | [], y :: ys, ds, es, h1, h2 => by
    obtain ⟨_, _, rfl, _, _⟩ := optAll_cons h2
    cases h1
    rfl
  | x :: xs, [], ds, es, h1, h2 => by
    obtain ⟨_, _, rfl, _, _⟩ := optAll_cons h1
    cases h2
    rfl
  | x :: xs, y :: ys, ds, es, h1, h2 => by
    obtain ⟨d, ds', rfl, q1, q2⟩ := optAll_cons h1
    obtain ⟨e, es', rfl, p1, p2⟩ := optAll_cons h2
    rw [eqL, PyData.eqvAll, h x y d e q1 p1, eqL_ok h q2 p2]
theorem str_beq (a b : List Nat) : ((⟨a.toArray⟩ : Str) == ⟨b.toArray⟩) = (a == b) := by
  by_cases h : a = b
  · subst h
    rw [beq_self_eq_true, beq_self_eq_true]
  · have h2 : (⟨a.toArray⟩ : Str) ≠ ⟨b.toArray⟩ := fun e => h (by
      have := congrArg (fun z : Str => z.cps.toList) e
      simpa using this)
    rw [beq_eq_false_iff_ne.mpr h, beq_eq_false_iff_ne.mpr h2]
theorem dat_ref {m : MH} {n i : Nat} {d : PyData} (h : dat m (n + 1) (.ref i) = some d) : ∃ xs ds, m.get i = some (.lst xs) ∧ d = .list ds ∧ optAll (dat m n) xs = some ds := by
  unfold dat at h
  cases e : m.get i with
  | none => rw [e] at h; cases h
  | some o =>
    rw [e] at h
    cases o with
    | lst xs =>
      dsimp only at h
      cases e2 : optAll (dat m n) xs with
      | none => rw [e2] at h; cases h
      | some ds =>
        rw [e2] at h
        cases h
        exact ⟨xs, ds, rfl, rfl, e2⟩
    | _ => cases h
theorem dat_tup {m : MH} {n : Nat} {xs : List MV} {d : PyData} (h : dat m (n + 1) (.tup xs) = some d) : ∃ ds, d = .tuple ds ∧ optAll (dat m n) xs = some ds := by
  unfold dat at h
  cases e2 : optAll (dat m n) xs with
  | none => rw [e2] at h; cases h
  | some ds =>
    rw [e2] at h
    cases h
    exact ⟨ds, rfl, rfl⟩
/-- how a datum looks -/
inductive Sh (m : MH) (n : Nat) : MV → PyData → Prop where
  | non : Sh m n .non .none
  | bl (b : Bool) : Sh m n (.bl b) (.bool b)
  | int (i : Int) : Sh m n (.int i) (.int i)
  | str (s : List Nat) : Sh m n (.str s) (.str ⟨s.toArray⟩)
  | lst (k : Nat) (hk : n = k + 1) (i : Nat) (xs : List MV) (ds : List PyData) (h1 : m.get i = some (.lst xs)) (h2 : optAll (dat m k) xs = some ds) : Sh m n (.ref i) (.list ds)
  | tup (k : Nat) (hk : n = k + 1) (xs : List MV) (ds : List PyData) (h2 : optAll (dat m k) xs = some ds) : Sh m n (.tup xs) (.tuple ds)
theorem dat_sh {m : MH} {n : Nat} {x : MV} {d : PyData} (h : dat m n x = some d) : Sh m n x d := by
  cases x with
  | non => cases n <;> (cases h; exact .non)
  | bl b => cases n <;> (cases h; exact .bl b)
  | int i => cases n <;> (cases h; exact .int i)
  | str s => cases n <;> (cases h; exact .str s)
  | ref i => cases n with
    | zero => cases h
    | succ n =>
      obtain ⟨xs, ds, h1, rfl, h2⟩ := dat_ref h
      exact .lst n rfl i xs ds h1 h2
  | tup xs => cases n with
    | zero => cases h
    | succ n =>
      obtain ⟨ds, rfl, h2⟩ := dat_tup h
      exact .tup n rfl xs ds h2
  | fn g => cases n <;> cases h
  | scr => cases n <;> cases h
theorem eqM_ok (m : MH) : ∀ (n : Nat) (x y : MV) (d e : PyData), dat m n x = some d → dat m n y = some e → eqM m n x y = PyData.eqv d e
  | n, x, y, d, e, h1, h2 => by
    cases dat_sh h1 with
    | non => cases dat_sh h2 <;> first | (cases n <;> rfl) | (rename_i hk _ _ _ _ _; subst hk; rfl) | (rename_i hk _ _ _; subst hk; rfl)
    | bl b => cases dat_sh h2 <;> first | (cases n <;> rfl) | (rename_i hk _ _ _ _ _; subst hk; rfl) | (rename_i hk _ _ _; subst hk; rfl)
    | int i => cases dat_sh h2 <;> first | (cases n <;> rfl) | (rename_i hk _ _ _ _ _; subst hk; rfl) | (rename_i hk _ _ _; subst hk; rfl)
    | str s =>
      cases dat_sh h2 with
      | str z =>
        rw [PyData.eqv, str_beq]
        cases n <;> rfl
      | lst k hk => subst hk; rfl
      | tup k hk => subst hk; rfl
      | _ => cases n <;> rfl
    | lst k hk i xs ds g1 g2 =>
      subst hk
      cases dat_sh h2 with
      | lst k2 hk2 j ys es q1 q2 =>
        cases hk2
        rw [PyData.eqv]
        unfold eqM
        rw [g1, q1]
        exact eqL_ok (fun x y d e => eqM_ok m k x y d e) g2 q2
      | _ => rfl
    | tup k hk xs ds g2 =>
      subst hk
      cases dat_sh h2 with
      | tup k2 hk2 ys es q2 =>
        cases hk2
        rw [PyData.eqv]
        unfold eqM
        exact eqL_ok (fun x y d e => eqM_ok m k x y d e) g2 q2
      | _ => rfl
section
variable {G : Gl} {W : Wi} {r : Nat → Addr} {m : MH} {H : Hp} {X0 : Cx}
theorem dpAll_of {f : MV → Option PyData} (h : ∀ x v d, f x = some d → RV G r m.n H x v → Dp G.K H v d) : ∀ {xs : List MV} {vs : List V} {ds : List PyData}, optAll f xs = some ds → RVs G r m.n H xs vs → DpAll G.K H vs ds
  | [], vs, ds, h1, h2 => by
    cases h1
    rw [RVs] at h2
    subst h2
    exact .nil
  | x :: xs, vs, ds, h1, h2 => by
    obtain ⟨d, es, rfl, q1, q2⟩ := optAll_cons h1
    rw [RVs] at h2
    obtain ⟨v, ws, rfl, p1, p2⟩ := h2
    exact .cons (h x v d q1 p1) (dpAll_of h q2 p2)
theorem dp_of (w : Wd G r m H) : ∀ (n : Nat) (x : MV) (v : V) (d : PyData), dat m n x = some d → RV G r m.n H x v → Dp G.K H v d
  | n, x, v, d, h, p => by
    cases dat_sh h with
    | non => rw [RV] at p; subst p; exact .non
    | bl b => rw [RV] at p; subst p; exact .bl b
    | int i => rw [RV] at p; subst p; exact .int i
    | str s => rw [RV] at p; subst p; exact .str _
    | lst k hk i xs ds h1 h2 =>
      subst hk
      rw [RV] at p
      obtain ⟨_, rfl⟩ := p
      obtain ⟨vs, q1, q2⟩ := w.sqL h1
      exact .lst q1 (dpAll_of (fun x v d => dp_of w k x v d) h2 q2)
    | tup k hk xs ds h2 =>
      subst hk
      rw [RV] at p
      obtain ⟨a, vs, rfl, q1, q2⟩ := p
      exact .tup q1 (dpAll_of (fun x v d => dp_of w k x v d) h2 q2)
theorem shaped_of {n : Nat} {d : PyData} (h1 : d.canLay0 = true) (h2 : d.depth ≤ n) (hn : n ≤ 64) : SeqAt.shaped d = true := by
  unfold SeqAt.shaped
  rw [h1, Bool.true_and]
  exact decide_eq_true (Nat.le_trans h2 hn)
/-- == on values, None where it isn't told -/
def eqV (x y : MV) (m : MH) : Option Bool := if okM m 40 x && okM m 40 y then some (eqM m 40 x y) else none
def isV (x y : MV) : Option Bool := match x, y with
  | .non, .non => some true
  | .bl a, .bl b => some (a == b)
  | x, .non => match x with
    | .fn _ => none
    | _ => some false
  | _, _ => none
def ltL : List Nat → List Nat → Bool
  | _, [] => false
  | [], _ :: _ => true
  | a :: r, b :: s => if Nat.beq a b then ltL r s else Nat.blt a b
def inV' (x y : MV) (m : MH) : Option Bool := match y with
  | .str s => match x with
    | .str [c] => some (s.any fun d => Nat.beq d c)
    | _ => none
  | .tup ys => if okM m 40 x && ys.all (okM m 40) then some (ys.any fun z => eqM m 40 z x) else none
  | .ref i => match m.get i with
    | some (.lst ys) => if okM m 40 x && ys.all (okM m 40) then some (ys.any fun z => eqM m 40 z x) else none
    | some (.dct _ kvs) => if keyB x then some (dGet kvs x).isSome else none
    | _ => none
  | _ => none
def optB (o : Option Bool) (f : Bool → Bool) (m : MH) : R MV := match o with
  | some b => .ok (.bl (f b)) m
  | none => .bad
def cmpV (op : CmpOp) (x y : MV) (m : MH) : R MV := match op with
  | .Eq => optB (eqV x y m) (fun b => b) m
  | .NotEq => optB (eqV x y m) (fun b => !b) m
  | .Is => optB (isV x y) (fun b => b) m
  | .IsNot => optB (isV x y) (fun b => !b) m
  | .In => optB (inV' x y m) (fun b => b) m
  | .NotIn => optB (inV' x y m) (fun b => !b) m
  | .Lt => match x, y with
    | .int i, .int j => .ok (.bl (decide (i < j))) m
    | .str a, .str b => .ok (.bl (ltL a b)) m
    | _, _ => .bad
  | .LtE => match x, y with
    | .int i, .int j => .ok (.bl (decide (i ≤ j))) m
    | .str a, .str b => .ok (.bl (!ltL b a)) m
    | _, _ => .bad
  | .Gt => match x, y with
    | .int i, .int j => .ok (.bl (decide (j < i))) m
    | .str a, .str b => .ok (.bl (ltL b a)) m
    | _, _ => .bad
  | .GtE => match x, y with
    | .int i, .int j => .ok (.bl (decide (j ≤ i))) m
    | .str a, .str b => .ok (.bl (!ltL a b)) m
    | _, _ => .bad
theorem go_optB {Q : VK} (w : Wd G r m H) {o : Option Bool} {f : Bool → Bool} (g : Go G W (vQ G Q) r m H (optB o f m)) : ∃ b, o = some b ∧ Q (.bl (f b)) H := by
  cases o with
  | none => exact g.elim
  | some b => exact ⟨b, rfl, go_val w rv_bl g⟩
theorem eqV_ok (w : Wd G r m H) {x y : MV} {v u : V} {b : Bool} (px : RV G r m.n H x v) (py : RV G r m.n H y u) (h : eqV x y m = some b) : ∃ d e, Dp G.K H v d ∧ Dp G.K H u e ∧ SeqAt.shaped d = true ∧ SeqAt.shaped e = true ∧ b = PyData.eqv d e := by
  unfold eqV at h
  by_cases hc : (okM m 40 x && okM m 40 y) = true
  · rw [if_pos hc] at h
    cases h
    obtain ⟨c1, c2⟩ := Bool.and_eq_true_iff.mp hc
    obtain ⟨d, h1, h2, h3⟩ := okM_ok m 40 x c1
    obtain ⟨e, g1, g2, g3⟩ := okM_ok m 40 y c2
    exact ⟨d, e, dp_of w 40 x v d h1 px, dp_of w 40 y u e g1 py, shaped_of h2 h3 (by decide), shaped_of g2 g3 (by decide), eqM_ok m 40 x y d e h1 g1⟩
  · rw [if_neg hc] at h
    cases h
theorem cps_str (a : List Nat) : (⟨a.toArray⟩ : Str).cps.toList = a := by simp
theorem ltL_ok : ∀ a b : List Nat, ltL a b = decide (a < b)
  | [], [] => by simp [ltL]
  | _ :: _, [] => by simp [ltL]
  | [], _ :: _ => by simp [ltL]
  | a :: r, b :: s => by
    rw [ltL]
    by_cases h : a = b
    · subst h
      rw [if_pos (Nat.beq_refl a), ltL_ok r s]
      exact decide_eq_decide.mpr (by simp)
    · rw [if_neg (by intro e; exact h (Nat.eq_of_beq_eq_true e))]
      by_cases h2 : a < b
      · have e1 : Nat.blt a b = true := Nat.ble_eq_true_of_le h2
        rw [e1]
        exact (decide_eq_true (List.cons_lt_cons_iff.mpr (.inl h2))).symm
      · have e1 : Nat.blt a b = false := by
          cases e : Nat.blt a b with
          | false => rfl
          | true => exact absurd (Nat.le_of_ble_eq_true (show Nat.ble (a + 1) b = true from e)) h2
        rw [e1]
        refine (decide_eq_false fun e => ?_).symm
        rcases List.cons_lt_cons_iff.mp e with e | e
        · exact h2 e
        · exact h e.1
theorem any_ok {f : MV → Option PyData} {g : MV → Bool} {p : PyData → Bool} (h : ∀ x d, f x = some d → g x = p d) : ∀ {xs : List MV} {ds : List PyData}, optAll f xs = some ds → xs.any g = ds.any p
  | [], ds, e => by
    cases e
    rfl
  | x :: xs, ds, e => by
    obtain ⟨d, es, rfl, q1, q2⟩ := optAll_cons e
    rw [List.any_cons, List.any_cons, h x d q1, any_ok h q2]
/-- x in a tuple, a list of data -/
theorem items_ok (w : Wd G r m H) {x : MV} {v : V} {ys : List MV} {vs : List V} (px : RV G r m.n H x v) (py : RVs G r m.n H ys vs) (h : (okM m 40 x && ys.all (okM m 40)) = true) :
    ∃ d ds, Dp G.K H v d ∧ DpAll G.K H vs ds ∧ SeqAt.shaped d = true ∧ PyData.canLayAll0 ds = true ∧ PyData.depthAll ds ≤ 40 ∧ (ys.any fun z => eqM m 40 z x) = ds.any fun z => PyData.eqv z d := by
  obtain ⟨c1, c2⟩ := Bool.and_eq_true_iff.mp h
  obtain ⟨d, h1, h2, h3⟩ := okM_ok m 40 x c1
  obtain ⟨ds, g1, g2, g3⟩ := optAll_ex (f := dat m 40) (okM_ok m 40) c2
  exact ⟨d, ds, dp_of w 40 x v d h1 px, dpAll_of (fun x v d => dp_of w 40 x v d) g1 py, shaped_of h2 h3 (by decide), g2, g3, any_ok (fun z e q => eqM_ok m 40 z x e d q h1) g1⟩
theorem inV_ok {op : CmpOp} {f : Bool → Bool} (hop : (op = .In ∧ f = fun b => b) ∨ (op = .NotIn ∧ f = fun b => !b)) (hK : X0.K = G.K) (hu : X0.A.units + 65 < cLine) : OpR X0 (compareOp op) (rS G W fun x y m => optB (inV' x y m) f m) := by
  intro pins s σ H v u v' u' Q I rx ry h
  obtain ⟨r, m, x, y, w, px, py, g⟩ := h
  obtain ⟨b, e, q⟩ := go_optB w g
  cases y with
  | str t =>
    rw [RV] at py
    subst py
    cases x with
    | str a =>
      rw [RV] at px
      subst px
      cases a with
      | nil => cases e
      | cons c a => cases a with
        | cons _ _ => cases e
        | nil =>
          have e : some (t.any fun d => Nat.beq d c) = some b := e
          cases e
          have hb : (t.any fun d => Nat.beq d c) = decide (c ∈ (⟨t.toArray⟩ : Str).cps.toList) := by
            rw [cps_str]
            by_cases hc : c ∈ t
            · rw [decide_eq_true hc]
              exact List.any_eq_true.mpr ⟨c, hc, Nat.beq_refl c⟩
            · rw [decide_eq_false hc]
              refine Bool.eq_false_iff.mpr fun z => hc ?_
              obtain ⟨d, hd, z⟩ := List.any_eq_true.mp z
              rw [← Nat.eq_of_beq_eq_true z]
              exact hd
          rw [hb] at q
          rcases hop with ⟨rfl, rfl⟩ | ⟨rfl, rfl⟩
          · exact op_in_sign pins s σ H _ _ _ _ Q I rx ry ⟨c, _, rfl, rfl, q⟩
          · exact op_notIn_sign pins s σ H _ _ _ _ Q I rx ry ⟨c, _, rfl, rfl, q⟩
    | _ => cases e
  | tup ys =>
    rw [RV] at py
    obtain ⟨a, vs, rfl, hs, py⟩ := py
    dsimp only [inV'] at e
    by_cases hc : (okM m 40 x && ys.all (okM m 40)) = true
    · rw [if_pos hc] at e
      cases e
      obtain ⟨d, ds, h1, h2, h3, h4, h5, h6⟩ := items_ok w px py hc
      rw [h6] at q
      rw [← hK] at h1 h2 hs
      obtain ⟨as, r1⟩ := Dp.reads I d v v' h1 rx
      obtain ⟨bs, r2⟩ := Dp.reads I (.tuple ds) _ u' (.tup hs h2) ry
      rcases hop with ⟨rfl, rfl⟩ | ⟨rfl, rfl⟩
      · exact SeqAt.in_tuple_reads r2 r1 h4 (SeqAt.canLay_of_shaped h3) (room_in_shaped h3 hu) ⟨.bl _, H, I, rfl, q⟩
      · exact SeqAt.notIn_tuple_reads r2 r1 h4 (SeqAt.canLay_of_shaped h3) (room_in_shaped h3 hu) ⟨.bl _, H, I, rfl, q⟩
    · rw [if_neg hc] at e
      cases e
  | ref i =>
    rw [RV] at py
    obtain ⟨hi, rfl⟩ := py
    dsimp only [inV'] at e
    cases e1 : m.get i with
    | none => rw [e1] at e; cases e
    | some o =>
      rw [e1] at e
      cases o with
      | lst ys =>
        obtain ⟨vs, hs, py⟩ := w.sqL e1
        dsimp only at e
        by_cases hc : (okM m 40 x && ys.all (okM m 40)) = true
        · rw [if_pos hc] at e
          cases e
          obtain ⟨d, ds, h1, h2, h3, h4, h5, h6⟩ := items_ok w px py hc
          rw [h6] at q
          rw [← hK] at h1 h2 hs
          obtain ⟨as, r1⟩ := Dp.reads I d v v' h1 rx
          obtain ⟨bs, r2⟩ := Dp.reads I (.list ds) _ u' (.lst hs h2) ry
          rcases hop with ⟨rfl, rfl⟩ | ⟨rfl, rfl⟩
          · exact SeqAt.in_list_reads r2 r1 h4 (SeqAt.canLay_of_shaped h3) (room_in_shaped h3 hu) ⟨.bl _, H, I, rfl, q⟩
          · exact SeqAt.notIn_list_reads r2 r1 h4 (SeqAt.canLay_of_shaped h3) (room_in_shaped h3 hu) ⟨.bl _, H, I, rfl, q⟩
        · rw [if_neg hc] at e
          cases e
      | dct lk kvs =>
        dsimp only at e
        by_cases hc : keyB x = true
        · rw [if_pos hc] at e
          cases e
          obtain ⟨k, hk⟩ := keyOf_ok hc
          obtain ⟨ws, p, nd, rd, _⟩ := w.dct e1
          have hv := keyOf_rv hk px
          have hu1 : X0.A.units + 1 < cLine := by omega
          have look := dGet_ok hk p
          have es : (dGet kvs x).isSome = (valV ws k).isSome := by
            cases d : dGet kvs x with
            | none => rw [d] at look; rw [show valV ws k = none from look] <;> rfl
            | some z =>
              rw [d] at look
              obtain ⟨u, hu, _⟩ := look
              rw [hu] <;> rfl
          rw [es] at q
          subst hv
          cases (show u' = Value.ref (r i) from ry)
          have dg : DGet H (r i) (kV k) (valV ws k) := .inl ⟨ws, k, rd, rfl, rfl⟩
          rcases hop with ⟨rfl, rfl⟩ | ⟨rfl, rfl⟩
          · exact d_in hu1 I dg rx fun s3 I3 => ⟨.bl _, H, I3, rfl, q⟩
          · exact d_notIn hu1 I dg rx fun s3 I3 => ⟨.bl _, H, I3, rfl, q⟩
        · rw [if_neg hc] at e
          cases e
      | _ => cases e
  | _ => cases e
theorem isV_ok {op : CmpOp} {f : Bool → Bool} (hop : (op = .Is ∧ f = fun b => b) ∨ (op = .IsNot ∧ f = fun b => !b)) : OpR X0 (compareOp op) (rS G W fun x y m => optB (isV x y) f m) := by
  intro pins s σ H v u v' u' Q I rx ry h
  obtain ⟨r, m, x, y, w, px, py, g⟩ := h
  obtain ⟨b, e, q⟩ := go_optB w g
  cases y with
  | non =>
    rw [RV] at py
    subst py
    have hb : b = decide (v = V.non) := by
      cases x with
      | non => rw [RV] at px; subst px; cases e; rfl
      | bl _ => rw [RV] at px; subst px; cases e; rfl
      | int _ => rw [RV] at px; subst px; cases e; rfl
      | str _ => rw [RV] at px; subst px; cases e; rfl
      | ref _ => rw [RV] at px; obtain ⟨_, rfl⟩ := px; cases e; rfl
      | tup _ => rw [RV] at px; obtain ⟨_, _, rfl, _⟩ := px; cases e; rfl
      | fn _ => cases e
      | scr => rw [RV] at px; subst px; cases e; rfl
    subst hb
    rcases hop with ⟨rfl, rfl⟩ | ⟨rfl, rfl⟩
    · exact op_isN pins s σ H _ _ _ _ Q I rx ry ⟨rfl, q⟩
    · exact op_notN pins s σ H _ _ _ _ Q I rx ry ⟨rfl, q⟩
  | bl c =>
    cases x with
    | bl a =>
      rw [RV] at px py
      subst px py
      have e : some (a == c) = some b := e
      cases e
      have hb : (a == c) = decide (a = c) := by cases a <;> cases c <;> rfl
      rw [hb] at q
      rcases hop with ⟨rfl, rfl⟩ | ⟨rfl, rfl⟩
      · exact op_isBl pins s σ H _ _ _ _ Q I rx ry ⟨_, _, rfl, rfl, q⟩
      · exact op_notBl pins s σ H _ _ _ _ Q I rx ry ⟨_, _, rfl, rfl, q⟩
    | _ => cases e
  | _ => cases x <;> cases e
theorem ok_cmpV (hK : X0.K = G.K) (hu : X0.A.units + 65 < cLine) (op : CmpOp) : OpR X0 (compareOp op) (rS G W (cmpV op)) := by
  cases op with
  | In => exact inV_ok (.inl ⟨rfl, rfl⟩) hK hu
  | NotIn => exact inV_ok (.inr ⟨rfl, rfl⟩) hK hu
  | Is => exact isV_ok (.inl ⟨rfl, rfl⟩)
  | IsNot => exact isV_ok (.inr ⟨rfl, rfl⟩)
  | Eq =>
    intro pins s σ H v u v' u' Q I rx ry h
    obtain ⟨r, m, x, y, w, px, py, g⟩ := h
    obtain ⟨b, e, q⟩ := go_optB w g
    obtain ⟨d, z, h1, h2, h3, h4, rfl⟩ := eqV_ok w px py e
    rw [← hK] at h1 h2
    exact op_eqD (by omega) pins s σ H _ _ _ _ Q I rx ry ⟨d, z, h1, h2, h3, h4, q⟩
  | NotEq =>
    intro pins s σ H v u v' u' Q I rx ry h
    obtain ⟨r, m, x, y, w, px, py, g⟩ := h
    obtain ⟨b, e, q⟩ := go_optB w g
    obtain ⟨d, z, h1, h2, h3, h4, rfl⟩ := eqV_ok w px py e
    rw [← hK] at h1 h2
    exact op_neD (by omega) pins s σ H _ _ _ _ Q I rx ry ⟨d, z, h1, h2, h3, h4, q⟩
  | Lt =>
    intro pins s σ H v u v' u' Q I rx ry h
    obtain ⟨r, m, x, y, w, px, py, g⟩ := h
    cases x <;> cases y <;> first | exact g.elim | skip
    · rw [RV] at px py; subst px py
      exact op_lt pins s σ H _ _ _ _ Q I rx ry ⟨_, _, rfl, rfl, go_val w rv_bl g⟩
    · rw [RV] at px py; subst px py
      refine op_lt_str pins s σ H _ _ _ _ Q I rx ry ⟨_, _, rfl, rfl, ?_⟩
      rw [cps_str, cps_str, ← ltL_ok]
      exact go_val w rv_bl g
  | LtE =>
    intro pins s σ H v u v' u' Q I rx ry h
    obtain ⟨r, m, x, y, w, px, py, g⟩ := h
    cases x <;> cases y <;> first | exact g.elim | skip
    · rw [RV] at px py; subst px py
      exact op_le pins s σ H _ _ _ _ Q I rx ry ⟨_, _, rfl, rfl, go_val w rv_bl g⟩
    · rw [RV] at px py; subst px py
      refine op_le_str pins s σ H _ _ _ _ Q I rx ry ⟨_, _, rfl, rfl, ?_⟩
      rw [cps_str, cps_str, ← ltL_ok]
      exact go_val w rv_bl g
  | Gt =>
    intro pins s σ H v u v' u' Q I rx ry h
    obtain ⟨r, m, x, y, w, px, py, g⟩ := h
    cases x <;> cases y <;> first | exact g.elim | skip
    · rw [RV] at px py; subst px py
      exact op_gt pins s σ H _ _ _ _ Q I rx ry ⟨_, _, rfl, rfl, go_val w rv_bl g⟩
    · rw [RV] at px py; subst px py
      refine op_gt_str pins s σ H _ _ _ _ Q I rx ry ⟨_, _, rfl, rfl, ?_⟩
      rw [cps_str, cps_str, ← ltL_ok]
      exact go_val w rv_bl g
  | GtE =>
    intro pins s σ H v u v' u' Q I rx ry h
    obtain ⟨r, m, x, y, w, px, py, g⟩ := h
    cases x <;> cases y <;> first | exact g.elim | skip
    · rw [RV] at px py; subst px py
      exact op_ge pins s σ H _ _ _ _ Q I rx ry ⟨_, _, rfl, rfl, go_val w rv_bl g⟩
    · rw [RV] at px py; subst px py
      refine op_ge_str pins s σ H _ _ _ _ Q I rx ry ⟨_, _, rfl, rfl, ?_⟩
      rw [cps_str, cps_str, ← ltL_ok]
      exact go_val w rv_bl g
end
end
end Dv
/-! Dv6: and, or, not, if; argument lists, displays, subscripts, slices. -/
namespace Dv
noncomputable section
open PySem L2 PyProof.Rows
section
variable {G : Gl} {W : Wi} {X0 : Cx}
/-- the wish of a truth value -/
abbrev bQ (Q : Bool → Hp → Prop) : (Nat → Addr) → MH → Hp → Bool → Prop := fun _ _ H' b => Q b H'
/-- starting again from a state -/
theorem tE_at {f : X} {σ : L2.St} {H : Hp} {Q : VK} {r : Nat → Addr} {m : MH} {s : St} (w : Wd G r m H) (q : RS G r m.n H s σ) (g : Go G W (vQ G Q) r m H (f s m)) : tE G W f σ H Q := ⟨r, m, s, w, q, g⟩
/-! ### not, and, or -/
def xNotT (t : XB) : XB := fun s m => (t s m).bind fun b m1 => .ok (!b) m1
def xNot (a : X) : X := fun s m => (a s m).bind fun v m1 => (truV v m1).bind fun b m2 => .ok (.bl (!b)) m2
theorem ok_notT {a : Expr} {t : XB} {pos : Pos} (ha : OkT G W X0 a t) : OkT G W X0 (.UnaryOp .Not a pos) (xNotT t) := by
  refine pt_of (pt_not ha) fun σ H Q h => ?_
  obtain ⟨r, m, s, w, q, g⟩ := h
  exact ⟨r, m, s, w, q, (Go.bind g).mono fun r1 m1 H1 b u1 w1 g1 => Go.ok w1 g1⟩
theorem ok_not {a : Expr} {f : X} {pos : Pos} (hK : X0.K = G.K) (ha : OkE G W X0 a f) : OkE G W X0 (.UnaryOp .Not a pos) (xNot f) := by
  refine pe_of (pe_notT ha) fun σ H Q h => ?_
  obtain ⟨r, m, s, w, q, g⟩ := h
  refine ⟨r, m, s, w, q, (Go.bind g).mono fun r1 m1 H1 x u1 w1 g1 v p => ?_⟩
  rw [hK]
  obtain ⟨b, hb, g2⟩ := go_truV w1 p (Go.bind g1)
  exact ⟨b, hb, go_val w1 rv_bl g2⟩
/-- and (c = true), or: the value -/
def bopV (c : Bool) : List X → X
  | [] => fun _ _ => .bad
  | [f] => f
  | f :: g :: r => fun s m => (f s m).bind fun x m1 => (truV x m1).bind fun b m2 => if b == c then bopV c (g :: r) s m2 else .ok x m2
/-- .. the test -/
def bopT (c : Bool) : List XB → XB
  | [] => fun _ _ => .bad
  | [f] => f
  | f :: g :: r => fun s m => (f s m).bind fun b m2 => if b == c then bopT c (g :: r) s m2 else .ok b m2
/-- expressions and what they do, one by one -/
inductive OkL (G : Gl) (W : Wi) (X0 : Cx) : List Expr → List X → Prop where
  | nil : OkL G W X0 [] []
  | cons {e : Expr} {es : List Expr} {f : X} {fs : List X} : OkE G W X0 e f → OkL G W X0 es fs → OkL G W X0 (e :: es) (f :: fs)
inductive OkLT (G : Gl) (W : Wi) (X0 : Cx) : List Expr → List XB → Prop where
  | nil : OkLT G W X0 [] []
  | cons {e : Expr} {es : List Expr} {f : XB} {fs : List XB} : OkT G W X0 e f → OkLT G W X0 es fs → OkLT G W X0 (e :: es) (f :: fs)
theorem ok_and (hK : X0.K = G.K) {pos : Pos} : ∀ {es : List Expr} {fs : List X}, OkL G W X0 es fs → es ≠ [] → OkE G W X0 (.BoolOp .And es pos) (bopV true fs)
  | [], _, _, h => absurd rfl h
  | [e], _, .cons he .nil, _ => pe_one he
  | e :: e2 :: es, _, .cons he (.cons h2 hr), _ => by
    refine pe_of (pe_andT he (ok_and hK (.cons h2 hr) (List.cons_ne_nil _ _))) fun σ H Q h => ?_
    obtain ⟨r, m, s, w, q, g⟩ := h
    refine ⟨r, m, s, w, q, (Go.bind g).mono fun r1 m1 H1 x u1 w1 g1 v p => ?_⟩
    rw [hK]
    obtain ⟨b, hb, g2⟩ := go_truV w1 p (Go.bind g1)
    refine ⟨b, hb, ?_⟩
    cases b with
    | true => exact tE_at w1 (q.up u1) g2
    | false => exact go_val w1 p g2
theorem ok_or (hK : X0.K = G.K) {pos : Pos} : ∀ {es : List Expr} {fs : List X}, OkL G W X0 es fs → es ≠ [] → OkE G W X0 (.BoolOp .Or es pos) (bopV false fs)
  | [], _, _, h => absurd rfl h
  | [e], _, .cons he .nil, _ => pe_one he
  | e :: e2 :: es, _, .cons he (.cons h2 hr), _ => by
    refine pe_of (pe_orT he (ok_or hK (.cons h2 hr) (List.cons_ne_nil _ _))) fun σ H Q h => ?_
    obtain ⟨r, m, s, w, q, g⟩ := h
    refine ⟨r, m, s, w, q, (Go.bind g).mono fun r1 m1 H1 x u1 w1 g1 v p => ?_⟩
    rw [hK]
    obtain ⟨b, hb, g2⟩ := go_truV w1 p (Go.bind g1)
    refine ⟨b, hb, ?_⟩
    cases b with
    | true => exact go_val w1 p g2
    | false => exact tE_at w1 (q.up u1) g2
theorem pw_of {e : Expr} {t t' : TT} (h : PW X0 e t) (i : ∀ σ H Q, t' σ H Q → t σ H Q) : PW X0 e t' := ⟨fun wh pins s σ H Q I q => h.run wh pins s σ H Q I (i σ H Q q)⟩
theorem ok_andT {pos : Pos} : ∀ {es : List Expr} {fs : List XB}, OkLT G W X0 es fs → es ≠ [] → PW X0 (.BoolOp .And es pos) (tT G W (bopT true fs))
  | [], _, _, h => absurd rfl h
  | [e], _, .cons he .nil, _ => pw_and1 he
  | e :: e2 :: es, _, .cons he (.cons h2 hr), _ => by
    refine pw_of (pw_and he (ok_andT (.cons h2 hr) (List.cons_ne_nil _ _))) fun σ H Q h => ?_
    obtain ⟨r, m, s, w, q, g⟩ := h
    refine ⟨r, m, s, w, q, (Go.bind g).mono fun r1 m1 H1 b u1 w1 g1 => ?_⟩
    cases b with
    | true => exact ⟨r1, m1, s, w1, q.up u1, g1⟩
    | false => exact Go.ok w1 g1
theorem ok_orT {pos : Pos} : ∀ {es : List Expr} {fs : List XB}, OkLT G W X0 es fs → es ≠ [] → PW X0 (.BoolOp .Or es pos) (tT G W (bopT false fs))
  | [], _, _, h => absurd rfl h
  | [e], _, .cons he .nil, _ => pw_or1 he
  | e :: e2 :: es, _, .cons he (.cons h2 hr), _ => by
    refine pw_of (pw_or he (ok_orT (.cons h2 hr) (List.cons_ne_nil _ _))) fun σ H Q h => ?_
    obtain ⟨r, m, s, w, q, g⟩ := h
    refine ⟨r, m, s, w, q, (Go.bind g).mono fun r1 m1 H1 b u1 w1 g1 => ?_⟩
    cases b with
    | true => exact Go.ok w1 g1
    | false => exact ⟨r1, m1, s, w1, q.up u1, g1⟩
def xIf (t : XB) (a b : X) : X := fun s m => (t s m).bind fun c m1 => if c then a s m1 else b s m1
theorem ok_if {c a b : Expr} {t : XB} {f g : X} {pos : Pos} (hc : OkT G W X0 c t) (ha : OkE G W X0 a f) (hb : OkE G W X0 b g) : OkE G W X0 (.IfExp c a b pos) (xIf t f g) := by
  refine pe_of (pe_ifExp hc ha hb) fun σ H Q h => ?_
  obtain ⟨r, m, s, w, q, g⟩ := h
  refine ⟨r, m, s, w, q, (Go.bind g).mono fun r1 m1 H1 b u1 w1 g1 => ?_⟩
  cases b with
  | true => exact tE_at w1 (q.up u1) g1
  | false => exact tE_at w1 (q.up u1) g1
def negV (v : MV) (m : MH) : R MV := match v with
  | .int i => .ok (.int (-i)) m
  | _ => .bad
def x1 (f : MV → MH → R MV) (a : X) : X := fun s m => (a s m).bind f
theorem ok_neg {a : Expr} {f : X} {pos : Pos} (ha : OkE G W X0 a f) : OkE G W X0 (.UnaryOp .USub a pos) (x1 negV f) := by
  refine pe_of (pe_un un_neg ha) fun σ H Q h => ?_
  obtain ⟨r, m, s, w, q, g⟩ := h
  refine ⟨r, m, s, w, q, (Go.bind g).mono fun r1 m1 H1 x u1 w1 g1 v p => ?_⟩
  cases x with
  | int i =>
    rw [RV] at p
    exact ⟨i, p, go_val w1 rv_int g1⟩
  | _ => exact g1.elim
/-! ### argument lists -/
def notStar : Expr → Bool
  | .Starred _ _ => false
  | _ => true
theorem star_ne {e : Expr} {es : List Expr} {env : Env} (h : notStar e = true) : starEach (e :: es) env = (false, eval e env) :: starEach es env := by
  cases e <;> first | rfl | cases h
theorem plain_of {pos : Pos} {env : Env} : ∀ {es : List Expr}, es.all notStar = true → (backTo pos (starEach es env)).any (·.1) = false
  | [], _ => rfl
  | e :: es, h => by
    rw [List.all_cons, Bool.and_eq_true] at h
    rw [star_ne h.1]
    show (false || (backTo pos (starEach es env)).any (·.1)) = false
    rw [plain_of h.2] <;> rfl
def xArgs : List X → XS
  | [] => fun _ m => .ok [] m
  | f :: r => fun s m => (f s m).bind fun x m1 => (xArgs r s m1).bind fun xs m2 => .ok (x :: xs) m2
/-- the wish of an argument list -/
abbrev aQ (G : Gl) (Q : List V → Hp → Prop) : (Nat → Addr) → MH → Hp → List MV → Prop := fun r' m' H' xs => ∀ vs, RVs G r' m'.n H' xs vs → Q vs H'
theorem ok_args : ∀ {es : List Expr} {fs : List X}, OkL G W X0 es fs → es.all notStar = true → OkA G W X0 es (xArgs fs)
  | [], _, .nil, _ => pa_of pa_nil fun σ H Q h => by
    obtain ⟨r, m, s, w, q, g⟩ := h
    exact Go.ok w g [] RVs.nil
  | e :: es, _, .cons he hr, h => by
    rw [List.all_cons, Bool.and_eq_true] at h
    refine pa_of (pa_cons he (ok_args hr h.2) (star_ne h.1)) fun σ H Q h => ?_
    obtain ⟨r, m, s, w, q, g⟩ := h
    refine ⟨r, m, s, w, q, (Go.bind g).mono fun r1 m1 H1 x u1 w1 g1 v p => ?_⟩
    refine ⟨r1, m1, s, w1, q.up u1, (Go.bind g1).mono fun r2 m2 H2 xs u2 w2 g2 vs p2 => ?_⟩
    exact Go.ok w2 g2 (v :: vs) (RVs.cons (RV.up u2 x v p) p2)
/-- what comes of an argument list -/
def xA (f : List MV → MH → R MV) (a : XS) : X := fun s m => (a s m).bind f
theorem tA_bind {f : List MV → MH → R MV} {a : XS} {σ : L2.St} {H : Hp} {Q : VK} (h : tE G W (xA f a) σ H Q) :
    tA G W a σ H fun vs H1 => ∃ r m xs, Wd G r m H1 ∧ RVs G r m.n H1 xs vs ∧ Go G W (vQ G Q) r m H1 (f xs m) := by
  obtain ⟨r, m, s, w, q, g⟩ := h
  exact ⟨r, m, s, w, q, (Go.bind g).mono fun r1 m1 H1 xs u1 w1 g1 vs p => ⟨r1, m1, xs, w1, p, g1⟩⟩
theorem tA_mono {a : XS} {σ : L2.St} {H : Hp} {Q Q' : List V → Hp → Prop} (h : tA G W a σ H Q) (k : ∀ vs H1, Q vs H1 → Q' vs H1) : tA G W a σ H Q' := by
  obtain ⟨r, m, s, w, q, g⟩ := h
  exact ⟨r, m, s, w, q, g.mono fun r1 m1 H1 xs u1 w1 g1 vs p => k vs H1 (g1 vs p)⟩
theorem tE_mono {a : X} {σ : L2.St} {H : Hp} {Q Q' : VK} (h : tE G W a σ H Q) (k : ∀ v H1, Q v H1 → Q' v H1) : tE G W a σ H Q' := by
  obtain ⟨r, m, s, w, q, g⟩ := h
  exact ⟨r, m, s, w, q, g.mono fun r1 m1 H1 xs u1 w1 g1 vs p => k vs H1 (g1 vs p)⟩
def mkTup (xs : List MV) (m : MH) : R MV := if Nat.ble xs.length big then .ok (.tup xs) m else .bad
def mkLst (xs : List MV) (m : MH) : R MV := if Nat.ble xs.length big then newL xs m else .bad
theorem ok_tup {es : List Expr} {a : XS} {k : Nat} {pos : Pos} (h : OkA G W X0 es a) : OkE G W X0 (.Tuple es k pos) (xA mkTup a) := by
  refine pe_of (pe_tup h) fun σ H Q t => tA_mono (tA_bind t) fun vs H1 ⟨r, m, xs, w, p, g⟩ => ?_
  unfold mkTup at g
  by_cases hz : Nat.ble xs.length big = true
  · rw [if_pos hz] at g
    exact ⟨by rw [← p.length]; exact big_le hz, fun a ha => go_tup w ha p g⟩
  · rw [if_neg hz] at g
    exact g.elim
theorem ok_lst {es : List Expr} {a : XS} {pos : Pos} (h : OkA G W X0 es a) : OkE G W X0 (.List es pos) (xA mkLst a) := by
  refine pe_of (pe_lst h) fun σ H Q t => tA_mono (tA_bind t) fun vs H1 ⟨r, m, xs, w, p, g⟩ => ?_
  unfold mkLst at g
  by_cases hz : Nat.ble xs.length big = true
  · rw [if_pos hz] at g
    exact ⟨by rw [← p.length]; exact big_le hz, fun a ha => go_lst w ha p g⟩
  · rw [if_neg hz] at g
    exact g.elim
/-! ### subscripts, slices -/
def ixV (x y : MV) (m : MH) : R MV := match y with
  | .int i => match x with
    | .ref a => match m.get a with
      | some (.lst xs) => match (ixOf xs.length i).bind (xs[·]?) with
        | some v => .ok v m
        | none => .bad
      | some (.dct _ kvs) => match dGet kvs (.int i) with
        | some v => .ok v m
        | none => .bad
      | _ => .bad
    | .tup xs => match (ixOf xs.length i).bind (xs[·]?) with
      | some v => .ok v m
      | none => .bad
    | .str s => if Nat.ble s.length big then (match (ixOf s.length i).bind (s[·]?) with
      | some c => .ok (.str [c]) m
      | none => .bad) else .bad
    | .scr => match (ixOf m.sc.length i).bind (m.sc[·]?) with
      | some k => .ok (.int k) m
      | none => .bad
    | _ => .bad
  | .str s => match x with
    | .ref a => match m.get a with
      | some (.dct _ kvs) => match dGet kvs (.str s) with
        | some v => .ok v m
        | none => .bad
      | _ => .bad
    | _ => .bad
  | _ => .bad
/-- d[k], the key there -/
theorem ix_dict (hu : X0.A.units + 1 < cLine) : IxR X0 (fun x y H Q => ∃ a v, x = .ref a ∧ DGet H a y (some v) ∧ Q v H) := by
  intro value slice pins s σ H x y v u Q I rx ry h hs
  obtain ⟨a, z, rfl, g, q⟩ := h
  cases (show v = Value.ref a from rx)
  exact tail_any (dict_typeIs I g) PySem.F.slot_dict_getitem.lookup (d_getItem hu I g ry fun w' s3 I3 rw' => ⟨z, H, I3, rw', q⟩) hs
theorem ixOf_eq (n : Nat) (i : Int) : ixOf n i = ixN n i := rfl
theorem at_some {r : Nat → Addr} {n : Nat} {H : Hp} {xs : List MV} {vs : List V} {i : Int} {x : MV} (h : RVs G r n H xs vs) (e : (ixOf xs.length i).bind (xs[·]?) = some x) : ∃ v, atI vs i = some v ∧ RV G r n H x v := by
  unfold atI
  rw [← h.length]
  show ∃ v, ((ixOf xs.length i).bind fun j => vs[j]?) = some v ∧ _
  cases q : ixOf xs.length i with
  | none => rw [q] at e; cases e
  | some j =>
    rw [q] at e
    exact h.get e
def notSlice : Expr → Bool
  | .Slice _ _ none _ => false
  | _ => true
theorem plainIx_of {b : Expr} (h : notSlice b = true) : PlainIx b := by
  intro o i
  unfold subscripted
  cases b <;> first | rfl | skip
  rename_i lo hi st p
  cases st <;> first | rfl | cases h
theorem ok_ixV (hK : X0.K = G.K) (hu : X0.A.units + 1 < cLine) : IxR X0 (rS G W ixV) := by
  intro value slice pins s σ H v u v' u' Q I rx ry h hs
  obtain ⟨r, m, x, y, w, px, py, g⟩ := h
  have dct : ∀ (a : Nat) (lk : Bool) (kvs : List (MV × MV)) (k : Key), x = .ref a → m.get a = some (.dct lk kvs) → keyOf y = some k → Go G W (vQ G Q) r m H (match dGet kvs y with
      | some v => .ok v m
      | none => .bad) → wpAny (model X0.prog X0.w) X0.A (subscriptTail value slice v' u') (EP X0 pins σ Q) X0.xe s := by
    intro a lk kvs k ex e1 hk g2
    subst ex
    rw [RV] at px
    obtain ⟨ha, rfl⟩ := px
    obtain ⟨ws, p, nd, rd, _⟩ := w.dct e1
    have hv := keyOf_rv hk py
    have look := dGet_ok hk p
    cases d : dGet kvs y with
    | none => rw [d] at g2; exact g2.elim
    | some z =>
      rw [d] at g2 look
      obtain ⟨c, hc, pc⟩ := look
      refine ix_dict hu value slice pins s σ H _ _ _ _ Q I rx ry ⟨_, c, rfl, .inl ⟨ws, k, rd, hv, hc.symm⟩, go_val w pc g2⟩ hs
  cases y <;> first | exact g.elim | skip
  rotate_left
  · rename_i t
    cases x <;> first | exact g.elim | skip
    rename_i a
    dsimp only [ixV] at g
    cases e1 : m.get a with
    | none => rw [e1] at g; exact g.elim
    | some o =>
      rw [e1] at g
      cases o <;> first | exact g.elim | skip
      exact dct a _ _ _ rfl e1 rfl g
  rename_i i
  have py0 := py
  rw [RV] at py
  subst py
  cases x <;> first | exact g.elim | skip
  · rename_i t
    rw [RV] at px
    subst px
    dsimp only [ixV] at g
    by_cases hz : Nat.ble t.length big = true
    · rw [if_pos hz] at g
      cases e : (ixOf t.length i).bind (t[·]?) with
      | none => rw [e] at g; exact g.elim
      | some c =>
        rw [e] at g
        refine ix_str value slice pins s σ H _ _ _ _ Q I rx ry ⟨_, i, c, rfl, rfl, ?_, ?_, go_val w rv_str g⟩ hs
        · show t.toArray.size ≤ _
          rw [List.size_toArray]
          exact big_le hz
        · rw [cps_str]
          exact e
    · rw [if_neg hz] at g
      exact g.elim
  · rename_i a
    have px0 := px
    rw [RV] at px
    obtain ⟨ha, rfl⟩ := px
    dsimp only [ixV] at g
    cases e1 : m.get a with
    | none => rw [e1] at g; exact g.elim
    | some o =>
      rw [e1] at g
      cases o <;> first | exact g.elim | exact dct a _ _ _ rfl e1 rfl g | skip
      rename_i xs
      dsimp only at g
      obtain ⟨vs, hs', p⟩ := w.sqL e1
      cases e : (ixOf xs.length i).bind (xs[·]?) with
      | none => rw [e] at g; exact g.elim
      | some z =>
        rw [e] at g
        obtain ⟨vz, hz, pz⟩ := at_some p e
        exact ix_list value slice pins s σ H _ _ _ _ Q I rx ry ⟨_, vs, i, vz, rfl, rfl, by rw [hK]; exact hs', hz, go_val w pz g⟩ hs
  · rename_i xs
    rw [RV] at px
    obtain ⟨a, vs, rfl, hs', p⟩ := px
    dsimp only [ixV] at g
    cases e : (ixOf xs.length i).bind (xs[·]?) with
    | none => rw [e] at g; exact g.elim
    | some z =>
      rw [e] at g
      obtain ⟨vz, hz, pz⟩ := at_some p e
      exact ix_tup value slice pins s σ H _ _ _ _ Q I rx ry ⟨_, vs, i, vz, rfl, rfl, by rw [hK]; exact hs', hz, go_val w pz g⟩ hs
  · rw [RV] at px
    subst px
    dsimp only [ixV] at g
    cases e : (ixOf m.sc.length i).bind (m.sc[·]?) with
    | none => rw [e] at g; exact g.elim
    | some z =>
      rw [e] at g
      refine ix_list value slice pins s σ H _ _ _ _ Q I rx ry ⟨_, _, i, .int z, rfl, rfl, by rw [hK]; exact w.scr.sqL, ?_, go_val w rv_int g⟩ hs
      rw [w.scE] at e
      unfold atI
      rw [List.length_map]
      show ((ixOf G.sn.length i).bind fun j => (G.sn.map V.int)[j]?) = some (V.int z)
      cases q : ixOf G.sn.length i with
      | none => rw [q] at e; cases e
      | some j =>
        rw [q] at e
        have e : G.sn[j]? = some z := e
        show (G.sn.map V.int)[j]? = some (V.int z)
        rw [List.getElem?_map, e] <;> rfl
theorem ok_ix {a b : Expr} {f g : X} {pos : Pos} (hK : X0.K = G.K) (hu : X0.A.units + 1 < cLine) (ha : OkE G W X0 a f) (hb : OkE G W X0 b g) (h : notSlice b = true) : OkE G W X0 (.Subscript a b pos) (xBin ixV f g) :=
  pe_of (pe_ix (ok_ixV hK hu) ha hb (plainIx_of h)) fun _ _ _ t => tOp_of t
end
end
end Dv
/-! Dv7: slices, calls of defs and of built-ins, methods. -/
namespace Dv
noncomputable section
open PySem L2 PyProof.Rows
/-! ### slices -/
abbrev XO := St → MH → R (Option Int)
def tOi (G : Gl) (W : Wi) (f : XO) : TO := fun σ H Q => At G (fun r m s => Go G W (fun _ _ H' o => Q o H') r m H (f s m)) σ H
def asI (v : MV) (m : MH) : R (Option Int) := match v with
  | .int i => .ok (some i) m
  | _ => .bad
def xPart : Option X → XO
  | none => fun _ m => .ok none m
  | some f => fun s m => (f s m).bind asI
def cut {α : Type} (xs : List α) (lo hi : Option Int) : List α := (xs.drop (HT.sIx xs.length 0 lo)).take (HT.sIx xs.length xs.length hi - HT.sIx xs.length 0 lo)
def slV (x : MV) (lo hi : Option Int) (m : MH) : R MV := match x with
  | .str s => if Nat.ble s.length big then .ok (.str (cut s lo hi)) m else .bad
  | .tup xs => .ok (.tup (cut xs lo hi)) m
  | .ref i => match m.get i with
    | some (.lst xs) => newL (cut xs lo hi) m
    | _ => .bad
  | _ => .bad
def xSl (a : X) (lo hi : XO) : X := fun s m => (a s m).bind fun x m1 => (lo s m1).bind fun l m2 => (hi s m2).bind fun h m3 => slV x l h m3
section
variable {G : Gl} {W : Wi} {X0 : Cx}
theorem po_of {e : Option Expr} {t t' : TO} (h : PO X0 e t) (i : ∀ σ H Q, t' σ H Q → t σ H Q) : PO X0 e t' := ⟨fun pins s σ H Q I q => h.run pins s σ H Q I (i σ H Q q)⟩
theorem ok_part0 : PO X0 none (tOi G W (xPart none)) := po_of po_none fun σ H Q h => by
  obtain ⟨r, m, s, w, q, g⟩ := h
  exact Go.ok w g
theorem ok_part1 {e : Expr} {f : X} (h : OkE G W X0 e f) : PO X0 (some e) (tOi G W (xPart (some f))) := po_of (po_some h) fun σ H Q h => by
  obtain ⟨r, m, s, w, q, g⟩ := h
  refine ⟨r, m, s, w, q, (Go.bind g).mono fun r1 m1 H1 x u1 w1 g1 v p => ?_⟩
  cases x with
  | int i =>
    rw [RV] at p
    exact ⟨i, p, Go.ok w1 g1⟩
  | _ => exact g1.elim
theorem RVs.drop {r : Nat → Addr} {n : Nat} {H : Hp} : ∀ {xs : List MV} {vs : List V} (k : Nat), RVs G r n H xs vs → RVs G r n H (xs.drop k) (vs.drop k)
  | xs, vs, 0, h => h
  | [], vs, k + 1, h => by
    rw [RVs] at h
    subst h
    exact RVs.nil
  | x :: xs, vs, k + 1, h => by
    rw [RVs] at h
    obtain ⟨v, ws, rfl, p, q⟩ := h
    exact RVs.drop k q
theorem RVs.take {r : Nat → Addr} {n : Nat} {H : Hp} : ∀ {xs : List MV} {vs : List V} (k : Nat), RVs G r n H xs vs → RVs G r n H (xs.take k) (vs.take k)
  | xs, vs, 0, h => by
    rw [List.take_zero, List.take_zero]
    exact RVs.nil
  | [], vs, k + 1, h => by
    rw [RVs] at h
    subst h
    exact RVs.nil
  | x :: xs, vs, k + 1, h => by
    rw [RVs] at h
    obtain ⟨v, ws, rfl, p, q⟩ := h
    exact RVs.cons p (RVs.take k q)
theorem RVs.cut {r : Nat → Addr} {n : Nat} {H : Hp} {xs : List MV} {vs : List V} (h : RVs G r n H xs vs) (lo hi : Option Int) : RVs G r n H (cut xs lo hi) (cutV vs lo hi) := by
  unfold Dv.cut cutV
  rw [← h.length]
  exact (h.drop _).take _
theorem cut_all {α : Type} {xs : List α} {lo hi : Option Int} (h : HT.sIx xs.length 0 lo = 0 ∧ HT.sIx xs.length xs.length hi = xs.length) : cut xs lo hi = xs := by
  unfold cut
  rw [h.1, h.2, List.drop_zero, Nat.sub_zero, List.take_length]
def rSl (G : Gl) (W : Wi) : V → Option Int → Option Int → Hp → VK → Prop := fun v lo hi H Q => ∃ r m x, Wd G r m H ∧ RV G r m.n H x v ∧ Go G W (vQ G Q) r m H (slV x lo hi m)
theorem ok_slV (hK : X0.K = G.K) : SlR X0 (rSl G W) := by
  intro pins s σ H v v' vl vu lo hi sl Q I rx hs pl pu h
  obtain ⟨r, m, x, w, px, g⟩ := h
  cases x <;> first | exact g.elim | skip
  · rename_i t
    rw [RV] at px
    subst px
    dsimp only [slV] at g
    by_cases hz : Nat.ble t.length big = true
    · rw [if_pos hz] at g
      refine sl_str pins s σ H _ v' vl vu lo hi sl Q I rx hs pl pu ⟨_, rfl, ?_, ?_⟩
      · show t.toArray.size ≤ _
        rw [List.size_toArray]
        exact big_le hz
      · have e : cutS ⟨t.toArray⟩ lo hi = ⟨(cut t lo hi).toArray⟩ := by
          unfold cutS cut
          rw [cps_str]
          show (⟨((t.drop (HT.sIx t.toArray.size 0 lo)).take (HT.sIx t.toArray.size t.toArray.size hi - HT.sIx t.toArray.size 0 lo)).toArray⟩ : Str) = _
          rw [List.size_toArray]
        rw [e]
        exact go_val w rv_str g
    · rw [if_neg hz] at g
      exact g.elim
  · rename_i i
    rw [RV] at px
    obtain ⟨hi', rfl⟩ := px
    dsimp only [slV] at g
    cases e1 : m.get i with
    | none => rw [e1] at g; exact g.elim
    | some o =>
      rw [e1] at g
      cases o <;> first | exact g.elim | skip
      rename_i xs
      dsimp only at g
      obtain ⟨vs, hs', p⟩ := w.sqL e1
      exact sl_list pins s σ H _ v' vl vu lo hi sl Q I rx hs pl pu ⟨_, vs, rfl, by rw [hK]; exact hs', fun a ha => go_lst w ha (p.cut lo hi) g⟩
  · rename_i xs
    have px0 := px
    rw [RV] at px
    obtain ⟨a, vs, rfl, hs', p⟩ := px
    dsimp only [slV] at g
    refine sl_tupA pins s σ H _ v' vl vu lo hi sl Q I rx hs pl pu ⟨_, vs, rfl, by rw [hK]; exact hs', fun e => ?_, fun _ b hb => go_tup w hb (p.cut lo hi) g⟩
    rw [← p.length] at e
    rw [cut_all e] at g
    exact go_val w px0 g
theorem ok_sl {e : Expr} {lo hi : Option Expr} {f : X} {fl fh : XO} {p2 pos : Pos} (hK : X0.K = G.K) (he : OkE G W X0 e f) (hl : PO X0 lo (tOi G W fl)) (hu : PO X0 hi (tOi G W fh)) : OkE G W X0 (.Subscript e (.Slice lo hi none p2) pos) (xSl f fl fh) := by
  refine pe_of (pe_slice (ok_slV (W := W) hK) he hl hu) fun σ H Q h => ?_
  obtain ⟨r, m, s, w, q, g⟩ := h
  refine ⟨r, m, s, w, q, (Go.bind g).mono fun r1 m1 H1 x u1 w1 g1 v p => ?_⟩
  refine ⟨r1, m1, s, w1, q.up u1, (Go.bind g1).mono fun r2 m2 H2 l u2 w2 g2 => ?_⟩
  refine ⟨r2, m2, s, w2, (q.up u1).up u2, (Go.bind g2).mono fun r3 m3 H3 h3 u3 w3 g3 => ?_⟩
  exact ⟨r3, m3, x, w3, RV.up u3 x v (RV.up u2 x v p), g3⟩
/-! ### calls of defs -/
/-- what a def promises, by what it does with our values -/
def spE (G : Gl) (np : Nat) (cl : List MV → MH → R MV) : Sp := fun vs H Q _ => vs.length = np ∧ ∃ r m xs, Wd G r m H ∧ RVs G r m.n H xs vs ∧ Go G noW (vQ G Q) r m H (cl xs m)
theorem tCall_of {np : Nat} {cl : List MV → MH → R MV} {E : XK} {a : XS} {σ : L2.St} {H : Hp} {Q : VK} (hl : ∀ xs m, xs.length ≠ np → cl xs m = .bad) (h : tE G noW (xA cl a) σ H Q) : tCall (spE G np cl) [] E (tA G noW a) σ H Q := by
  refine tA_mono (tA_bind h) fun vs H1 ⟨r, m, xs, w, p, g⟩ => ?_
  rw [List.append_nil]
  refine ⟨?_, r, m, xs, w, p, g⟩
  by_cases e : xs.length = np
  · rw [← p.length, e]
  · rw [hl xs m e] at g
    exact g.elim
theorem ok_call {CX : CXT} {k np : Nat} {f : Addr} {fd : FuncData} {ps : List Str} {cl : List MV → MH → R MV} {x : Str} {p pos : Pos} {e : Expr} {es : List Expr} {a : XS}
    (F : FnOk X0.prog X0.w X0.K X0.mg X0.base CX k f fd ps (spE G np cl)) (hl : ∀ xs m, xs.length ≠ np → cl xs m = .bad) (hr : Room k X0.A) (hg : L2.Gl X0 x) (hm : X0.mg x = some (.ref f)) (hk : PySem.W.keepIn X0.K (.ref f) = true) (hb : Binds X0.K fd ps [])
    (hx : Passes CX X0 fun _ _ _ => False) (ha : OkA G noW X0 (e :: es) a) (hd : (x == ("__debug__" : Str)) = false) (hs : (e :: es).all notStar = true) : OkE G noW X0 (.Call (.Name x p) (e :: es) [] pos) (xA cl a) := by
  rw [List.all_cons, Bool.and_eq_true] at hs
  exact pe_of (pe_call F hr hg hm hk hb .nil hx ha hd (star_ne hs.1) (plain_of hs.2)) fun σ H Q h => tCall_of hl h
theorem ok_call0 {CX : CXT} {k np : Nat} {f : Addr} {fd : FuncData} {ps : List Str} {cl : List MV → MH → R MV} {x : Str} {p pos : Pos}
    (F : FnOk X0.prog X0.w X0.K X0.mg X0.base CX k f fd ps (spE G np cl)) (hl : ∀ xs m, xs.length ≠ np → cl xs m = .bad) (hr : Room k X0.A) (hg : L2.Gl X0 x) (hm : X0.mg x = some (.ref f)) (hk : PySem.W.keepIn X0.K (.ref f) = true) (hb : Binds X0.K fd ps [])
    (hx : Passes CX X0 fun _ _ _ => False) (hd : (x == ("__debug__" : Str)) = false) : OkE G noW X0 (.Call (.Name x p) [] [] pos) (xA cl (xArgs [])) := by
  refine pe_of (pe_call0 F hr hg hm hk hb .nil hx hd) fun σ H Q h => ?_
  have h2 := tCall_of (E := fun _ _ _ => False) hl h
  obtain ⟨r, m, s, w, q, g⟩ := h2
  exact Go.ok w g [] RVs.nil
/-! ### built-ins -/
def rC (G : Gl) (W : Wi) (f : List MV → MH → R MV) : List V → Hp → VK → Prop := fun vs H Q => ∃ r m xs, Wd G r m H ∧ RVs G r m.n H xs vs ∧ Go G W (vQ G Q) r m H (f xs m)
theorem tCB_of {f : List MV → MH → R MV} {a : XS} {σ : L2.St} {H : Hp} {Q : VK} (h : tE G W (xA f a) σ H Q) : tCB (rC G W f) (tA G W a) σ H Q := tA_bind h
theorem ok_callB {f : List MV → MH → R MV} {x : Str} {id : String} {p pos : Pos} {e : Expr} {es : List Expr} {a : XS} (hc : CallR X0 (.builtin id) (rC G W f)) (hg : L2.Gl X0 x) (hm : X0.mg x = none) (hv : bootBuiltins x = some (.builtin id)) (ha : OkA G W X0 (e :: es) a)
    (hn : x ≠ "__name__") (hd : (x == ("__debug__" : Str)) = false) (hs : (e :: es).all notStar = true) : OkE G W X0 (.Call (.Name x p) (e :: es) [] pos) (xA f a) := by
  rw [List.all_cons, Bool.and_eq_true] at hs
  exact pe_of (pe_callB hc hg hm hv ha hn hd (star_ne hs.1) (plain_of hs.2)) fun σ H Q h => tCB_of h
theorem ok_callTy {f : List MV → MH → R MV} {x : Str} {T : String} {p pos : Pos} {e : Expr} {es : List Expr} {a : XS} (hc : CallR X0 (.type T) (rC G W f)) (hg : L2.Gl X0 x) (hm : X0.mg x = none) (hv : bootBuiltins x = some (.type T)) (ha : OkA G W X0 (e :: es) a)
    (hn : x ≠ "__name__") (hd : (x == ("__debug__" : Str)) = false) (hs : (e :: es).all notStar = true) : OkE G W X0 (.Call (.Name x p) (e :: es) [] pos) (xA f a) := by
  rw [List.all_cons, Bool.and_eq_true] at hs
  exact pe_of (pe_callTy hc hg hm hv ha hn hd (star_ne hs.1) (plain_of hs.2)) fun σ H Q h => tCB_of h
theorem rvs1 {r : Nat → Addr} {n : Nat} {H : Hp} {x : MV} {vs : List V} (h : RVs G r n H [x] vs) : ∃ v, vs = [v] ∧ RV G r n H x v := by
  rw [RVs] at h
  obtain ⟨v, ws, rfl, p, q⟩ := h
  rw [RVs] at q
  subst q
  exact ⟨v, rfl, p⟩
theorem rvs2 {r : Nat → Addr} {n : Nat} {H : Hp} {x y : MV} {vs : List V} (h : RVs G r n H [x, y] vs) : ∃ v u, vs = [v, u] ∧ RV G r n H x v ∧ RV G r n H y u := by
  rw [RVs] at h
  obtain ⟨v, ws, rfl, p, q⟩ := h
  obtain ⟨u, rfl, p2⟩ := rvs1 q
  exact ⟨v, u, rfl, p, p2⟩
def lenV (xs : List MV) (m : MH) : R MV := match xs with
  | [.str s] => if Nat.ble s.length big then .ok (.int (Int.ofNat s.length)) m else .bad
  | [.tup ys] => .ok (.int (Int.ofNat ys.length)) m
  | [.ref i] => match m.get i with
    | some (.lst ys) => .ok (.int (Int.ofNat ys.length)) m
    | some (.dct false kvs) => .ok (.int (Int.ofNat kvs.length)) m
    | _ => .bad
  | [.scr] => .ok (.int (Int.ofNat m.sc.length)) m
  | _ => .bad
theorem ok_len (hK : X0.K = G.K) : CallR X0 (.builtin "len") (rC G W lenV) := by
  intro pins s σ H vs us Q I rx h
  obtain ⟨r, m, xs, w, px, g⟩ := h
  cases xs with
  | nil => exact g.elim
  | cons x xs => cases xs with
    | cons _ _ => cases x <;> exact g.elim
    | nil =>
      obtain ⟨v, rfl, p⟩ := rvs1 px
      cases x <;> first | exact g.elim | skip
      · rename_i t
        rw [RV] at p
        subst p
        dsimp only [lenV] at g
        by_cases hz : Nat.ble t.length big = true
        · rw [if_pos hz] at g
          have e : (⟨t.toArray⟩ : Str).length = t.length := List.size_toArray
          refine call_len_str pins s σ H _ us Q I rx ⟨_, rfl, ?_, ?_⟩
          · rw [e]
            exact big_le hz
          · rw [e]
            exact go_val w rv_int g
        · rw [if_neg hz] at g
          exact g.elim
      · rename_i i
        rw [RV] at p
        obtain ⟨hi, rfl⟩ := p
        dsimp only [lenV] at g
        cases e1 : m.get i with
        | none => rw [e1] at g; exact g.elim
        | some o =>
          rw [e1] at g
          cases o <;> first | exact g.elim | skip
          rotate_left
          · rename_i lk kvs
            cases lk with
            | true => exact g.elim
            | false =>
              obtain ⟨ws, p, nd, rd, hd⟩ := w.dct e1
              refine call_lenD pins s σ H _ us Q I rx ⟨_, ws, rfl, hd rfl, ?_⟩
              rw [← p.length]
              exact go_val w rv_int g
          rename_i ys
          obtain ⟨ws, hs, q⟩ := w.sqL e1
          refine call_len_seq pins s σ H _ us Q I rx ⟨_, ws, rfl, .inl (by rw [hK]; exact hs), ?_⟩
          rw [← q.length]
          exact go_val w rv_int g
      · rename_i ys
        rw [RV] at p
        obtain ⟨a, ws, rfl, hs, q⟩ := p
        refine call_len_seq pins s σ H _ us Q I rx ⟨_, ws, rfl, .inr (by rw [hK]; exact hs), ?_⟩
        rw [← q.length]
        exact go_val w rv_int g
      · rw [RV] at p
        subst p
        dsimp only [lenV] at g
        refine call_len_seq pins s σ H _ us Q I rx ⟨_, G.sn.map V.int, rfl, .inl (by rw [hK]; exact w.scr.sqL), ?_⟩
        rw [List.length_map, ← w.scE]
        exact go_val w rv_int g
def bools : List MV → Option (List Bool)
  | [] => some []
  | .bl b :: r => match bools r with
    | some bs => some (b :: bs)
    | none => none
  | _ :: _ => none
theorem bools_ok {r : Nat → Addr} {n : Nat} {H : Hp} : ∀ {xs : List MV} {vs : List V} {bs : List Bool}, RVs G r n H xs vs → bools xs = some bs → vs = bs.map V.bl
  | [], vs, bs, h, e => by
    cases e
    rw [RVs] at h
    exact h
  | x :: xs, vs, bs, h, e => by
    cases x <;> first | (cases e; done) | skip
    rename_i b
    rw [RVs] at h
    obtain ⟨v, ws, rfl, p, q⟩ := h
    rw [RV] at p
    subst p
    rw [bools] at e
    cases e2 : bools xs with
    | none => rw [e2] at e; cases e
    | some cs =>
      rw [e2] at e
      cases e
      rw [bools_ok q e2, List.map_cons]
def allV (f : List Bool → Bool) (xs : List MV) (m : MH) : R MV := match xs with
  | [.ref i] => match m.get i with
    | some (.lst ys) => match bools ys with
      | some bs => .ok (.bl (f bs)) m
      | none => .bad
    | _ => .bad
  | _ => .bad
theorem go_allV {f : List Bool → Bool} {r : Nat → Addr} {m : MH} {H : Hp} {xs : List MV} {vs : List V} {Q : VK} (w : Wd G r m H) (px : RVs G r m.n H xs vs) (g : Go G W (vQ G Q) r m H (allV f xs m)) : ∃ a bs, vs = [V.ref a] ∧ SqL G.K H a (bs.map V.bl) ∧ Q (.bl (f bs)) H := by
  cases xs with
  | nil => exact g.elim
  | cons x xs => cases xs with
    | cons _ _ => cases x <;> exact g.elim
    | nil =>
      obtain ⟨v, rfl, p⟩ := rvs1 px
      cases x <;> first | exact g.elim | skip
      rename_i i
      rw [RV] at p
      obtain ⟨hi, rfl⟩ := p
      dsimp only [allV] at g
      cases e1 : m.get i with
      | none => rw [e1] at g; exact g.elim
      | some o =>
        rw [e1] at g
        cases o <;> first | exact g.elim | skip
        rename_i ys
        dsimp only at g
        cases e2 : bools ys with
        | none => rw [e2] at g; exact g.elim
        | some bs =>
          rw [e2] at g
          obtain ⟨ws, hs, q⟩ := w.sqL e1
          rw [bools_ok q e2] at hs
          exact ⟨_, bs, rfl, hs, go_val w rv_bl g⟩
theorem ok_all (hK : X0.K = G.K) (hc : X0.calm = true) : CallR X0 (.builtin "all") (rC G W (allV fun bs => bs.all id)) := by
  intro pins s σ H vs us Q I rx h
  obtain ⟨r, m, xs, w, px, g⟩ := h
  obtain ⟨a, bs, e, hs, q⟩ := go_allV w px g
  exact cr_all hc pins s σ H vs us Q I rx ⟨a, bs, e, by rw [hK]; exact hs, q⟩
theorem ok_any (hK : X0.K = G.K) (hc : X0.calm = true) : CallR X0 (.builtin "any") (rC G W (allV fun bs => bs.any id)) := by
  intro pins s σ H vs us Q I rx h
  obtain ⟨r, m, xs, w, px, g⟩ := h
  obtain ⟨a, bs, e, hs, q⟩ := go_allV w px g
  exact cr_any hc pins s σ H vs us Q I rx ⟨a, bs, e, by rw [hK]; exact hs, q⟩
def intV (xs : List MV) (m : MH) : R MV := match xs with
  | [.int i] => .ok (.int i) m
  | [.bl b] => .ok (.int (if b then 1 else 0)) m
  | _ => .bad
theorem ok_intT : CallR X0 (.type "int") (rC G W intV) := by
  intro pins s σ H vs us Q I rx h
  obtain ⟨r, m, xs, w, px, g⟩ := h
  cases xs with
  | nil => exact g.elim
  | cons x xs => cases xs with
    | cons _ _ => cases x <;> exact g.elim
    | nil =>
      obtain ⟨v, rfl, p⟩ := rvs1 px
      cases x <;> first | exact g.elim | skip
      · rw [RV] at p
        subst p
        exact call_int1 pins s σ H _ us Q I rx (.inr ⟨_, rfl, go_val w rv_int g⟩)
      · rw [RV] at p
        subst p
        exact call_int1 pins s σ H _ us Q I rx (.inl ⟨_, rfl, go_val w rv_int g⟩)
end
end
end Dv
/-! Dv8: methods of built-in types. -/
namespace Dv
noncomputable section
open PySem L2 PyProof.Rows
section
variable {G : Gl} {W : Wi} {X0 : Cx}
/-- not a call without arguments (super()) -/
def notCall0 : Expr → Bool
  | .Call (.Name _ _) [] [] _ => false
  | _ => true
theorem base_of {o : Expr} {name : Str} {env : Env} {whole : Sem Value} (h : notCall0 o = true) : attributeBase o name env whole = whole := by
  unfold attributeBase
  split
  · cases h
  · rfl
theorem few_of {pos : Pos} {env : Env} : ∀ {es : List Expr}, es.all notStar = true → (backTo pos (starEach es env)).all (fun x => !x.1) = true
  | [], _ => rfl
  | e :: es, h => by
    rw [List.all_cons, Bool.and_eq_true] at h
    rw [star_ne h.1]
    show (true && (backTo pos (starEach es env)).all (fun x => !x.1)) = true
    rw [few_of h.2] <;> rfl
/-- a method of ours: whose kind the receiver must be, what it does -/
def xMeth (ty : MV → MH → Bool) (f : MV → List MV → MH → R MV) (o : X) (a : XS) : X := fun s m => (o s m).bind fun x m1 => if ty x m1 then (a s m1).bind fun xs m2 => f x xs m2 else .bad
def rM (G : Gl) (W : Wi) (f : MV → List MV → MH → R MV) : V → List V → Hp → VK → Prop := fun v vs H Q => ∃ r m x xs, Wd G r m H ∧ RV G r m.n H x v ∧ RVs G r m.n H xs vs ∧ Go G W (vQ G Q) r m H (f x xs m)
def TyOk (G : Gl) (T : String) (ty : MV → MH → Bool) : Prop := ∀ r m H x v, Wd G r m H → RV G r m.n H x v → ty x m = true → tyV G.K T v H
theorem tBM_of {ty : MV → MH → Bool} {f : MV → List MV → MH → R MV} {o : X} {a : XS} {T : String} {σ : L2.St} {H : Hp} {Q : VK} (ht : TyOk G T ty) (h : tE G W (xMeth ty f o a) σ H Q) : tBM G.K T (rM G W f) (tE G W o) (tA G W a) σ H Q := by
  obtain ⟨r, m, s, w, q, g⟩ := h
  refine ⟨r, m, s, w, q, (Go.bind g).mono fun r1 m1 H1 x u1 w1 g1 v p => ?_⟩
  by_cases hc : ty x m1 = true
  · rw [if_pos hc] at g1
    refine ⟨ht r1 m1 H1 x v w1 p hc, r1, m1, s, w1, q.up u1, (Go.bind g1).mono fun r2 m2 H2 xs u2 w2 g2 vs p2 => ?_⟩
    exact ⟨r2, m2, x, xs, w2, RV.up u2 x v p, p2, g2⟩
  · rw [if_neg hc] at g1
    exact g1.elim
theorem ok_meth {ty : MV → MH → Bool} {f : MV → List MV → MH → R MV} {o e : Expr} {es : List Expr} {fo : X} {a : XS} {T id : String} {name : Str} {apos cpos : Pos} (hK : X0.K = G.K) (pa : PlainAttrs T) (slot : Slot T name id) (hty : typeOf (.builtin id) = pure (.type "method_descriptor"))
    (ht : TyOk G T ty) (hm : MtR X0 id (rM G W f)) (ho : OkE G W X0 o fo) (ha : OkA G W X0 (e :: es) a) (hb : notCall0 o = true) (hl : (apos.endLine == cpos.line) = true) (hs : (e :: es).all notStar = true) (hn : decide ((e :: es).length < 30) = true) :
    OkE G W X0 (.Call (.Attribute o name apos) (e :: es) [] cpos) (xMeth ty f fo a) := by
  have hs' := hs
  rw [List.all_cons, Bool.and_eq_true] at hs'
  refine pe_of (pe_bm pa slot hty hm ho ha (base_of hb) ?_ hl (star_ne hs'.1) (plain_of hs'.2)) fun σ H Q h => ?_
  · rw [few_of hs, Bool.true_and]
    have hn := of_decide_eq_true hn
    show (true && decide ((e :: es).length + 0 + 0 < 30)) = true
    rw [Bool.true_and]
    exact decide_eq_true (by omega)
  · rw [hK]
    exact tBM_of ht h
theorem ok_meth0 {ty : MV → MH → Bool} {f : MV → List MV → MH → R MV} {o : Expr} {fo : X} {T id : String} {name : Str} {apos cpos : Pos} (hK : X0.K = G.K) (pa : PlainAttrs T) (slot : Slot T name id) (hty : typeOf (.builtin id) = pure (.type "method_descriptor"))
    (ht : TyOk G T ty) (hm : MtR X0 id (rM G W f)) (ho : OkE G W X0 o fo) (hb : notCall0 o = true) (hl : (apos.endLine == cpos.line) = true) :
    OkE G W X0 (.Call (.Attribute o name apos) [] [] cpos) (xMeth ty f fo (xArgs [])) := by
  refine pe_of (pe_bm0 pa slot hty hm ho (base_of hb) hl) fun σ H Q h => ?_
  rw [hK]
  obtain ⟨r, m, s, w, q, g⟩ := h
  refine ⟨r, m, s, w, q, (Go.bind g).mono fun r1 m1 H1 x u1 w1 g1 v p => ?_⟩
  by_cases hc : ty x m1 = true
  · rw [if_pos hc] at g1
    exact ⟨ht r1 m1 H1 x v w1 p hc, r1, m1, x, [], w1, p, RVs.nil, g1⟩
  · rw [if_neg hc] at g1
    exact g1.elim
def isStr (x : MV) (_ : MH) : Bool := match x with
  | .str _ => true
  | _ => false
def isLst (x : MV) (m : MH) : Bool := match x with
  | .ref i => match m.get i with
    | some (.lst _) => true
    | _ => false
  | _ => false
theorem ty_str : TyOk G "str" isStr := fun r m H x v w p h => by
  cases x <;> first | (cases h; done) | skip
  rw [RV] at p
  subst p
  rfl
theorem ty_lst : TyOk G "list" isLst := fun r m H x v w p h => by
  cases x <;> first | (cases h; done) | skip
  rename_i i
  rw [RV] at p
  obtain ⟨hi, rfl⟩ := p
  unfold isLst at h
  dsimp only at h
  cases e : m.get i with
  | none => rw [e] at h; cases h
  | some o =>
    rw [e] at h
    cases o <;> first | (cases h; done) | skip
    obtain ⟨vs, hs, _⟩ := w.sqL e
    exact .inl ⟨rfl, vs, hs⟩
/-! ### lists -/
def appV (x : MV) (ys : List MV) (m : MH) : R MV := match x, ys with
  | .ref i, [y] => match m.get i with
    | some (.lst xs) => if Nat.blt xs.length big then .ok .non (m.wr i (.lst (xs ++ [y])) y) else .bad
    | _ => .bad
  | _, _ => .bad
theorem ok_app : MtR X0 "list.append" (rM G W appV) := by
  intro pins s σ H v vs v' us Q I rx rs h
  obtain ⟨r, m, x, xs, w, px, ps, g⟩ := h
  cases x <;> first | exact g.elim | skip
  rename_i i
  cases xs with
  | nil => exact g.elim
  | cons y xs => cases xs with
    | cons _ _ => exact g.elim
    | nil =>
      obtain ⟨u, rfl, p⟩ := rvs1 ps
      rw [RV] at px
      obtain ⟨hi, rfl⟩ := px
      dsimp only [appV] at g
      cases e : m.get i with
      | none => rw [e] at g; exact g.elim
      | some o =>
        rw [e] at g
        cases o <;> first | exact g.elim | skip
        rename_i zs
        dsimp only at g
        by_cases hz : Nat.blt zs.length big = true
        · rw [if_pos hz] at g
          obtain ⟨ws, h1, h2⟩ := w.lst e
          have hb : ws.length < sizeLine := by
            rw [← h2.length]
            have := Nat.le_of_ble_eq_true (show Nat.ble (zs.length + 1) big = true from hz)
            exact Nat.lt_of_lt_of_le (Nat.lt_of_succ_le this) (by decide)
          refine mt_append pins s σ H _ _ _ _ Q I rx rs ⟨_, ws, u, rfl, rfl, h1, hb, ?_⟩
          exact g r _ (up_wr h1 hi rfl) (wd_wr w hi h1 (h2.append (RVs.cons p RVs.nil)) e fun l a b => by
            show MV.unders l (zs ++ [y]) = true
            rw [unders_append, show MV.unders l zs = true from a, MV.unders, b] <;> rfl) .non (by rw [RV])
        · rw [if_neg hz] at g
          exact g.elim
def extV (x : MV) (ys : List MV) (m : MH) : R MV := match x, ys with
  | .ref i, [.ref j] => match m.get i with
    | some (.lst xs) => match m.get j with
      | some (.lst zs) => if Nat.ble (xs.length + zs.length) big then .ok .non (m.wr i (.lst (xs ++ zs)) (.tup zs)) else .bad
      | _ => .bad
    | _ => .bad
  | _, _ => .bad
theorem ok_ext : MtR X0 "list.extend" (rM G W extV) := by
  intro pins s σ H v vs v' us Q I rx rs h
  obtain ⟨r, m, x, xs, w, px, ps, g⟩ := h
  cases x <;> first | exact g.elim | skip
  rename_i i
  cases xs with
  | nil => exact g.elim
  | cons y xs => cases xs with
    | cons _ _ => cases y <;> exact g.elim
    | nil =>
      obtain ⟨u, rfl, p⟩ := rvs1 ps
      cases y <;> first | exact g.elim | skip
      rename_i j
      rw [RV] at px p
      obtain ⟨hi, rfl⟩ := px
      obtain ⟨hj, rfl⟩ := p
      dsimp only [extV] at g
      cases e : m.get i with
      | none => rw [e] at g; exact g.elim
      | some o =>
        rw [e] at g
        cases o <;> first | exact g.elim | skip
        rename_i xs
        dsimp only at g
        cases e2 : m.get j with
        | none => rw [e2] at g; exact g.elim
        | some o =>
          rw [e2] at g
          cases o <;> first | exact g.elim | skip
          rename_i zs
          dsimp only at g
          by_cases hz : Nat.ble (xs.length + zs.length) big = true
          · rw [if_pos hz] at g
            obtain ⟨ws, h1, h2⟩ := w.lst e
            obtain ⟨us, h3, h4⟩ := w.lst e2
            refine mt_extend pins s σ H _ _ _ _ Q I rx rs ⟨_, _, ws, us, rfl, rfl, h1, h3, ?_, ?_⟩
            · rw [← h2.length, ← h4.length]
              exact big_le hz
            · exact g r _ (up_wr h1 hi rfl) (wd_wr w hi h1 (h2.append h4) e fun l a b => by
              show MV.unders l (xs ++ zs) = true
              rw [unders_append, show MV.unders l xs = true from a]
              exact b) .non (by rw [RV])
          · rw [if_neg hz] at g
            exact g.elim
/-! ### texts -/
def isPre : List Nat → List Nat → Bool
  | [], _ => true
  | a :: r, b :: s => Nat.beq a b && isPre r s
  | _ :: _, [] => false
def rmpV (x : MV) (ys : List MV) (m : MH) : R MV := match x, ys with
  | .str a, [.str b] => if Nat.ble a.length big then .ok (.str (if isPre b a then a.drop b.length else a)) m else .bad
  | _, _ => .bad
theorem isPre_eq : ∀ (b a : List Nat), isPre b a = (a.take b.length == b)
  | [], a => by simp [isPre]
  | c :: r, [] => by simp [isPre]
  | c :: r, d :: s => by
    rw [isPre, isPre_eq r s, List.length_cons, List.take_succ_cons]
    by_cases h : c = d
    · subst h
      rw [Nat.beq_refl, Bool.true_and]
      by_cases h2 : s.take r.length = r
      · rw [h2, beq_self_eq_true, beq_self_eq_true]
      · rw [beq_eq_false_iff_ne.mpr h2, beq_eq_false_iff_ne.mpr fun z => h2 (List.cons.inj z).2]
    · have h1 : Nat.beq c d = false := by
        cases e : Nat.beq c d with
        | false => rfl
        | true => exact absurd (Nat.eq_of_beq_eq_true e) h
      rw [h1, Bool.false_and, beq_eq_false_iff_ne.mpr fun z => h (List.cons.inj z).1.symm]
theorem arr_beq (a b : List Nat) : (a.toArray == b.toArray) = (a == b) := by
  by_cases h : a = b
  · subst h
    rw [beq_self_eq_true, beq_self_eq_true]
  · have h2 : a.toArray ≠ b.toArray := fun e => h (by
      have := congrArg Array.toList e
      simpa using this)
    rw [beq_eq_false_iff_ne.mpr h, beq_eq_false_iff_ne.mpr h2]
theorem subAt_pre (a b : List Nat) : Builtin.Str.subAt ⟨a.toArray⟩ ⟨b.toArray⟩ 0 = isPre b a := by
  rw [isPre_eq]
  unfold Builtin.Str.subAt
  have e : a.toArray.extract 0 (0 + (⟨b.toArray⟩ : Str).length) = (a.take b.length).toArray := by
    show a.toArray.extract 0 (0 + b.toArray.size) = _
    rw [List.size_toArray, List.extract_toArray]
    simp [List.extract]
  show (a.toArray.extract 0 (0 + (⟨b.toArray⟩ : Str).length) == b.toArray) = _
  rw [e, arr_beq]
theorem rmp_eq (a b : List Nat) : Txt.removeprefix ⟨a.toArray⟩ ⟨b.toArray⟩ = ⟨(if isPre b a then a.drop b.length else a).toArray⟩ := by
  rw [StrLaws.removeprefix_eq, subAt_pre]
  have ea : (⟨a.toArray⟩ : Str).length = a.length := List.size_toArray
  have eb : (⟨b.toArray⟩ : Str).length = b.length := List.size_toArray
  rw [ea, eb]
  cases h : isPre b a with
  | false => rw [Bool.and_false, if_neg Bool.false_ne_true, if_neg Bool.false_ne_true]
  | true =>
    have hl : b.length ≤ a.length := by
      have h2 := subAt_pre a b
      rw [h] at h2
      have h3 := StrLaws.subAt_zero_le h2
      rw [ea, eb] at h3
      exact h3
    rw [decide_eq_true (by omega), Bool.and_true, if_pos rfl, if_pos rfl, cps_str]
    have e : (a.drop b.length).take (a.length - b.length) = a.drop b.length := List.take_of_length_le (by rw [List.length_drop]; exact Nat.le_refl _)
    rw [e]
theorem ok_rmp : MtR X0 "str.removeprefix" (rM G W rmpV) := by
  intro pins s σ H v vs v' us Q I rx rs h
  obtain ⟨r, m, x, xs, w, px, ps, g⟩ := h
  cases x <;> first | exact g.elim | skip
  rename_i a
  cases xs with
  | nil => exact g.elim
  | cons y xs => cases xs with
    | cons _ _ => cases y <;> exact g.elim
    | nil =>
      obtain ⟨u, rfl, p⟩ := rvs1 ps
      cases y <;> first | exact g.elim | skip
      rename_i b
      rw [RV] at px p
      subst px p
      dsimp only [rmpV] at g
      by_cases hz : Nat.ble a.length big = true
      · rw [if_pos hz] at g
        refine mt_removeprefix pins s σ H _ _ _ _ Q I rx rs ⟨_, _, rfl, rfl, ?_, ?_⟩
        · show a.toArray.size ≤ _
          rw [List.size_toArray]
          exact big_le hz
        · rw [rmp_eq]
          exact go_val w rv_str g
      · rw [if_neg hz] at g
        exact g.elim
/-! join -/
def txts : List MV → Option (List (List Nat))
  | [] => some []
  | .str s :: r => match txts r with
    | some ss => some (s :: ss)
    | none => none
  | _ :: _ => none
def joinL (sep : List Nat) : List (List Nat) → List Nat
  | [] => []
  | [x] => x
  | x :: y :: r => x ++ sep ++ joinL sep (y :: r)
def sumL : List (List Nat) → Nat
  | [] => 0
  | x :: r => x.length + sumL r
theorem txts_ok {r : Nat → Addr} {n : Nat} {H : Hp} : ∀ {xs : List MV} {vs : List V} {ss : List (List Nat)}, RVs G r n H xs vs → txts xs = some ss → vs = (ss.map fun s => (⟨s.toArray⟩ : Str)).map V.str
  | [], vs, bs, h, e => by
    cases e
    rw [RVs] at h
    exact h
  | x :: xs, vs, bs, h, e => by
    cases x <;> first | (cases e; done) | skip
    rename_i b
    rw [RVs] at h
    obtain ⟨v, ws, rfl, p, q⟩ := h
    rw [RV] at p
    subst p
    rw [txts] at e
    cases e2 : txts xs with
    | none => rw [e2] at e; cases e
    | some cs =>
      rw [e2] at e
      cases e
      rw [txts_ok q e2, List.map_cons, List.map_cons]
theorem joinL_ok (sep : List Nat) : ∀ ss : List (List Nat), Str.join ⟨sep.toArray⟩ (ss.map fun s => (⟨s.toArray⟩ : Str)) = ⟨(joinL sep ss).toArray⟩
  | [] => rfl
  | [x] => rfl
  | x :: y :: r => by
    rw [List.map_cons, List.map_cons]
    show (⟨x.toArray⟩ : Str) ++ ⟨sep.toArray⟩ ++ Str.join ⟨sep.toArray⟩ ((y :: r).map fun s => (⟨s.toArray⟩ : Str)) = _
    rw [joinL_ok sep (y :: r), str_app, str_app, joinL]
def itemsOf (x : MV) (m : MH) : Option (List MV) := match x with
  | .tup xs => some xs
  | .ref i => match m.get i with
    | some (.lst xs) => some xs
    | _ => none
  | _ => none
theorem items_at {r : Nat → Addr} {m : MH} {H : Hp} (w : Wd G r m H) {x : MV} {v : V} {xs : List MV} (p : RV G r m.n H x v) (e : itemsOf x m = some xs) : ∃ a vs, v = .ref a ∧ (SqL G.K H a vs ∨ SqT G.K H a vs) ∧ RVs G r m.n H xs vs := by
  cases x <;> first | (cases e; done) | skip
  · rename_i i
    rw [RV] at p
    obtain ⟨hi, rfl⟩ := p
    unfold itemsOf at e
    dsimp only at e
    cases e1 : m.get i with
    | none => rw [e1] at e; cases e
    | some o =>
      rw [e1] at e
      cases o <;> first | (cases e; done) | skip
      cases e
      obtain ⟨vs, hs, q⟩ := w.sqL e1
      exact ⟨_, vs, rfl, .inl hs, q⟩
  · rw [RV] at p
    obtain ⟨a, vs, rfl, hs, q⟩ := p
    cases e
    exact ⟨a, vs, rfl, .inr hs, q⟩
def joinV (x : MV) (ys : List MV) (m : MH) : R MV := match x, ys with
  | .str sep, [y] => match itemsOf y m with
    | some xs => match txts xs with
      | some ss => if Nat.ble (sumL ss + ss.length * sep.length) big then .ok (.str (joinL sep ss)) m else .bad
      | none => .bad
    | none => .bad
  | _, _ => .bad
theorem join_eq (a : Str) (ys : List Str) : Txt.join a ys = Str.join a ys := StrLaws.glued_eq_join a ys
theorem sumL_ok : ∀ ss : List (List Nat), ((ss.map fun s => (⟨s.toArray⟩ : Str)).map (·.length)).sum = sumL ss
  | [] => rfl
  | x :: r => by
    rw [List.map_cons, List.map_cons, List.sum_cons, sumL_ok r, sumL]
    show x.toArray.size + _ = _
    rw [List.size_toArray]
theorem ok_join (hK : X0.K = G.K) : MtR X0 "str.join" (rM G W joinV) := by
  intro pins s σ H v vs v' us Q I rx rs h
  obtain ⟨r, m, x, xs, w, px, ps, g⟩ := h
  cases x <;> first | exact g.elim | skip
  rename_i sep
  cases xs with
  | nil => exact g.elim
  | cons y xs => cases xs with
    | cons _ _ => exact g.elim
    | nil =>
      obtain ⟨u, rfl, p⟩ := rvs1 ps
      rw [RV] at px
      subst px
      dsimp only [joinV] at g
      cases e1 : itemsOf y m with
      | none => rw [e1] at g; exact g.elim
      | some xs =>
        rw [e1] at g
        dsimp only at g
        cases e2 : txts xs with
        | none => rw [e2] at g; exact g.elim
        | some ss =>
          rw [e2] at g
          dsimp only at g
          obtain ⟨a, ws, rfl, hs, q⟩ := items_at w p e1
          have e3 := txts_ok q e2
          subst e3
          by_cases hz : Nat.ble (sumL ss + ss.length * sep.length) big = true
          · rw [if_pos hz] at g
            refine mt_join pins s σ H _ _ _ _ Q I rx rs ⟨_, a, _, rfl, rfl, by rw [hK]; exact hs, ?_, ?_⟩
            · rw [sumL_ok, List.length_map]
              show sumL ss + ss.length * sep.toArray.size ≤ _
              rw [List.size_toArray]
              exact big_le hz
            · rw [join_eq, joinL_ok]
              exact go_val w rv_str g
          · rw [if_neg hz] at g
            exact g.elim
end
end
end Dv
/-! Dv9: what is walked: lists, tuples, texts, ranges; zip and enumerate of these. -/
namespace Dv
noncomputable section
open PySem L2 PyProof.Rows
/-- what an iterator walks: the list at a, the tuple at a, a text -/
inductive Pc where
  | l (a : Addr) | t (a : Addr) | s (x : Str)
def chV (c : Nat) : V := .str ⟨#[c]⟩
/-- its values -/
def Pc.is (K : PySem.W.Frag) (p : Pc) (H : Hp) (xs : List V) : Prop := match p with
  | .l a => SqL K H a xs
  | .t a => SqT K H a xs
  | .s x => xs = x.cps.toList.map chV
def Pc.ad : Pc → List Addr
  | .l a => [a]
  | .t a => [a]
  | .s _ => []
def Pc.iter (p : Pc) (it : Addr) (i : Nat) (h : Heap) : Prop := match p with
  | .l a => h.IsListIter it a i
  | .t a => h.IsTupleIter it a i
  | .s x => ∃ t, h.IsStrIter it (strIterType x) x t i
theorem Pc.inj {X : Cx} {pins : List (Addr × Obj)} {σ : L2.St} {H : Hp} {s : Shared} (I : Inv X pins σ H s) {p : Pc} {xs ys : List V} (h : p.is X.K H xs) (g : p.is X.K H ys) : xs = ys := by
  cases p with
  | l a => exact I.list_inj h g
  | t a => exact I.tuple_inj h g
  | s x => exact Eq.trans h (Eq.symm g)
theorem Pc.iter_keep {p : Pc} {it : Addr} {i : Nat} {h h' : Heap} (st : p.iter it i h) (k : ∀ o, h.get? it = some o → h'.get? it = some o) : p.iter it i h' := by
  cases p with
  | l a => exact Heap.IsListIter.at st k
  | t a => exact Heap.IsTupleIter.at st k
  | s x =>
    obtain ⟨t, o, ho, r⟩ := st
    exact ⟨t, o, k o ho, r⟩
theorem Pc.iter_obj {p : Pc} {it : Addr} {i : Nat} {h : Heap} (st : p.iter it i h) : ∃ o, h.get? it = some o ∧ ∀ v, o.data ≠ .cell v := by
  cases p with
  | l a =>
    obtain ⟨o, e, c, d⟩ := st
    exact ⟨o, e, fun v z => by rw [d] at z; cases z⟩
  | t a =>
    obtain ⟨o, e, c, d⟩ := st
    exact ⟨o, e, fun v z => by rw [d] at z; cases z⟩
  | s x =>
    obtain ⟨t, o, e, c, d⟩ := st
    exact ⟨o, e, fun v z => by rw [d] at z; cases z⟩
/-- one draw of a piece -/
theorem Pc.draws {X : Cx} {pins : List (Addr × Obj)} {σ : L2.St} {H : Hp} {s : Shared} (I : Inv X pins σ H s) (hc : X.calm = true) {p : Pc} {xs : List V} (hp : p.is X.K H xs) {it : Addr} {i : Nat} (st : p.iter it i s.heap) (hn : ∀ a ∈ p.ad, a ≠ it) :
    ∃ (P : Nat → Value → Prop) (St : Nat → Heap → Prop), Draws X.prog X.w X.A.in1 it (it :: p.ad) xs.length P St ∧ St i s.heap ∧ (∀ j h', St j h' → p.iter it j h') ∧ ∀ j v, P j v → ∃ x, xs[j]? = some x ∧ RelV x v := by
  have hh : X.A.in1.handled = none := I.ok.hd hc
  cases p with
  | l a =>
    obtain ⟨its, rv, pl, hz⟩ := I.list hp
    have D := Draws.list (prog := X.prog) (w := X.w) hh it a (hn a (List.mem_cons_self ..)) its.toArray
    rw [show its.toArray.size = xs.length by rw [List.size_toArray]; exact rv.length.symm] at D
    refine ⟨_, _, D, ⟨st, pl.isList⟩, fun j h' q => q.1, fun j v e => ?_⟩
    have hj : j < xs.length := by
      have := (Array.getElem?_eq_some_iff.mp e).1
      rw [List.size_toArray] at this
      have := rv.length
      omega
    obtain ⟨u, hu, ru⟩ := rv.get (List.getElem?_eq_getElem hj)
    rw [show its.toArray[j]? = its[j]? by simp, hu] at e
    cases e
    exact ⟨_, List.getElem?_eq_getElem hj, ru⟩
  | t a =>
    obtain ⟨its, rv, pl, hz⟩ := I.tuple hp
    have D := Draws.tuple (prog := X.prog) (w := X.w) hh it a (hn a (List.mem_cons_self ..)) its.toArray
    rw [show its.toArray.size = xs.length by rw [List.size_toArray]; exact rv.length.symm] at D
    refine ⟨_, _, D, ⟨st, pl⟩, fun j h' q => q.1, fun j v e => ?_⟩
    have hj : j < xs.length := by
      have := (Array.getElem?_eq_some_iff.mp e).1
      rw [List.size_toArray] at this
      have := rv.length
      omega
    obtain ⟨u, hu, ru⟩ := rv.get (List.getElem?_eq_getElem hj)
    rw [show its.toArray[j]? = its[j]? by simp, hu] at e
    cases e
    exact ⟨_, List.getElem?_eq_getElem hj, ru⟩
  | s x =>
    obtain ⟨t, st⟩ := st
    have D := Draws.text (prog := X.prog) (w := X.w) hh it x t
    have e : xs = x.cps.toList.map chV := hp
    rw [show x.cps.size = xs.length by rw [e, List.length_map, Array.length_toList]] at D
    refine ⟨_, _, D, st, fun j h' q => ⟨t, q⟩, fun j v q => ?_⟩
    obtain ⟨c, u, hx, rfl⟩ := q
    refine ⟨chV c, ?_, u, rfl⟩
    rw [e, List.getElem?_map, Array.getElem?_toList, hx] <;> rfl
/-! ### zip of two pieces -/
/-- the two pieces as they stand at each turn, the items in new pairs -/
def Itz2 (K : PySem.W.Frag) (p q : Pc) : It :=
  ⟨fun i H => ∃ (xs ys : List V) (x y : V), p.is K H xs ∧ q.is K H ys ∧ xs[i]? = some x ∧ ys[i]? = some y,
    fun i H v H' => ∃ T x y, v = .ref T ∧ H T = none ∧ H' = upd H T (.tup [x, y]) ∧ (∀ xs, p.is K H xs → xs[i]? = some x) ∧ ∀ ys, q.is K H ys → ys[i]? = some y,
    fun i H => ∃ xs ys : List V, p.is K H xs ∧ q.is K H ys ∧ i ≤ xs.length ∧ i ≤ ys.length ∧ (i = xs.length ∨ i = ys.length)⟩
theorem ane {a b : Nat} (h : a ≠ b) : @Ne Addr a b := h
theorem aeq {a b : Addr} (h : a = b) : @Eq Nat a b := h
theorem alt {a b : Addr} (h : a < b) : @LT.lt Nat _ a b := h
theorem five {c : Addr} {n : Nat} (h : c ∈ [n + 4, n + 2, n + 3, n, n + 1]) : @LE.le Nat _ n c ∧ @LE.le Nat _ c (n + 4) := by
  have e' : c = n + 4 ∨ c = n + 2 ∨ c = n + 3 ∨ c = n ∨ c = n + 1 := by simpa using h
  rcases e' with e | e | e | e | e <;> (have := aeq e; omega)
theorem nin {n x c : Nat} {as : List Addr} (h : ∀ a ∈ as, a < n) (hx : x ≠ c) (hc : n ≤ c) : @Membership.mem Addr _ _ (x :: as) c → False := fun z => by
  rcases List.mem_cons.mp z with e | z
  · exact hx (aeq e).symm
  · have := alt (h _ z); omega
theorem zsep {n : Nat} {p q : Pc} (hp : ∀ a ∈ p.ad, a < n) (hq : ∀ a ∈ q.ad, a < n) : ZipSep2 (n + 4) (n + 2) (n + 3) n (n + 1) (n :: p.ad) ((n + 1) :: q.ad) where
  TIz := ane (by omega)
  TOz := ane (by omega)
  TITO := ane (by omega)
  TIi1 := ane (by omega)
  mem1 := List.mem_cons_self ..
  zf1 := nin hp (by omega) (by omega)
  Tf1 := nin hp (by omega) (by omega)
  TIi2 := ane (by omega)
  mem2 := List.mem_cons_self ..
  zf2 := nin hq (by omega) (by omega)
  Tf2 := nin hq (by omega) (by omega)
  sep1_2 := nin hq (by omega) (by omega)
  sep2_1 := nin hp (by omega) (by omega)
theorem turn_zip2 {P : Program} {w : World} {K : PySem.W.Frag} {elts : List Expr} {kk : Nat} {tpos : Pos} {p q : Pc} {n : Nat} (hp : ∀ a ∈ p.ad, a < n) (hq : ∀ a ∈ q.ad, a < n) :
    Turn P w K (.Tuple elts kk tpos) (Itz2 K p q) [n + 4, n + 2, n + 3, n, n + 1] (n + 4) (fun i h => IsZip h (n + 4) (n + 2) (n + 3) .none ∧ IsTupOf2 h (n + 2) (.ref n) (.ref (n + 1)) ∧ (∃ x y, IsTupOf2 h (n + 3) x y) ∧ p.iter n i h ∧ q.iter (n + 1) i h) where
  mem := by simp
  obj := fun i h st c hc => by
    obtain ⟨hz, hTI, ⟨x, y, hTO⟩, h1, h2⟩ := st
    have e' : c = n + 4 ∨ c = n + 2 ∨ c = n + 3 ∨ c = n ∨ c = n + 1 := by simpa using hc
    rcases e' with e | e | e | e | e
    · rw [e]; exact ⟨_, hz, fun v q => nomatch q⟩
    · rw [e]; exact ⟨_, hTI, fun v q => nomatch q⟩
    · rw [e]; exact ⟨_, hTO, fun v q => nomatch q⟩
    · rw [e]; exact Pc.iter_obj h1
    · rw [e]; exact Pc.iter_obj h2
  keep := fun i h h' st k => by
    obtain ⟨hz, hTI, ⟨x, y, hTO⟩, h1, h2⟩ := st
    exact ⟨k _ (by simp) _ hz, k _ (by simp) _ hTI, ⟨x, y, k _ (by simp) _ hTO⟩, Pc.iter_keep h1 fun o e => k _ (by simp) o e, Pc.iter_keep h2 fun o e => k _ (by simp) o e⟩
  item := by
    intro X hP hw hK hc i pins s σ H E I hf st hg
    subst hP hw hK
    obtain ⟨hz, hTI, ⟨x0, y0, hTO⟩, h1, h2⟩ := st
    obtain ⟨xs, ys, x, y, hqx, hqy, hx, hy⟩ := hg
    obtain ⟨P1, St1, D1, s1, k1, r1⟩ := Pc.draws I hc hqx h1 (fun a ha e => by have := alt (hp a ha); have := aeq e; omega)
    obtain ⟨P2, St2, D2, s2, k2, r2⟩ := Pc.draws I hc hqy h2 (fun a ha e => by have := alt (hq a ha); have := aeq e; omega)
    have hzl : n + 4 < s.heap.objs.size := Heap.lt_size hz
    refine wpAny_pyNext_zipD2_item (zsep hp hq) D1 D2 hz hTI hTO s1 s2 (List.getElem?_eq_some_iff.mp hx).1 (List.getElem?_eq_some_iff.mp hy).1 fun u u2 h' tk pu pu2 z' TO' t1 t2 hT hsz hk => ?_
    obtain ⟨x', ex, ru⟩ := r1 i u pu
    obtain ⟨y', ey, ru2⟩ := r2 i u2 pu2
    rw [hx] at ex
    cases ex
    rw [hy] at ey
    cases ey
    refine ⟨_, rfl, wpAny_letOwnedTupleGo_zip (s := { s with heap := h', toks := tk }) z' fun h'' z'' sb => ?_⟩
    have hT2 : h''.get? s.heap.objs.size = some { cls := .type "tuple", data := .seq #[u, u2] } := (sb.2 _ (Nat.ne_of_gt hzl)).trans hT
    have new : ObjOk X.prog X.w (upd H s.heap.objs.size (.tup [x, y])) h'' s.heap.objs.size (.tup [x, y]) :=
      ⟨by show 2 ≤ sizeLine; decide, [u, u2], .cons ru (.cons ru2 .nil), ⟨_, hT2, rfl, _, rfl⟩⟩
    have I1 : Inv X pins σ (upd H s.heap.objs.size (.tup [x, y])) { s with heap := h'', toks := tk } :=
      I.turnedNew (t' := tk) (ch := [n + 4, n + 2, n + 3, n, n + 1]) (fun c o hb q => (sb.2 c (fun q' => hb (by simp [q']))).trans (hk c o (fun q' => hb (by simp [q'])) (fun q' => hb (by simp [q'])) (fun q' => hb (by simp [q'])) (fun q' => hb (by simp [q'])) q)) hf (Nat.le_refl _) new
    refine ⟨.ref s.heap.objs.size, _, I1, rfl, ⟨_, x, y, rfl, I.hok.fresh (Nat.le_refl _), rfl, fun l hl => by rw [Pc.inj I hl hqx]; exact hx, fun l hl => by rw [Pc.inj I hl hqy]; exact hy⟩, ⟨z'', ?_, ⟨u, u2, ?_⟩, ?_, ?_⟩, fun c hcm => ?_⟩
    · exact (sb.2 _ (ane (by omega))).trans (hk _ _ (ane (by omega)) (ane (by omega)) (ane (by omega)) (ane (by omega)) hTI)
    · exact (sb.2 _ (ane (by omega))).trans TO'
    · exact Pc.iter_keep (k1 _ _ t1) fun o q => (sb.2 _ (ane (by omega))).trans q
    · exact Pc.iter_keep (k2 _ _ t2) fun o q => (sb.2 _ (ane (by omega))).trans q
    · have hlt : c < s.heap.objs.size := by
        exact Nat.lt_of_le_of_lt (five hcm).2 hzl
      rw [upd_ne (Nat.ne_of_lt hlt)]
      exact (hf c hcm).1
  done := by
    intro X hP hw hK hc i pins s σ H E I hf st hg
    subst hP hw hK
    obtain ⟨hz, hTI, ⟨x0, y0, hTO⟩, h1, h2⟩ := st
    obtain ⟨xs, ys, hqx, hqy, l1, l2, hend⟩ := hg
    obtain ⟨P1, St1, D1, s1, k1, r1⟩ := Pc.draws I hc hqx h1 (fun a ha e => by have := alt (hp a ha); have := aeq e; omega)
    obtain ⟨P2, St2, D2, s2, k2, r2⟩ := Pc.draws I hc hqy h2 (fun a ha e => by have := alt (hq a ha); have := aeq e; omega)
    exact wpAny_pyNext_zipD2_end (zsep hp hq) D1 D2 hz hTI hTO s1 s2 l1 l2 hend fun h' tk hk => ⟨rfl, I.turnedL (t' := tk) (ch := [n + 4, n + 2, n + 3, n, n + 1]) (fun c o hb q =>
      hk c o (fun q' => hb (by simp [q'])) (fun q' => hb (by simp [q'])) (fun q' => hb (by simp [q'])) (fun q' => hb (by simp [q'])) q) hf⟩
  self := fun A i s Q E st h => wpAny_pyIter_zip st.1 h
/-- a value that is walked -/
def Pcv (K : PySem.W.Frag) (H : Hp) (v : V) (p : Pc) : Prop := match p with
  | .l a => v = .ref a ∧ ∃ xs, SqL K H a xs
  | .t a => v = .ref a ∧ ∃ xs, SqT K H a xs
  | .s x => v = .str x
theorem Pc.begins {X : Cx} {pins : List (Addr × Obj)} {σ : L2.St} {H : Hp} {s : Shared} (I : Inv X pins σ H s) {p : Pc} {v : V} {u : Value} (hv : Pcv X.K H v p) (r : RelV v u) :
    ∃ (o : Obj) (F : Heap → Prop), Begins u o F ∧ F s.heap ∧ (∀ a ∈ p.ad, a < s.heap.objs.size) ∧ ∀ (h : Heap) (it : Addr), h.get? it = some o → p.iter it 0 h := by
  cases p with
  | l a =>
    obtain ⟨rfl, xs, hq⟩ := hv
    cases r
    obtain ⟨its, rv, pl, hz⟩ := I.list hq
    exact ⟨_, _, begins_list a its.toArray, pl.isList, (fun b hb => by rw [List.mem_singleton.mp hb]; exact pl.lt), fun h it e => ⟨_, e, rfl, rfl⟩⟩
  | t a =>
    obtain ⟨rfl, xs, hq⟩ := hv
    cases r
    obtain ⟨its, rv, pl, hz⟩ := I.tuple hq
    exact ⟨_, _, begins_tuple a its.toArray, pl, (fun b hb => by rw [List.mem_singleton.mp hb]; exact (by obtain ⟨o, e, _⟩ := pl; exact Heap.lt_size e)), fun h it e => ⟨_, e, rfl, rfl⟩⟩
  | s x =>
    obtain ⟨rfl⟩ := hv
    obtain ⟨t, rfl⟩ := r
    exact ⟨_, _, begins_text x t, trivial, (fun b hb => by cases hb), fun h it e => ⟨t, _, e, rfl, rfl⟩⟩
def iZip2 (K : PySem.W.Frag) (ta : TA) : TI := fun σ H R => ta σ H fun vs H1 => ∃ v u p q, vs = [v, u] ∧ Pcv K H1 v p ∧ Pcv K H1 u q ∧ R (Itz2 K p q) H1
theorem pi_zip2 {X : Cx} {e e2 : Expr} {ta : TA} {p pos tpos : Pos} {elts : List Expr} {kk : Nat} (hg : L2.Gl X "zip") (hm : X.mg "zip" = none) (ha : PA X [e, e2] ta)
    (hs : starEach [e, e2] X.env = (false, eval e X.env) :: starEach [e2] X.env) (hpl : (backTo pos (starEach [e2] X.env)).any (·.1) = false) :
    PI X (.Tuple elts kk tpos) (.Call (.Name "zip" p) [e, e2] [] pos) (iZip2 X.K ta) := by
  refine ⟨fun pins s σ H R I h => ?_⟩
  refine Call_ (ld_blt I hg hm PyProof.Rows.boot_zip (PyProof.Rows.callWith_type1 (thn (ha.run pos pins s σ H _ I h) fun us s1 ⟨vs, H1, I1, r1, q1⟩ => ?_) hs hpl))
  obtain ⟨v, u, p, q, ex, hv, hu, qq⟩ := q1
  subst ex
  cases r1 with
  | cons r rr =>
    cases rr with
    | cons r' rr =>
      cases rr
      obtain ⟨o1, F1, B1, f1, a1, k1⟩ := Pc.begins I1 hv r
      obtain ⟨o2, F2, B2, f2, a2, k2⟩ := Pc.begins I1 hu r'
      refine zip_begins2 B1 B2 f1 f2 fun h' hz hTI hTO h1 h2 hsz hk => wpAny_pyIter_zip hz ?_
      have I2 : Inv X pins σ H1 { s1 with heap := h' } := I1.kept (t' := s1.toks) hk
      refine ⟨s1.heap.objs.size + 4, _, _, _, H1, rfl, I2, turn_zip2 a1 a2, ⟨hz, hTI, ⟨_, _, hTO⟩, k1 _ _ h1, k2 _ _ h2⟩, fun c hcm => ?_, qq⟩
      have hle : s1.heap.objs.size ≤ c := (five hcm).1
      exact I1.fpOk hle (I1.hok.fresh hle)
/-! ### one piece -/
def Itp (K : PySem.W.Frag) (p : Pc) : It :=
  ⟨fun i H => ∃ xs x, p.is K H xs ∧ xs[i]? = some x, fun i H x H' => H' = H ∧ ∀ xs, p.is K H xs → xs[i]? = some x, fun i H => ∃ xs, p.is K H xs ∧ xs.length ≤ i⟩
def iPc (K : PySem.W.Frag) (te : TE) : TI := fun σ H R => te σ H fun v H1 => ∃ p, Pcv K H1 v p ∧ ∀ J : It, (∀ i H, (Itp K p).go i H → J.go i H) → (∀ i H x H', J.yld i H x H' → (Itp K p).yld i H x H') → (∀ i H, (Itp K p).stop i H → J.stop i H) → R J H1
theorem pi_pc {X : Cx} {tg e : Expr} {te : TE} (he : PE X e te) : PI X tg e (iPc X.K te) := by
  refine ⟨fun pins s σ H R I h => ?_⟩
  refine thn (he.run pins s σ H _ I h) fun v s1 ⟨x, H1, I1, r1, p, hp, q⟩ => ?_
  cases p with
  | l a =>
    obtain ⟨rfl, xs, hq⟩ := hp
    cases r1
    obtain ⟨its, rv, p, hz⟩ := I1.list hq
    refine wpAny_pyIter_list p.isList ?_
    refine ⟨s1.heap.objs.size, [s1.heap.objs.size], _, _, H1, rfl, I1.kept (t' := s1.toks) fun b o e => Heap.get?_push_of_some _ e, turn_list a _, ⟨_, Heap.get?_push_size _ rfl, rfl, rfl⟩, fun b hb => ?_, q _ (fun _ _ h => h) (fun _ _ _ _ h => h) (fun _ _ h => h)⟩
    have e : b = s1.heap.objs.size := by simpa using hb
    subst e
    exact I1.fpOk (Nat.le_refl _) (I1.hok.fresh (Nat.le_refl _))
  | t a =>
    obtain ⟨rfl, xs, hq⟩ := hp
    cases r1
    obtain ⟨its, rv, p, hz⟩ := I1.tuple hq
    refine wpAny_pyIter_tuple (show s1.heap.IsTuple a its.toArray from p) ?_
    refine ⟨s1.heap.objs.size, [s1.heap.objs.size], _, _, H1, rfl, I1.kept (t' := s1.toks) fun b o e => Heap.get?_push_of_some _ e, turn_tuple a _, ⟨_, Heap.get?_push_size _ rfl, rfl, rfl⟩, fun b hb => ?_, q _ (fun _ _ h => h) (fun _ _ _ _ h => h) (fun _ _ h => h)⟩
    have e : b = s1.heap.objs.size := by simpa using hb
    subst e
    exact I1.fpOk (Nat.le_refl _) (I1.hok.fresh (Nat.le_refl _))
  | s y =>
    obtain ⟨rfl⟩ := hp
    obtain ⟨t, rfl⟩ := r1
    have e1 : ∀ i H, (Itp X.K (.s y)).go i H → (Its y).go i H := by
      rintro i H ⟨xs, x, hx, e⟩
      have hx : xs = y.cps.toList.map chV := hx
      have := (List.getElem?_eq_some_iff.mp e).1
      rw [hx, List.length_map, Array.length_toList] at this
      exact this
    have e2 : ∀ i H x H', (Its y).yld i H x H' → (Itp X.K (.s y)).yld i H x H' := by
      rintro i H x H' ⟨e, c, hc, ex⟩
      refine ⟨e, fun xs hx => ?_⟩
      have hx : xs = y.cps.toList.map chV := hx
      rw [hx, List.getElem?_map, Array.getElem?_toList, hc, ex] <;> rfl
    have e3 : ∀ i H, (Itp X.K (.s y)).stop i H → (Its y).stop i H := by
      rintro i H ⟨xs, hx, e⟩
      have hx : xs = y.cps.toList.map chV := hx
      rw [hx, List.length_map, Array.length_toList] at e
      exact e
    cases ha : y.cps.all (· < 128)
    · exact wpAny_pyIter_wide ha (pi_one (tk := s1.toks) I1 _ (turn_str _ y t "str_iterator" (.inr rfl)) ⟨_, Heap.get?_push_size _ rfl, rfl, rfl⟩ (q _ e1 e2 e3))
    · exact wpAny_pyIter_ascii ha (pi_one (tk := s1.toks) I1 _ (turn_str _ y t "str_ascii_iterator" (.inl rfl)) ⟨_, Heap.get?_push_size _ rfl, rfl, rfl⟩ (q _ e1 e2 e3))
end
end Dv
/-! Dv10: sources, targets, for loops, list comprehensions. -/
namespace Dv
noncomputable section
open PySem L2 PyProof.Rows
/-- what is walked: values at hand; the list of number a from place i; pairs -/
inductive Src where
  | imm (xs : List MV) | liv (a i : Nat) | zip (p q : Src)
inductive Stp where
  | done | it (x : MV) (s : Src) | bad
def Src.step (m : MH) : Src → Stp
  | .imm [] => .done
  | .imm (x :: xs) => .it x (.imm xs)
  | .liv a i => match m.get a with
    | some (.lst xs) => match xs[i]? with
      | some x => .it x (.liv a (i + 1))
      | none => if i = xs.length then .done else .bad
    | _ => .bad
  | .zip p q => match p.step m with
    | .bad => .bad
    | .done => match q.step m with
      | .bad => .bad
      | _ => .done
    | .it x p' => match q.step m with
      | .bad => .bad
      | .done => .done
      | .it y q' => .it (.tup [x, y]) (.zip p' q')
def Src.size (m : MH) : Src → Nat
  | .imm xs => xs.length
  | .liv a _ => match m.get a with
    | some (.lst xs) => xs.length
    | _ => 0
  | .zip p _ => p.size m
abbrev XI := St → MH → R Src
inductive Fl where
  | nx (s : St) | rt (v : MV) | bk (s : St) | ct (s : St)
abbrev XZ := St → MH → R Fl
abbrev XG := MV → St → MH → R St
abbrev XGs := List MV → St → MH → R St
/-! ### sources told -/
structure Feed (G : Gl) (J : It) (T : Nat → Src → (Nat → Addr) → Nat → Hp → Prop) : Prop where
  up : ∀ i src r n H r' n' H', Tp r n H r' n' H' → T i src r n H → T i src r' n' H'
  stop : ∀ i src r m H, Wd G r m H → T i src r m.n H → src.step m = .done → J.stop i H
  item : ∀ i src r m H x src', Wd G r m H → T i src r m.n H → src.step m = .it x src' → J.go i H ∧ ∀ v H', J.yld i H v H' → Up r m.n H r m.n H' ∧ Wd G r m H' ∧ RV G r m.n H' x v ∧ T (i + 1) src' r m.n H'
section
variable {G : Gl} {W : Wi} {X0 : Cx}
def PcAt (G : Gl) (p : Pc) (i : Nat) (src : Src) (r : Nat → Addr) (n : Nat) (H : Hp) : Prop := match src with
  | .imm xs => (∀ a, p ≠ .l a) ∧ ∃ vs, p.is G.K H vs ∧ i ≤ vs.length ∧ RVs G r n H xs (vs.drop i)
  | .liv a j => p = .l (r a) ∧ a < n ∧ j = i
  | .zip _ _ => False
theorem Pc.is_up {r r' : Nat → Addr} {n n' : Nat} {H H' : Hp} (u : Tp r n H r' n' H') {p : Pc} {xs : List V} (hp : ∀ a, p ≠ .l a) (h : p.is G.K H xs) : p.is G.K H' xs := by
  cases p with
  | l a => exact absurd rfl (hp a)
  | t a => exact u.sqT h
  | s x => exact h
theorem PcAt.up {r r' : Nat → Addr} {n n' : Nat} {H H' : Hp} (u : Tp r n H r' n' H') {p : Pc} {i : Nat} {src : Src} (h : PcAt G p i src r n H) : PcAt G p i src r' n' H' := by
  cases src with
  | imm xs =>
    obtain ⟨hp, vs, hv, hi, q⟩ := h
    exact ⟨hp, vs, Pc.is_up u hp hv, hi, RVs.tp u _ _ q⟩
  | liv a j =>
    obtain ⟨e, ha, hj⟩ := h
    exact ⟨by rw [u.agr a ha]; exact e, Nat.lt_of_lt_of_le ha u.le, hj⟩
  | zip _ _ => exact h.elim
/-- the end of a piece -/
theorem PcAt.done {r : Nat → Addr} {m : MH} {H : Hp} {p : Pc} {i : Nat} {src : Src} (w : Wd G r m H) (h : PcAt G p i src r m.n H) (e : src.step m = .done) : ∃ vs, p.is G.K H vs ∧ i = vs.length := by
  cases src with
  | imm xs =>
    obtain ⟨hp, vs, hv, hi, q⟩ := h
    cases xs with
    | cons _ _ => cases e
    | nil =>
      refine ⟨vs, hv, ?_⟩
      have := q.length
      rw [List.length_drop] at this
      simp at this
      omega
  | liv a j =>
    obtain ⟨rfl, ha, rfl⟩ := h
    unfold Src.step at e
    cases q : m.get a with
    | none => simp only [q] at e; cases e
    | some o =>
      cases o <;> simp only [q] at e <;> first | (cases e; done) | skip
      rename_i xs
      cases q2 : xs[j]? with
      | some x => simp only [q2] at e; cases e
      | none =>
        simp only [q2] at e
        by_cases z : j = xs.length
        · obtain ⟨vs, hs, p⟩ := w.sqL q
          exact ⟨vs, hs, z.trans p.length⟩
        · rw [if_neg z] at e; cases e
  | zip _ _ => exact h.elim
/-- .. an item -/
theorem PcAt.item {r : Nat → Addr} {m : MH} {H : Hp} {p : Pc} {i : Nat} {src src' : Src} {x : MV} (w : Wd G r m H) (h : PcAt G p i src r m.n H) (e : src.step m = .it x src') : ∃ vs v, p.is G.K H vs ∧ vs[i]? = some v ∧ RV G r m.n H x v ∧ PcAt G p (i + 1) src' r m.n H := by
  cases src with
  | imm xs =>
    obtain ⟨hp, vs, hv, hi, q⟩ := h
    cases xs with
    | nil => cases e
    | cons y ys =>
      cases e
      rw [RVs] at q
      obtain ⟨v, ws, ed, p, q⟩ := q
      have e0 : vs[i]? = some v := by
        have : (vs.drop i)[0]? = some v := by rw [ed] <;> rfl
        rwa [List.getElem?_drop, Nat.add_zero] at this
      refine ⟨vs, v, hv, e0, p, hp, vs, hv, (List.getElem?_eq_some_iff.mp e0).1, ?_⟩
      have : vs.drop (i + 1) = ws := by
        rw [← List.drop_drop, ed] <;> rfl
      rw [this]
      exact q
  | liv a j =>
    obtain ⟨rfl, ha, rfl⟩ := h
    unfold Src.step at e
    cases q : m.get a with
    | none => simp only [q] at e; cases e
    | some o =>
      cases o <;> simp only [q] at e <;> first | (cases e; done) | skip
      rename_i xs
      cases q2 : xs[j]? with
      | none =>
        simp only [q2] at e
        by_cases z : j = xs.length
        · rw [if_pos z] at e; cases e
        · rw [if_neg z] at e; cases e
      | some y =>
        simp only [q2] at e
        cases e
        obtain ⟨vs, hs, p⟩ := w.sqL q
        obtain ⟨v, hv, pv⟩ := p.get q2
        exact ⟨vs, v, hs, hv, pv, rfl, ha, rfl⟩
  | zip _ _ => exact h.elim
theorem feed_pc {p : Pc} {J : It} (h1 : ∀ i H, (Itp G.K p).go i H → J.go i H) (h2 : ∀ i H x H', J.yld i H x H' → (Itp G.K p).yld i H x H') (h3 : ∀ i H, (Itp G.K p).stop i H → J.stop i H) : Feed G J (PcAt G p) where
  up := fun i src r n H r' n' H' u h => h.up u
  stop := fun i src r m H w h e => by
    obtain ⟨vs, hv, hi⟩ := h.done w e
    exact h3 i H ⟨vs, hv, Nat.le_of_eq hi.symm⟩
  item := fun i src r m H x src' w h e => by
    obtain ⟨vs, v, hv, hi, pv, hn⟩ := h.item w e
    refine ⟨h1 i H ⟨vs, v, hv, hi⟩, fun u H' hy => ?_⟩
    obtain ⟨rfl, hy⟩ := h2 i H u H' hy
    have : some v = some u := by rw [← hi]; exact hy vs hv
    cases this
    exact ⟨Up.refl _ _ _, w, pv, hn⟩
def ZpAt (G : Gl) (p q : Pc) (i : Nat) (src : Src) (r : Nat → Addr) (n : Nat) (H : Hp) : Prop := match src with
  | .zip a b => PcAt G p i a r n H ∧ PcAt G q i b r n H
  | _ => False
theorem feed_zip {p q : Pc} : Feed G (Itz2 G.K p q) (ZpAt G p q) where
  up := fun i src r n H r' n' H' u h => by
    cases src with
    | zip a b => exact ⟨h.1.up u, h.2.up u⟩
    | _ => exact h.elim
  stop := fun i src r m H w h e => by
    cases src with
    | zip a b =>
      obtain ⟨ha, hb⟩ := h
      unfold Src.step at e
      cases ea : a.step m with
      | bad => simp only [ea] at e; cases e
      | done =>
        obtain ⟨vs, hv, hi⟩ := ha.done w ea
        cases eb : b.step m with
        | bad => simp only [ea, eb] at e; cases e
        | done =>
          obtain ⟨us, hu, hj⟩ := hb.done w eb
          exact ⟨vs, us, hv, hu, Nat.le_of_eq hi, Nat.le_of_eq hj, .inl hi⟩
        | it y b' =>
          obtain ⟨us, u, hu, hj, _⟩ := hb.item w eb
          exact ⟨vs, us, hv, hu, Nat.le_of_eq hi, Nat.le_of_lt (List.getElem?_eq_some_iff.mp hj).1, .inl hi⟩
      | it x a' =>
        obtain ⟨vs, v, hv, hi, _⟩ := ha.item w ea
        cases eb : b.step m with
        | bad => simp only [ea, eb] at e; cases e
        | done =>
          obtain ⟨us, hu, hj⟩ := hb.done w eb
          exact ⟨vs, us, hv, hu, Nat.le_of_lt (List.getElem?_eq_some_iff.mp hi).1, Nat.le_of_eq hj, .inr hj⟩
        | it y b' => simp only [ea, eb] at e; cases e
    | _ => exact h.elim
  item := fun i src r m H x src' w h e => by
    cases src with
    | zip a b =>
      obtain ⟨ha, hb⟩ := h
      unfold Src.step at e
      cases ea : a.step m with
      | bad => simp only [ea] at e; cases e
      | done =>
        cases eb : b.step m <;> (simp only [ea, eb] at e; cases e)
      | it y a' =>
        cases eb : b.step m with
        | bad => simp only [ea, eb] at e; cases e
        | done => simp only [ea, eb] at e; cases e
        | it z b' =>
          simp only [ea, eb] at e
          cases e
          obtain ⟨vs, v, hv, hi, pv, na⟩ := ha.item w ea
          obtain ⟨us, u, hu, hj, pu, nb⟩ := hb.item w eb
          refine ⟨⟨vs, us, v, u, hv, hu, hi, hj⟩, fun t H' hy => ?_⟩
          obtain ⟨T, v', u', rfl, hT, rfl, k1, k2⟩ := hy
          have e1 : some v = some v' := by rw [← hi]; exact k1 vs hv
          have e2 : some u = some u' := by rw [← hj]; exact k2 us hu
          cases e1
          cases e2
          have up := up_tup w hT [v, u]
          refine ⟨up, wd_tup w hT _, rv_tup (.inl (.inl upd_same)) (RVs.cons (RV.up up _ _ pv) (RVs.cons (RV.up up _ _ pu) RVs.nil)), na.up up.tp, nb.up up.tp⟩
    | _ => exact h.elim
def rngL (a : Int) : Nat → List MV
  | 0 => []
  | k + 1 => .int a :: rngL (a + 1) k
theorem rngL_length : ∀ (k : Nat) (a : Int), (rngL a k).length = k
  | 0, _ => rfl
  | k + 1, a => by rw [rngL, List.length_cons, rngL_length k]
def RgAt (lo : Int) (n i : Nat) (src : Src) : Prop := i ≤ n ∧ src = .imm (rngL (lo + i) (n - i))
theorem feed_rng {lo : Int} {n : Nat} : Feed G (Itr lo n) (fun i src _ _ _ => RgAt lo n i src) where
  up := fun _ _ _ _ _ _ _ _ _ h => h
  stop := fun i src r m H w h e => by
    obtain ⟨hi, rfl⟩ := h
    cases q : n - i with
    | zero => show n ≤ i; omega
    | succ k => rw [q] at e; cases e
  item := fun i src r m H x src' w h e => by
    obtain ⟨hi, rfl⟩ := h
    cases q : n - i with
    | zero => rw [q] at e; cases e
    | succ k =>
      rw [q] at e
      cases e
      refine ⟨by show i < n; omega, fun v H' hy => ?_⟩
      obtain ⟨rfl, rfl⟩ := hy
      refine ⟨Up.refl _ _ _, w, rv_int, by omega, ?_⟩
      rw [show n - (i + 1) = k by omega]
      congr 2
      omega
def tI (G : Gl) (W : Wi) (f : XI) : TI := fun σ H Q => At G (fun r m s => Go G W (fun r' m' H' src => ∀ J T, Feed G J T → T 0 src r' m'.n H' → Q J H') r m H (f s m)) σ H
abbrev OkI (G : Gl) (W : Wi) (X0 : Cx) (tg e : Expr) (f : XI) : Prop := PI X0 tg e (tI G W f)
theorem pi_of {X : Cx} {tg e : Expr} {t t' : TI} (h : PI X tg e t) (i : ∀ σ H Q, t' σ H Q → t σ H Q) : PI X tg e t' := ⟨fun pins s σ H Q I q => h.run pins s σ H Q I (i σ H Q q)⟩
def srcV (v : MV) (m : MH) : R Src := match v with
  | .tup xs => .ok (.imm xs) m
  | .str s => .ok (.imm (s.map fun c => .str [c])) m
  | .ref i => match m.get i with
    | some (.lst _) => .ok (.liv i 0) m
    | _ => .bad
  | _ => .bad
def xSrc (a : X) : XI := fun s m => (a s m).bind srcV
theorem rvs_ch {r : Nat → Addr} {n : Nat} {H : Hp} : ∀ t : List Nat, RVs G r n H (t.map fun c => .str [c]) (t.map chV)
  | [] => RVs.nil
  | c :: t => RVs.cons (by rw [RV] <;> rfl) (rvs_ch t)
/-- a walked value, its piece -/
theorem srcV_ok {r : Nat → Addr} {m : MH} {H : Hp} {x : MV} {v : V} {P : (Nat → Addr) → MH → Hp → Src → Prop} (w : Wd G r m H) (px : RV G r m.n H x v) (g : Go G W P r m H (srcV x m)) : ∃ p src, Pcv G.K H v p ∧ PcAt G p 0 src r m.n H ∧ P r m H src := by
  cases x <;> first | exact g.elim | skip
  · rename_i t
    rw [RV] at px
    subst px
    exact ⟨.s ⟨t.toArray⟩, .imm (t.map fun c => .str [c]), rfl, ⟨(fun _ z => by cases z), t.map chV, rfl, Nat.zero_le _, rvs_ch t⟩, Go.ok w g⟩
  · rename_i i
    rw [RV] at px
    obtain ⟨hi, rfl⟩ := px
    dsimp only [srcV] at g
    cases e : m.get i with
    | none => rw [e] at g; exact g.elim
    | some o =>
      rw [e] at g
      cases o <;> first | exact g.elim | skip
      rename_i xs
      obtain ⟨vs, hs, q⟩ := w.sqL e
      exact ⟨.l (r i), .liv i 0, ⟨rfl, vs, hs⟩, ⟨rfl, hi, rfl⟩, Go.ok w g⟩
  · rename_i xs
    rw [RV] at px
    obtain ⟨a, vs, rfl, hs, q⟩ := px
    exact ⟨.t a, .imm xs, ⟨rfl, vs, hs⟩, ⟨(fun _ z => by cases z), vs, hs, Nat.zero_le _, q⟩, Go.ok w g⟩
theorem ok_src {tg e : Expr} {f : X} (hK : X0.K = G.K) (he : OkE G W X0 e f) : OkI G W X0 tg e (xSrc f) := by
  refine pi_of (pi_pc he) fun σ H Q h => ?_
  obtain ⟨r, m, s, w, q, g⟩ := h
  refine ⟨r, m, s, w, q, (Go.bind g).mono fun r1 m1 H1 x u1 w1 g1 v p => ?_⟩
  obtain ⟨pc, src, hp, ht, hQ⟩ := srcV_ok w1 p g1
  rw [hK]
  exact ⟨pc, hp, fun J h1 h2 h3 => hQ J _ (feed_pc h1 h2 h3) ht⟩
def xI (f : List MV → MH → R Src) (a : XS) : XI := fun s m => (a s m).bind f
theorem tI_bind {f : List MV → MH → R Src} {a : XS} {σ : L2.St} {H : Hp} {Q : It → Hp → Prop} (h : tI G W (xI f a) σ H Q) :
    tA G W a σ H fun vs H1 => ∃ r m xs, Wd G r m H1 ∧ RVs G r m.n H1 xs vs ∧ Go G W (fun r' m' H' src => ∀ J T, Feed G J T → T 0 src r' m'.n H' → Q J H') r m H1 (f xs m) := by
  obtain ⟨r, m, s, w, q, g⟩ := h
  exact ⟨r, m, s, w, q, (Go.bind g).mono fun r1 m1 H1 xs u1 w1 g1 vs p => ⟨r1, m1, xs, w1, p, g1⟩⟩
def zipV (xs : List MV) (m : MH) : R Src := match xs with
  | [x, y] => (srcV x m).bind fun p m1 => (srcV y m1).bind fun q m2 => .ok (.zip p q) m2
  | _ => .bad
theorem ok_zip {e e2 : Expr} {a : XS} {p pos tpos : Pos} {elts : List Expr} {kk : Nat} (hK : X0.K = G.K) (hg : L2.Gl X0 "zip") (hm : X0.mg "zip" = none) (ha : OkA G W X0 [e, e2] a) (hs : [e, e2].all notStar = true) :
    OkI G W X0 (.Tuple elts kk tpos) (.Call (.Name "zip" p) [e, e2] [] pos) (xI zipV a) := by
  rw [List.all_cons, Bool.and_eq_true] at hs
  refine pi_of (pi_zip2 hg hm ha (star_ne hs.1) (plain_of hs.2)) fun σ H Q h => tA_mono (tI_bind h) fun vs H1 ⟨r, m, xs, w, px, g⟩ => ?_
  match xs, px, g with
  | [x, y], px, g =>
    obtain ⟨v, u, rfl, pv, pu⟩ := rvs2 px
    obtain ⟨p, sp, hp, tp, g1⟩ := srcV_ok w pv (Go.bind g)
    obtain ⟨q, sq, hq, tq, g2⟩ := srcV_ok w pu (Go.bind g1)
    rw [hK]
    exact ⟨v, u, p, q, rfl, hp, hq, Go.ok w g2 _ _ feed_zip ⟨tp, tq⟩⟩
  | [], _, g => exact g.elim
  | [_], _, g => exact g.elim
  | _ :: _ :: _ :: _, _, g => exact g.elim
def okR (i : Int) : Bool := decide (-1000000000 ≤ i) && decide (i ≤ 1000000000)
def rng1V (xs : List MV) (m : MH) : R Src := match xs with
  | [.int j] => if okR j then .ok (.imm (rngL 0 j.toNat)) m else .bad
  | _ => .bad
def rng2V (xs : List MV) (m : MH) : R Src := match xs with
  | [.int i, .int j] => if okR i && okR j then .ok (.imm (rngL i (j - i).toNat)) m else .bad
  | _ => .bad
theorem okR_ok {i : Int} (h : okR i = true) : -(2 ^ 62) ≤ i ∧ i < 2 ^ 62 := by
  unfold okR at h
  rw [Bool.and_eq_true, decide_eq_true_iff, decide_eq_true_iff] at h
  omega
theorem ok_rng1 {tg e : Expr} {a : XS} {p pos : Pos} (hg : L2.Gl X0 "range") (hm : X0.mg "range" = none) (ha : OkA G W X0 [e] a) (hs : [e].all notStar = true) : OkI G W X0 tg (.Call (.Name "range" p) [e] [] pos) (xI rng1V a) := by
  rw [List.all_cons, Bool.and_eq_true] at hs
  refine pi_of (pi_range1 hg hm ha (star_ne hs.1)) fun σ H Q h => tA_mono (tI_bind h) fun vs H1 ⟨r, m, xs, w, px, g⟩ => ?_
  match xs, px, g with
  | [], _, g => exact g.elim
  | [x], px, g =>
    obtain ⟨v, rfl, pv⟩ := rvs1 px
    cases x <;> first | exact g.elim | skip
    rename_i j
    rw [RV] at pv
    subst pv
    dsimp only [rng1V] at g
    by_cases hz : okR j = true
    · rw [if_pos hz] at g
      refine ⟨j, rfl, (okR_ok hz).1, (okR_ok hz).2, Go.ok w g _ _ feed_rng ⟨Nat.zero_le _, ?_⟩⟩
      simp
    · rw [if_neg hz] at g
      exact g.elim
  | x :: y :: xs, px, g => cases x <;> exact g.elim
theorem ok_rng2 {tg e e2 : Expr} {a : XS} {p pos : Pos} (hg : L2.Gl X0 "range") (hm : X0.mg "range" = none) (ha : OkA G W X0 [e, e2] a) (hs : [e, e2].all notStar = true) : OkI G W X0 tg (.Call (.Name "range" p) [e, e2] [] pos) (xI rng2V a) := by
  have hs0 := hs
  rw [List.all_cons, Bool.and_eq_true, List.all_cons, Bool.and_eq_true] at hs
  refine pi_of (pi_range2 hg hm ha (by rw [star_ne hs.1, star_ne hs.2.1] <;> rfl) (star_ne hs.2.1)) fun σ H Q h => tA_mono (tI_bind h) fun vs H1 ⟨r, m, xs, w, px, g⟩ => ?_
  match xs, px, g with
  | [], _, g => exact g.elim
  | [x], px, g => cases x <;> exact g.elim
  | [x, y], px, g =>
    obtain ⟨v, u, rfl, pv, pu⟩ := rvs2 px
    cases x <;> first | exact g.elim | skip
    rename_i i
    cases y <;> first | exact g.elim | skip
    rename_i j
    rw [RV] at pv pu
    subst pv pu
    dsimp only [rng2V] at g
    by_cases hz : (okR i && okR j) = true
    · rw [if_pos hz] at g
      rw [Bool.and_eq_true] at hz
      refine ⟨i, j, rfl, ⟨(okR_ok hz.1).1, (okR_ok hz.1).2, (okR_ok hz.2).1, (okR_ok hz.2).2⟩, Go.ok w g _ _ feed_rng ⟨Nat.zero_le _, ?_⟩⟩
      simp
    · rw [if_neg hz] at g
      exact g.elim
  | x :: y :: z :: xs, px, g => cases x <;> first | exact g.elim | (cases y <;> exact g.elim)
/-! ### targets -/
/-- the slots sl at most are written -/
def tG (G : Gl) (W : Wi) (sl : List Nat) (f : XG) : TG := fun v σ H Q => ∃ r m s x, Wd G r m H ∧ RS G r m.n H s σ ∧ RV G r m.n H x v ∧ Go G W (fun r' m' H' s' => ∀ σ', RS G r' m'.n H' s' σ' → (∀ vs, (∀ i ∈ sl, i ∈ vs) → L2.wipe σ' vs = L2.wipe σ vs) → Q σ' H') r m H (f x s m)
def tGs (G : Gl) (W : Wi) (sl : List Nat) (f : XGs) : TGs := fun v σ H Q => ∃ r m s x, Wd G r m H ∧ RS G r m.n H s σ ∧ RVs G r m.n H x v ∧ Go G W (fun r' m' H' s' => ∀ σ', RS G r' m'.n H' s' σ' → (∀ vs, (∀ i ∈ sl, i ∈ vs) → L2.wipe σ' vs = L2.wipe σ vs) → Q σ' H') r m H (f x s m)
abbrev OkG (G : Gl) (W : Wi) (X0 : Cx) (e : Expr) (sl : List Nat) (f : XG) : Prop := PG X0 e (tG G W sl f)
abbrev OkGs (G : Gl) (W : Wi) (X0 : Cx) (es : List Expr) (sl : List Nat) (f : XGs) : Prop := PGs X0 es (tGs G W sl f)
theorem pg_of {X : Cx} {e : Expr} {t t' : TG} (h : PG X e t) (i : ∀ v σ H Q, t' v σ H Q → t v σ H Q) : PG X e t' := ⟨fun pins s σ H v u Q I r q => h.run pins s σ H v u Q I r (i v σ H Q q)⟩
theorem pgs_of {X : Cx} {e : List Expr} {t t' : TGs} (h : PGs X e t) (i : ∀ v σ H Q, t' v σ H Q → t v σ H Q) : PGs X e t' := ⟨fun pins s σ H v u Q I r q => h.run pins s σ H v u Q I r (i v σ H Q q)⟩
theorem wipe_set {σ : L2.St} {i : Nat} {x : Option V} : ∀ {vs : List Nat}, i ∈ vs → L2.wipe (σ.set i x) vs = L2.wipe σ vs := by
  have k : ∀ (vs : List Nat), L2.wipe (σ.set i x) vs = L2.wipe σ vs ∨ L2.wipe (σ.set i x) vs = (L2.wipe σ vs).set i x := by
    intro vs
    induction vs with
    | nil => exact .inr rfl
    | cons v vs ih =>
      rcases ih with e | e
      · left
        show (L2.wipe (σ.set i x) vs).set v none = (L2.wipe σ vs).set v none
        rw [e]
      · show (L2.wipe (σ.set i x) vs).set v none = (L2.wipe σ vs).set v none ∨ (L2.wipe (σ.set i x) vs).set v none = ((L2.wipe σ vs).set v none).set i x
        rw [e]
        by_cases q : v = i
        · subst q
          left
          rw [List.set_set]
        · right
          rw [List.set_comm _ _ (Ne.symm q)]
  intro vs
  induction vs with
  | nil => intro h; cases h
  | cons v vs ih =>
    intro h
    show (L2.wipe (σ.set i x) vs).set v none = (L2.wipe σ vs).set v none
    rcases k vs with e | e
    · rw [e]
    · by_cases q : v = i
      · subst q
        rw [e, List.set_set]
      · rw [ih ((List.mem_cons.mp h).resolve_left (Ne.symm q))]
def gNm (i : Nat) : XG := fun v s m => .ok (s.set i (some v)) m
theorem ok_gName {i : Nat} {x : Str} {pos : Pos} (hN : X0.N.Nodup) (hi : X0.N[i]? = some x) (hx : Loc X0.env.scope x) (hf : X0.fn x = true ∨ X0.env.scope.names.lookup x = some .local) : OkG G W X0 (.Name x pos) [i] (gNm i) :=
  pg_of (pg_name hN hi hx hf) fun v σ H Q h => by
    obtain ⟨r, m, s, x, w, q, p, g⟩ := h
    exact Go.ok w g _ (q.set p) fun vs hv => wipe_set (hv i (List.mem_singleton.mpr rfl))
def gsNil : XGs := fun v s m => match v with
  | [] => .ok s m
  | _ => .bad
def gsCons (f : XG) (k : XGs) : XGs := fun v s m => match v with
  | x :: xs => (f x s m).bind fun s1 m1 => k xs s1 m1
  | [] => .bad
theorem ok_gsNil : OkGs G W X0 [] [] gsNil := pgs_of pgs_nil fun v σ H Q h => by
  obtain ⟨r, m, s, x, w, q, p, g⟩ := h
  cases x with
  | nil =>
    rw [RVs] at p
    exact ⟨p, Go.ok w g _ q fun _ _ => rfl⟩
  | cons _ _ => exact g.elim
theorem ok_gsCons {e : Expr} {es : List Expr} {sl sl2 : List Nat} {f : XG} {k : XGs} (h1 : OkG G W X0 e sl f) (h2 : OkGs G W X0 es sl2 k) (hs : notStar e = true) : OkGs G W X0 (e :: es) (sl ++ sl2) (gsCons f k) :=
  pgs_of (pgs_cons h1 h2 (by cases e <;> first | rfl | cases hs)) fun v σ H Q h => by
    obtain ⟨r, m, s, x, w, q, p, g⟩ := h
    cases x with
    | nil => exact g.elim
    | cons y ys =>
      rw [RVs] at p
      obtain ⟨u, us, rfl, p, ps⟩ := p
      refine ⟨u, us, rfl, r, m, s, y, w, q, p, (Go.bind g).mono fun r1 m1 H1 s1 u1 w1 g1 σ1 q1 k1 => ?_⟩
      refine ⟨r1, m1, s1, ys, w1, q1, RVs.up u1 _ _ ps, g1.mono fun r2 m2 H2 s2 u2 w2 g2 σ2 q2 k2 => g2 σ2 q2 fun vs hv => ?_⟩
      rw [k2 vs fun i hi => hv i (List.mem_append_right _ hi), k1 vs fun i hi => hv i (List.mem_append_left _ hi)]
def gTp (n : Nat) (k : XGs) : XG := fun v s m => match v with
  | .tup xs => if xs.length = n then k xs s m else .bad
  | .ref i => match m.get i with
    | some (.lst xs) => if xs.length = n then k xs s m else .bad
    | _ => .bad
  | _ => .bad
theorem assignEach_len : ∀ {es : List Expr} {env : Env}, es.all notStar = true → (assignEach es env).length = es.length ∧ (assignEach es env).findIdx? (·.1) = none
  | [], _, _ => ⟨rfl, rfl⟩
  | e :: es, env, h => by
    rw [List.all_cons, Bool.and_eq_true] at h
    obtain ⟨h1, h2⟩ := assignEach_len (es := es) (env := env) h.2
    have e0 : assignEach (e :: es) env = (false, assign e env) :: assignEach es env := by cases e <;> first | rfl | cases h.1
    rw [e0]
    refine ⟨by rw [List.length_cons, List.length_cons, h1], ?_⟩
    rw [List.findIdx?_cons, h2] <;> rfl
theorem ok_gTup {es : List Expr} {k : Nat} {sl : List Nat} {f : XGs} {pos : Pos} (hK : X0.K = G.K) (hc : X0.calm = true) (h : OkGs G W X0 es sl f) (hs : es.all notStar = true) : OkG G W X0 (.Tuple es k pos) sl (gTp es.length f) := by
  refine ⟨fun pins s σ H v u Q I rv hw => ?_⟩
  obtain ⟨r, m, s', x, w, q, p, g⟩ := hw
  obtain ⟨l1, l2⟩ := assignEach_len (env := X0.env) hs
  cases x <;> first | exact g.elim | skip
  · rename_i i
    rw [RV] at p
    obtain ⟨hi, rfl⟩ := p
    dsimp only [gTp] at g
    cases e : m.get i with
    | none => rw [e] at g; exact g.elim
    | some o =>
      rw [e] at g
      cases o <;> first | exact g.elim | skip
      rename_i xs
      dsimp only at g
      by_cases z : xs.length = es.length
      · rw [if_pos z] at g
        obtain ⟨vs, hv, p⟩ := w.sqL e
        exact (pg_unl hc h l1 l2).run pins s σ H _ u Q I rv ⟨_, vs, rfl, by rw [hK]; exact hv, by rw [← p.length, z], r, m, s', xs, w, q, p, g⟩
      · rw [if_neg z] at g; exact g.elim
  · rename_i xs
    rw [RV] at p
    obtain ⟨a, vs, rfl, hv, p⟩ := p
    dsimp only [gTp] at g
    by_cases z : xs.length = es.length
    · rw [if_pos z] at g
      exact (pg_tup hc h l1 l2).run pins s σ H _ u Q I rv ⟨_, vs, rfl, by rw [hK]; exact hv, by rw [← p.length, z], r, m, s', xs, w, q, p, g⟩
    · rw [if_neg z] at g; exact g.elim
end
end
end Dv
/-! Dv11: loops, list comprehensions. -/
namespace Dv
noncomputable section
open PySem L2 PyProof.Rows
/-! ### a heap beside which a list stands that we do not name -/
section
variable {G : Gl} {W : Wi} {X0 : Cx} {r r' : Nat → Addr} {n n' : Nat} {m m' : MH} {H H' : Hp}
theorem up_put (w : Wd G r m H) {p : Addr} (hp : H p = none) (o : HO) : Up r m.n H r m.n (upd H p o) where
  le := Nat.le_refl _
  agr := fun _ _ => rfl
  tup := fun a vs e => by rw [upd_ne (ne_of_none e hp)]; exact e
  frz := fun a _ u e => by rw [upd_ne (ne_of_none e hp)]; exact e
  xd := fun a fs e => by rw [upd_ne (ne_of_none e hp)]; exact e
  own := fun a x e => by rw [upd_ne (ne_of_none e hp)]; exact .inl e
  frm := fun a u _ e _ => by rw [upd_ne (ne_of_none e hp)]; exact e
  trk := fun a e => upd_none e
  new := fun i h1 h2 => absurd h2 (Nat.not_lt.mpr h1)
theorem wd_put (w : Wd G r m H) {p : Addr} (hp : H p = none) (o : HO) : Wd G r m (upd H p o) := wd_up w (up_put w hp o) fun i xs hi e _ => by
  rw [upd_ne (ne_of_none e hp)]
  exact e
/-- an object that is not ours stays, and stays not ours -/
theorem Up.away (u : Up r n H r' n' H') {D : Addr} {l : HO} (hD : H D = some l) (hm : Mut (some l)) (hn : ∀ i, i < n → r i ≠ D) : H' D = some l ∧ ∀ i, i < n' → r' i ≠ D := by
  refine ⟨u.frm D l hn hD hm, fun i hi e => ?_⟩
  by_cases h : i < n
  · rw [u.agr i h] at e
    exact hn i h e
  · have z := (u.new i (Nat.not_lt.mp h) hi).2
    rw [e, hD] at z
    cases z
/-- writing to an object that is not ours -/
theorem tp_set {D : Addr} {l l' : HO} (hD : H D = some l) (hm : Mut (some l)) : Tp r n H r n (upd H D l') where
  le := Nat.le_refl _
  agr := fun _ _ => rfl
  tup := fun a vs e => by rw [upd_ne (ne_of e hD (mut_tup hm _).symm)]; exact e
  frz := fun a _ u e => by rw [upd_ne (ne_of e hD (mut_frz hm _ _).symm)]; exact e
  xd := fun a fs e => by rw [upd_ne (ne_of e hD (mut_xd hm _).symm)]; exact e
  own := fun a x e => by rw [upd_ne (ne_of e hD (mut_own hm _).symm)]; exact .inl e
theorem wd_set (w : Wd G r m H) {D : Addr} {l l' : HO} (hD : H D = some l) (hm : Mut (some l)) (hn : ∀ i, i < m.n → r i ≠ D) : Wd G r m (upd H D l') where
  len := w.len
  inj := w.inj
  obj := fun i o e => (w.obj i o e).tp (tp_set hD hm) fun vs q _ => by
    rw [upd_ne (hn i (get_lt e))]
    exact q
  lev := w.lev
  scr := (tp_set hD hm : Tp r m.n H r m.n (upd H D l')).scr w.scr
  scE := w.scE
/-- .. seen from a world in which it was not there -/
theorem up_set {D : Addr} {l' : HO} (u : Up r n H r' n' H') (hD : H D = none) : Up r n H r' n' (upd H' D l') where
  le := u.le
  agr := u.agr
  tup := fun a vs e => by rw [upd_ne (ne_of_none e hD)]; exact u.tup a vs e
  frz := fun a _ v e => by rw [upd_ne (ne_of_none e hD)]; exact u.frz a _ v e
  xd := fun a fs e => by rw [upd_ne (ne_of_none e hD)]; exact u.xd a fs e
  own := fun a x e => by rw [upd_ne (ne_of_none e hD)]; exact u.own a x e
  frm := fun a x h e hm => by rw [upd_ne (ne_of_none e hD)]; exact u.frm a x h e hm
  trk := fun a e => u.trk a (upd_none e)
  new := u.new
/-- such a list becomes ours -/
theorem up_own (w0 : Wd G r m H) (u : Up r m.n H r' n' H') {D : Addr} (hD : H D = none) : Up r m.n H (ext r' n' D) (n' + 1) H' where
  le := Nat.le_succ_of_le u.le
  agr := fun i hi => by
    rw [ext_ne (Nat.ne_of_lt (Nat.lt_of_lt_of_le hi u.le))]
    exact u.agr i hi
  tup := u.tup
  frz := u.frz
  xd := u.xd
  own := u.own
  frm := u.frm
  trk := u.trk
  new := fun i h1 h2 => by
    by_cases h : i = n'
    · subst h
      rw [ext_eq]
      exact ⟨fun j hj e => w0.ne hj hD e.symm, hD⟩
    · rw [ext_ne h]
      exact u.new i h1 (by omega)
theorem wd_own (w : Wd G r m H) {D : Addr} {xs : List MV} {vs : List V} (hD : H D = some (.lst vs)) (hn : ∀ i, i < m.n → r i ≠ D) (h : RVs G r m.n H xs vs) : Wd G (ext r m.n D) (m.push (.lst xs)) H where
  len := by show m.os.length + 1 = m.n + 1; rw [w.len]
  inj := fun i j hi hj e => by
    have hi : i < m.n + 1 := hi
    have hj : j < m.n + 1 := hj
    by_cases h1 : i = m.n <;> by_cases h2 : j = m.n
    · rw [h1, h2]
    · subst h1
      rw [ext_eq, ext_ne h2] at e
      exact absurd e.symm (hn j (by omega))
    · subst h2
      rw [ext_eq, ext_ne h1] at e
      exact absurd e (hn i (by omega))
    · rw [ext_ne h1, ext_ne h2] at e
      exact w.inj i j (by omega) (by omega) e
  obj := fun i o e => by
    have u : Tp r m.n H (ext r m.n D) (m.n + 1) H := ⟨Nat.le_succ _, fun i hi => ext_ne (Nat.ne_of_lt hi), fun _ _ h => h, fun _ _ _ h => h, fun _ _ h => h, fun _ _ h => .inl h⟩
    rw [get_push m w.len] at e
    by_cases h1 : i = m.n
    · subst h1
      rw [if_pos rfl] at e
      cases e
      rw [ext_eq]
      exact ⟨vs, hD, RVs.tp u xs vs h⟩
    · rw [if_neg h1] at e
      rw [ext_ne h1]
      exact (w.obj i o e).tp u fun ys q _ => q
  lev := lev_push w.len w.lev _
  scr := w.scr
  scE := w.scE
/-- outcomes as wished from an earlier world -/
theorem go_anch {α β : Type} {f : α → MH → R β} {P : β → MH → Prop} {x : R α} (h : (x.bind f).All P (exW G W r m H)) (u : Up r m.n H r' m'.n H') : Go G W (fun _ m2 _ a => (f a m2).All P (exW G W r m H)) r' m' H' x :=
  (R.All.bind.mp h).mono (fun a m2 h r2 H2 u2 w2 => h) (fun c v m2 h => exW.up u h)
/-! ### for -/
def endQ (G : Gl) (D : Ends) : (Nat → Addr) → MH → Hp → Fl → Prop := fun r' m' H' fl => match fl with
  | .nx s' => ∀ σ', RS G r' m'.n H' s' σ' → D.nx σ' H'
  | .rt v => ∀ u, RV G r' m'.n H' v u → D.rt u H'
  | .bk s' => ∀ σ', RS G r' m'.n H' s' σ' → D.bk σ' H'
  | .ct s' => ∀ σ', RS G r' m'.n H' s' σ' → D.ct σ' H'
def tZ (G : Gl) (W : Wi) (f : XZ) : TS := fun D σ H => At G (fun r m s => Go G W (endQ G D) r m H (f s m)) σ H
abbrev OkZ (G : Gl) (W : Wi) (X0 : Cx) (st : Stmt) (f : XZ) : Prop := PS X0 st (tZ G W f)
abbrev OkZs (G : Gl) (W : Wi) (X0 : Cx) (st : List Stmt) (f : XZ) : Prop := PSs X0 st (tZ G W f)
theorem ps_of {X : Cx} {st : Stmt} {t t' : TS} (h : PS X st t) (i : ∀ D σ H, t' D σ H → t D σ H) : PS X st t' := ⟨fun pins s σ H D I q => h.run pins s σ H D I (i D σ H q)⟩
theorem pss_of {X : Cx} {st : List Stmt} {t t' : TS} (h : PSs X st t) (i : ∀ D σ H, t' D σ H → t D σ H) : PSs X st t' := ⟨fun pins s σ H D I q => h.run pins s σ H D I (i D σ H q)⟩
def loopV (g : XG) (b : XZ) (k : Nat) : Src → XZ := Nat.rec (motive := fun _ => Src → XZ) (fun _ _ _ => .bad) (fun _ ih src s m => match src.step m with
  | .done => .ok (.nx s) m
  | .bad => .bad
  | .it x src' => (g x s m).bind fun s1 m1 => (b s1 m1).bind fun fl m2 => match fl with
    | .nx s2 => ih src' s2 m2
    | .ct s2 => ih src' s2 m2
    | .bk s2 => .ok (.nx s2) m2
    | .rt v => .ok (.rt v) m2) k
theorem loopV_succ (g : XG) (b : XZ) (k : Nat) (src : Src) (s : St) (m : MH) : loopV g b (k + 1) src s m = match src.step m with
  | .done => .ok (.nx s) m
  | .bad => .bad
  | .it x src' => (g x s m).bind fun s1 m1 => (b s1 m1).bind fun fl m2 => match fl with
    | .nx s2 => loopV g b k src' s2 m2
    | .ct s2 => loopV g b k src' s2 m2
    | .bk s2 => .ok (.nx s2) m2
    | .rt v => .ok (.rt v) m2 := rfl
def xFor (src : XI) (g : XG) (b : XZ) : XZ := fun s m => (src s m).bind fun sr m1 => loopV g b (sr.size m1 + 1) sr s m1
theorem ok_for {iter tg : Expr} {body : List Stmt} {src : XI} {g : XG} {sl : List Nat} {b : XZ} {pos : Pos} (hp : PassesOwn (model X0.prog X0.w) X0.A X0.env X0.xe) (hc : X0.calm = true) (hi : OkI G W X0 tg iter src) (hg : OkG G W X0 tg sl g) (hb : OkZs G W X0 body b)
    (hs : ∀ x, foldedSetIterable iter X0.env x = pure x) : OkZ G W X0 (.For tg iter body [] pos) (xFor src g b) := by
  refine ps_of (ps_for hp hc hi hg hb hs) fun D σ H h => ?_
  obtain ⟨r, m, s, w, q, go⟩ := h
  refine ⟨r, m, s, w, q, (Go.bind go).mono fun r1 m1 H1 sr u1 w1 g1 J T F t0 => ?_⟩
  refine ⟨fun i k σ H => ∃ r m s src, Wd G r m H ∧ RS G r m.n H s σ ∧ T i src r m.n H ∧ Go G W (endQ G D) r m H (loopV g b k src s m), ⟨_, r1, m1, s, sr, w1, q.up u1, t0, g1⟩, ?_⟩
  rintro i k σ2 H2 ⟨r2, m2, s2, src2, w2, q2, t2, g2⟩
  cases k with
  | zero => exact g2.elim
  | succ k =>
    rw [loopV_succ] at g2
    cases es : src2.step m2 with
    | bad => rw [es] at g2; exact g2.elim
    | done =>
      rw [es] at g2
      exact .inl ⟨F.stop i src2 r2 m2 H2 w2 t2 es, Go.ok w2 g2 σ2 q2⟩
    | it x src3 =>
      rw [es] at g2
      obtain ⟨hgo, hy⟩ := F.item i src2 r2 m2 H2 x src3 w2 t2 es
      refine .inr ⟨hgo, fun σ' H' => ∃ r m s, Wd G r m H' ∧ RS G r m.n H' s σ' ∧ T (i + 1) src3 r m.n H' ∧ Go G W (endQ G D) r m H' (loopV g b k src3 s m), fun σ' H' ⟨r, m, s, a, c, d, e⟩ => ⟨k, Nat.lt_succ_self k, r, m, s, src3, a, c, d, e⟩, fun v H3 hv => ?_⟩
      obtain ⟨u3, w3, p3, t3⟩ := hy v H3 hv
      refine ⟨r2, m2, s2, x, w3, q2.up u3, p3, (Go.bind (Go.up u3 g2)).mono fun r4 m4 H4 s4 u4 w4 g4 σ4 q4 _ => ?_⟩
      refine ⟨r4, m4, s4, w4, q4, (Go.bind g4).mono fun r5 m5 H5 fl u5 w5 g5 => ?_⟩
      have t5 := F.up _ _ _ _ _ _ _ _ (u4.trans u5).tp t3
      cases fl with
      | nx s5 => exact fun σ5 q5 => ⟨r5, m5, s5, w5, q5, t5, g5⟩
      | ct s5 => exact fun σ5 q5 => ⟨r5, m5, s5, w5, q5, t5, g5⟩
      | bk s5 => exact fun σ5 q5 => Go.ok w5 g5 σ5 q5
      | rt v => exact fun u p => Go.ok w5 g5 u p
/-! ### list comprehensions -/
def wipeM (s : St) (vs : List Nat) : St := List.rec (motive := fun _ => St) s (fun v _ ih => ih.set v none) vs
theorem wipeM_cons (s : St) (v : Nat) (vs : List Nat) : wipeM s (v :: vs) = (wipeM s vs).set v none := rfl
theorem rs_wipe {s : St} {σ : L2.St} (h : RS G r n H s σ) : ∀ vs : List Nat, RS G r n H (wipeM s vs) (L2.wipe σ vs)
  | [] => h
  | v :: vs => (rs_wipe h vs).wipe v
theorem wipe_idem {σ : L2.St} {ws : List Nat} : ∀ {vs : List Nat}, (∀ i ∈ vs, i ∈ ws) → L2.wipe (L2.wipe σ vs) ws = L2.wipe σ ws
  | [], _ => rfl
  | v :: vs, h => by
    show L2.wipe ((L2.wipe σ vs).set v none) ws = _
    rw [wipe_set (h v (List.mem_cons_self ..)), wipe_idem fun i hi => h i (List.mem_cons_of_mem _ hi)]
def tstV : Option XB → XB
  | none => fun _ m => .ok true m
  | some t => t
def lcV (g : XG) (t : XB) (e : X) (s : St) (k : Nat) : Src → MH → R (List MV) := Nat.rec (motive := fun _ => Src → MH → R (List MV)) (fun _ _ => .bad) (fun _ ih src m => match src.step m with
  | .done => .ok [] m
  | .bad => .bad
  | .it x src' => (g x s m).bind fun s1 m1 => (t s1 m1).bind fun b m2 => match b with
    | true => (e s1 m2).bind fun y m3 => (ih src' m3).bind fun ys m4 => .ok (y :: ys) m4
    | false => ih src' m2) k
theorem lcV_succ (g : XG) (t : XB) (e : X) (s : St) (k : Nat) (src : Src) (m : MH) : lcV g t e s (k + 1) src m = match src.step m with
  | .done => .ok [] m
  | .bad => .bad
  | .it x src' => (g x s m).bind fun s1 m1 => (t s1 m1).bind fun b m2 => match b with
    | true => (e s1 m2).bind fun y m3 => (lcV g t e s k src' m3).bind fun ys m4 => .ok (y :: ys) m4
    | false => lcV g t e s k src' m2 := rfl
def xLc (vs : List Nat) (src : XI) (g : XG) (t : Option XB) (e : X) : X := fun s m => (src s m).bind fun sr m1 => match Nat.ble (sr.size m1 + 1) big with
  | true => (lcV g (tstV t) e (wipeM s vs) (sr.size m1 + 1) sr m1).bind newL
  | false => .bad
inductive OkTs (G : Gl) (W : Wi) (X0 : Cx) : List Expr → Option XB → Prop where
  | none : OkTs G W X0 [] none
  | one {c : Expr} {t : XB} : OkT G W X0 c t → OkTs G W X0 [c] (some t)
theorem pts_of {X : Cx} {es : List Expr} {t t' : TT} (h : PTs X es t) (i : ∀ σ H Q, t' σ H Q → t σ H Q) : PTs X es t' := ⟨fun pins s σ H Q I q => h.run pins s σ H Q I (i σ H Q q)⟩
theorem OkTs.pts {es : List Expr} {t : Option XB} (h : OkTs G W X0 es t) : PTs X0 es (tT G W (tstV t)) := by
  cases h with
  | none => exact pts_of pts_nil fun σ H Q ⟨r, m, s, w, q, g⟩ => Go.ok w g
  | one h => exact pts_one h
/-- what the block's own names stand for -/
theorem tLc_of {vs sl : List Nat} {src : XI} {g : XG} {t : Option XB} {e : X} (hv : ∀ i ∈ sl, i ∈ vs) {σ : L2.St} {H : Hp} {Q : VK} (h : tE G noW (xLc vs src g t e) σ H Q) : tLc (tI G noW src) (tG G noW sl g) (tT G noW (tstV t)) (tE G noW e) vs σ H Q := by
  obtain ⟨r, m, s, w, q, go⟩ := h
  refine ⟨r, m, s, w, q, (Go.bind go).mono fun r1 m1 H1 sr u1 w1 g1 J T F t0 D hD => ?_⟩
  by_cases hz : Nat.ble (sr.size m1 + 1) big = true
  case neg =>
    rw [Bool.not_eq_true] at hz
    rw [hz] at g1
    exact g1.elim
  rw [hz] at g1
  have q1 : RS G r1 m1.n H1 (wipeM s vs) (L2.wipe σ vs) := rs_wipe (q.up u1) vs
  refine ⟨fun i k H => ∃ r m src acc l, Wd G r m H ∧ Up r1 m1.n H1 r m.n H ∧ T i src r m.n H ∧ H D = some (.lst l) ∧ (∀ j, j < m.n → r j ≠ D) ∧ RVs G r m.n H acc l ∧ acc.length + k ≤ big ∧
    (lcV g (tstV t) e (wipeM s vs) k src m).All (fun ys m' => (newL (acc ++ ys) m').All (okW G (vQ G Q) r1 m1 H1) (exW G noW r1 m1 H1)) (exW G noW r1 m1 H1),
    ⟨sr.size m1 + 1, r1, m1, sr, [], [], wd_put w1 hD _, up_put w1 hD _, F.up _ _ _ _ _ _ _ _ (up_put w1 hD _).tp t0, upd_same, fun j hj => w1.ne hj hD, RVs.nil, by
      rw [List.length_nil, Nat.zero_add]
      exact Nat.le_of_ble_eq_true hz, R.All.bind.mp g1⟩, ?_⟩
  rintro i k H2 ⟨r2, m2, src2, acc, l, w2, u2, t2, hl, hn, pa, hk, g2⟩
  cases k with
  | zero => exact g2.elim
  | succ k =>
    rw [lcV_succ] at g2
    cases es : src2.step m2 with
    | bad => rw [es] at g2; exact g2.elim
    | done =>
      rw [es] at g2
      refine .inl ⟨F.stop i src2 r2 m2 H2 w2 t2 es, ?_⟩
      have g3 : okW G (vQ G Q) r1 m1 H1 (.ref m2.n) (m2.push (.lst (acc ++ []))) := g2
      rw [List.append_nil] at g3
      refine g3 (ext r2 m2.n D) H2 (up_own w1 u2 hD) (wd_own w2 hl hn pa) (.ref D) ?_
      rw [RV]
      exact ⟨Nat.lt_succ_self _, by rw [ext_eq]⟩
    | it x src3 =>
      rw [es] at g2
      obtain ⟨hgo, hy⟩ := F.item i src2 r2 m2 H2 x src3 w2 t2 es
      refine .inr ⟨hgo, fun H' => ∃ r m acc l, Wd G r m H' ∧ Up r1 m1.n H1 r m.n H' ∧ T (i + 1) src3 r m.n H' ∧ H' D = some (.lst l) ∧ (∀ j, j < m.n → r j ≠ D) ∧ RVs G r m.n H' acc l ∧ acc.length + k ≤ big ∧
        (lcV g (tstV t) e (wipeM s vs) k src3 m).All (fun ys m' => (newL (acc ++ ys) m').All (okW G (vQ G Q) r1 m1 H1) (exW G noW r1 m1 H1)) (exW G noW r1 m1 H1),
        fun H' ⟨r, m, acc, l, a1, a2, a3, a4, a5, a6, a7, a8⟩ => ⟨k, Nat.lt_succ_self k, r, m, src3, acc, l, a1, a2, a3, a4, a5, a6, a7, a8⟩, fun v H3 hv' => ?_⟩
      obtain ⟨u3, w3, p3, t3⟩ := hy v H3 hv'
      have b3 := u2.trans u3
      obtain ⟨hl3, hn3⟩ := u3.away hl trivial hn
      refine ⟨r2, m2, wipeM s vs, x, w3, q1.up b3, p3, (go_anch g2 b3).mono fun r4 m4 H4 s4 u4 w4 g4 σ4 q4 k4 => ?_⟩
      have b4 := b3.trans u4
      obtain ⟨hl4, hn4⟩ := u4.away hl3 trivial hn3
      refine ⟨(k4 vs hv).trans (wipe_idem fun i hi => hi), r4, m4, s4, w4, q4, (go_anch g4 b4).mono fun r5 m5 H5 b u5 w5 g5 => ?_⟩
      have b5 := b4.trans u5
      obtain ⟨hl5, hn5⟩ := u5.away hl4 trivial hn4
      have v35 := u3.trans (u4.trans u5)
      have t5 := F.up _ _ _ _ _ _ _ _ (u4.trans u5).tp t3
      cases b with
      | false =>
        refine Eq.mpr (if_neg Bool.false_ne_true) ?_
        exact ⟨r5, m5, acc, l, w5, b5, t5, hl5, hn5, RVs.up v35 _ _ pa, by omega, g5⟩
      | true =>
        refine Eq.mpr (if_pos rfl) ?_
        refine ⟨r5, m5, s4, w5, q4.up u5, (go_anch g5 b5).mono fun r6 m6 H6 y u6 w6 g6 yv p6 => ?_⟩
        obtain ⟨hl6, hn6⟩ := u6.away hl5 trivial hn5
        have b6 := b5.trans u6
        have pa6 : RVs G r6 m6.n H6 acc l := RVs.up (v35.trans u6) _ _ pa
        have tp : Tp r6 m6.n H6 r6 m6.n (upd H6 D (.lst (l ++ [yv]))) := tp_set hl6 trivial
        refine ⟨l, hl6, ?_, r6, m6, acc ++ [y], l ++ [yv], wd_set w6 hl6 trivial hn6, up_set b6 hD, F.up _ _ _ _ _ _ _ _ tp (F.up _ _ _ _ _ _ _ _ u6.tp t5), upd_same, hn6, RVs.tp tp _ _ (pa6.append (RVs.cons p6 RVs.nil)), ?_, ?_⟩
        · rw [← pa6.length]
          exact Nat.lt_of_lt_of_le (show acc.length < big by omega) (by decide)
        · rw [List.length_append, List.length_singleton]
          omega
        · refine (R.All.bind.mp g6).mono (fun ys m' h => ?_) (fun _ _ _ h => h)
          rw [List.append_assoc]
          exact h
/-- [e for tg in iter if t] -/
theorem ok_lc {elt tg iter : Expr} {ifs : List Expr} {scope : Scope} {own : List (Str × Nat)} {sl : List Nat} {pos : Pos} {src : XI} {g : XG} {t : Option XB} {e : X} (hc : X0.calm = true) (hN : X0.N.Nodup) (hi : OkI G noW X0 tg iter src) (ok : BlkOk X0.N X0.env.scope scope own) (hv : ∀ i ∈ sl, i ∈ own.map (·.2))
    (hb : ∀ (s : Shared) (H : Hp) (C : Addr) (cl : List (Str × Addr)) (fp : List Addr), OkG G noW (X0.blk s H scope (compEnvC scope cl C X0.env) fp) tg sl g ∧ OkTs G noW (X0.blk s H scope (compEnvC scope cl C X0.env) fp) ifs t ∧ OkE G noW (X0.blk s H scope (compEnvC scope cl C X0.env) fp) elt e)
    (hs : ∀ x, foldedSetIterable iter X0.env x = pure x) : OkE G noW X0 (.ListComp elt [⟨tg, iter, ifs, 0⟩] scope pos) (xLc (own.map (·.2)) src g t e) :=
  pe_of (pe_lc hc hN hi ok (fun s H C cl fp => (hb s H C cl fp).1) (fun s H C cl fp => (hb s H C cl fp).2.1.pts) (fun s H C cl fp => (hb s H C cl fp).2.2) hs) fun σ H Q h => tLc_of hv h
end
end
end Dv
/-! Dv12: statements. -/
namespace Dv
noncomputable section
open PySem L2 PyProof.Rows
def xSet (e : X) (g : XG) : XZ := fun s m => (e s m).bind fun v m1 => (g v s m1).bind fun s1 m2 => .ok (.nx s1) m2
def xRet (e : X) : XZ := fun s m => (e s m).bind fun v m1 => .ok (.rt v) m1
def xRetN : XZ := fun s m => .ok (.rt .non) m
def xDo (e : X) : XZ := fun s m => (e s m).bind fun _ m1 => .ok (.nx s) m1
def xPass : XZ := fun s m => .ok (.nx s) m
def xBrk : XZ := fun s m => .ok (.bk s) m
def xCnt : XZ := fun s m => .ok (.ct s) m
def xBadZ : XZ := fun _ _ => .bad
def xSeq (a b : XZ) : XZ := fun s m => (a s m).bind fun fl m1 => match fl with
  | .nx s1 => b s1 m1
  | .rt v => .ok (.rt v) m1
  | .bk s1 => .ok (.bk s1) m1
  | .ct s1 => .ok (.ct s1) m1
def xIfS (t : XB) (a b : XZ) : XZ := fun s m => (t s m).bind fun c m1 => match c with
  | true => a s m1
  | false => b s m1
def whlV (t : XB) (b : XZ) (k : Nat) : XZ := Nat.rec (motive := fun _ => XZ) (fun _ _ => .bad) (fun _ ih s m => (t s m).bind fun c m1 => match c with
  | false => .ok (.nx s) m1
  | true => (b s m1).bind fun fl m2 => match fl with
    | .nx s2 => ih s2 m2
    | .ct s2 => ih s2 m2
    | .bk s2 => .ok (.nx s2) m2
    | .rt v => .ok (.rt v) m2) k
theorem whlV_succ (t : XB) (b : XZ) (k : Nat) (s : St) (m : MH) : whlV t b (k + 1) s m = (t s m).bind fun c m1 => match c with
  | false => .ok (.nx s) m1
  | true => (b s m1).bind fun fl m2 => match fl with
    | .nx s2 => whlV t b k s2 m2
    | .ct s2 => whlV t b k s2 m2
    | .bk s2 => .ok (.nx s2) m2
    | .rt v => .ok (.rt v) m2 := rfl
def xWhile (t : XB) (b : XZ) : XZ := whlV t b 1000000
/-- x op= y of two numbers -/
def augV (op : Operator) (x y : MV) (m : MH) : R MV := match op, x, y with
  | .Add, .int i, .int j => .ok (.int (i + j)) m
  | .Sub, .int i, .int j => .ok (.int (i - j)) m
  | _, _, _ => .bad
def xAug (i : Nat) (op : Operator) (e : X) : XZ := fun s m => (xLoc i s m).bind fun x m1 => (e s m1).bind fun y m2 => (augV op x y m2).bind fun z m3 => .ok (.nx (s.set i (some z))) m3
section
variable {G : Gl} {W : Wi} {X0 : Cx} {r r' : Nat → Addr} {n n' : Nat} {m m' : MH} {H H' : Hp}
theorem tZ_at {f : XZ} {D : Ends} {σ : L2.St} {s : St} (w : Wd G r m H) (q : RS G r m.n H s σ) (g : Go G W (endQ G D) r m H (f s m)) : tZ G W f D σ H := ⟨r, m, s, w, q, g⟩
/-- a value stored -/
theorem tAsg_of {e : X} {g : XG} {sl : List Nat} {D : Ends} {σ : L2.St} (h : tZ G W (xSet e g) D σ H) : tAsg (tE G W e) (tG G W sl g) D σ H := by
  obtain ⟨r, m, s, w, q, go⟩ := h
  refine ⟨r, m, s, w, q, (Go.bind go).mono fun r1 m1 H1 x u1 w1 g1 v p => ?_⟩
  exact ⟨r1, m1, s, x, w1, q.up u1, p, (Go.bind g1).mono fun r2 m2 H2 s2 u2 w2 g2 σ2 q2 _ => Go.ok w2 g2 σ2 q2⟩
theorem ok_set {i : Nat} {x : Str} {e : Expr} {f : X} {pos pos' : Pos} (hN : X0.N.Nodup) (hi : X0.N[i]? = some x) (hx : Loc X0.env.scope x) (he : OkE G W X0 e f) (hs : swapsWith e (some (.Name x pos')) pos.line X0.env = pure false) (hf : X0.fn x = true ∨ X0.env.scope.names.lookup x = some .local) :
    OkZ G W X0 (.Assign [.Name x pos'] e pos) (xSet f (gNm i)) :=
  ps_of (ps_set hN hi hx he hs hf) fun D σ H h => by
    obtain ⟨r, m, s, w, q, go⟩ := h
    refine ⟨r, m, s, w, q, (Go.bind go).mono fun r1 m1 H1 x u1 w1 g1 v p => ?_⟩
    exact Go.ok w1 (show Go G W (endQ G D) r1 m1 H1 (.ok (.nx (s.set i (some x))) m1) from g1) _ ((q.up u1).set p)
theorem ok_asg {tg e : Expr} {f : X} {g : XG} {sl : List Nat} {pos : Pos} (he : OkE G W X0 e f) (hg : OkG G W X0 tg sl g) (hn : notStar tg = true) (hs : swapsWithSole [tg] e pos.line X0.env = pure false) (hw : swappedStores [tg] e X0.env = pure none) :
    OkZ G W X0 (.Assign [tg] e pos) (xSet f g) :=
  ps_of (ps_asg he hg hs hw (by cases tg <;> first | rfl | cases hn)) fun D σ H h => tAsg_of h
/-- name = [..] -/
theorem ok_setLc {i : Nat} {y : Str} {py : Pos} {elt tg iter : Expr} {ifs : List Expr} {scope : Scope} {own : List (Str × Nat)} {sl : List Nat} {pos spos : Pos} {src : XI} {g : XG} {t : Option XB} {e : X} (hc : X0.calm = true) (hN : X0.N.Nodup) (hy : X0.N[i]? = some y) (hyl : X0.env.scope.names.lookup y = some .local)
    (hsw : swapsWith (.ListComp elt [⟨tg, iter, ifs, 0⟩] scope pos) (some (.Name y py)) spos.line X0.env = pure true) (hi : OkI G noW X0 tg iter src) (ok : BlkOk X0.N X0.env.scope scope own) (hv : ∀ i ∈ sl, i ∈ own.map (·.2))
    (hb : ∀ (s : Shared) (H : Hp) (C : Addr) (cl : List (Str × Addr)) (fp : List Addr), OkG G noW (X0.blk s H scope (compEnvC scope cl C X0.env) fp) tg sl g ∧ OkTs G noW (X0.blk s H scope (compEnvC scope cl C X0.env) fp) ifs t ∧ OkE G noW (X0.blk s H scope (compEnvC scope cl C X0.env) fp) elt e)
    (hs : ∀ x, foldedSetIterable iter X0.env x = pure x) : OkZ G noW X0 (.Assign [.Name y py] (.ListComp elt [⟨tg, iter, ifs, 0⟩] scope pos) spos) (xSet (xLc (own.map (·.2)) src g t e) (gNm i)) :=
  ps_of (ps_setLc hc hN hy hyl hsw hi ok (fun s H C cl fp => (hb s H C cl fp).1) (fun s H C cl fp => (hb s H C cl fp).2.1.pts) (fun s H C cl fp => (hb s H C cl fp).2.2) hs) fun D σ H h => by
    refine tLc_of (Q := fun x H1 => gName i x σ H1 D.nx) hv ?_
    obtain ⟨r, m, s, w, q, go⟩ := h
    refine ⟨r, m, s, w, q, (Go.bind go).mono fun r1 m1 H1 x u1 w1 g1 v p => ?_⟩
    exact Go.ok w1 (show Go G noW (endQ G D) r1 m1 H1 (.ok (.nx (s.set i (some x))) m1) from g1) _ ((q.up u1).set p)
theorem ok_ret {e : Expr} {f : X} {pos : Pos} (he : OkE G W X0 e f) : OkZ G W X0 (.Return (some e) pos) (xRet f) := ps_of (ps_ret he) fun D σ H h => by
  obtain ⟨r, m, s, w, q, go⟩ := h
  exact ⟨r, m, s, w, q, (Go.bind go).mono fun r1 m1 H1 x u1 w1 g1 v p => Go.ok w1 g1 v p⟩
theorem ok_retN {pos : Pos} : OkZ G W X0 (.Return none pos) xRetN := ps_of ps_retN fun D σ H h => by
  obtain ⟨r, m, s, w, q, go⟩ := h
  exact Go.ok w go .non rv_non
theorem ok_do {e : Expr} {f : X} {pos : Pos} (he : OkE G W X0 e f) (hs : swapsWith e none pos.line X0.env = pure false) : OkZ G W X0 (.Expr e pos) (xDo f) := ps_of (ps_expr he hs) fun D σ H h => by
  obtain ⟨r, m, s, w, q, go⟩ := h
  exact ⟨r, m, s, w, q, (Go.bind go).mono fun r1 m1 H1 x u1 w1 g1 v p => Go.ok w1 g1 σ (q.up u1)⟩
theorem ok_pass {pos : Pos} : OkZ G W X0 (.Pass pos) xPass := ps_of ps_pass fun D σ H h => by
  obtain ⟨r, m, s, w, q, go⟩ := h
  exact Go.ok w go σ q
theorem ok_brk {pos : Pos} : OkZ G W X0 (.Break pos) xBrk := ps_of ps_break fun D σ H h => by
  obtain ⟨r, m, s, w, q, go⟩ := h
  exact Go.ok w go σ q
theorem ok_cnt {pos : Pos} : OkZ G W X0 (.Continue pos) xCnt := ps_of ps_continue fun D σ H h => by
  obtain ⟨r, m, s, w, q, go⟩ := h
  exact Go.ok w go σ q
theorem ok_doc {x : Str} {j : Nat} {pos pos' : Pos} : OkZ G W X0 (.Expr (.Constant (.str x) j pos) pos') xPass := ps_of ps_doc fun D σ H h => by
  obtain ⟨r, m, s, w, q, go⟩ := h
  exact Go.ok w go σ q
theorem ok_badZ {st : Stmt} : OkZ G W X0 st xBadZ := ps_of ps_never fun D σ H h => by
  obtain ⟨r, m, s, w, q, go⟩ := h
  exact go.elim
theorem ok_nilZ : OkZs G W X0 [] xPass := pss_of pss_nil fun D σ H h => by
  obtain ⟨r, m, s, w, q, go⟩ := h
  exact Go.ok w go σ q
theorem ok_oneZ {st : Stmt} {f : XZ} (h : OkZ G W X0 st f) : OkZs G W X0 [st] f := pss_one h
theorem ok_consZ {st : Stmt} {sts : List Stmt} {f k : XZ} (h1 : OkZ G W X0 st f) (h2 : OkZs G W X0 sts k) : OkZs G W X0 (st :: sts) (xSeq f k) := pss_of (pss_cons h1 h2) fun D σ H h => by
  obtain ⟨r, m, s, w, q, go⟩ := h
  refine ⟨r, m, s, w, q, (Go.bind go).mono fun r1 m1 H1 fl u1 w1 g1 => ?_⟩
  cases fl with
  | nx s1 => exact fun σ1 q1 => ⟨r1, m1, s1, w1, q1, g1⟩
  | rt v => exact fun u p => Go.ok w1 g1 u p
  | bk s1 => exact fun σ1 q1 => Go.ok w1 g1 σ1 q1
  | ct s1 => exact fun σ1 q1 => Go.ok w1 g1 σ1 q1
theorem ok_ifS {c : Expr} {a b : List Stmt} {t : XB} {f g : XZ} {pos : Pos} (hc : OkT G W X0 c t) (ha : OkZs G W X0 a f) (hb : OkZs G W X0 b g) : OkZ G W X0 (.If c a b pos) (xIfS t f g) := ps_of (ps_if hc ha hb) fun D σ H h => by
  obtain ⟨r, m, s, w, q, go⟩ := h
  refine ⟨r, m, s, w, q, (Go.bind go).mono fun r1 m1 H1 b u1 w1 g1 => ?_⟩
  cases b with
  | true => exact Eq.mpr (if_pos rfl) (tZ_at w1 (q.up u1) g1)
  | false => exact Eq.mpr (if_neg Bool.false_ne_true) (tZ_at w1 (q.up u1) g1)
theorem ok_while {c : Expr} {body : List Stmt} {t : XB} {b : XZ} {pos : Pos} (hp : PassesOwn (model X0.prog X0.w) X0.A X0.env X0.xe) (hc : OkT G W X0 c t) (hb : OkZs G W X0 body b) : OkZ G W X0 (.While c body [] pos) (xWhile t b) := ps_of (ps_while hp hc hb) fun D σ H h => by
  obtain ⟨r, m, s, w, q, go⟩ := h
  refine ⟨fun k σ H => ∃ r m s, Wd G r m H ∧ RS G r m.n H s σ ∧ Go G W (endQ G D) r m H (whlV t b k s m), ⟨_, r, m, s, w, q, go⟩, ?_⟩
  rintro k σ2 H2 ⟨r2, m2, s2, w2, q2, g2⟩
  cases k with
  | zero => exact g2.elim
  | succ k =>
    rw [whlV_succ] at g2
    refine ⟨r2, m2, s2, w2, q2, (Go.bind g2).mono fun r3 m3 H3 c u3 w3 g3 => ?_⟩
    cases c with
    | false => exact Eq.mpr (if_neg Bool.false_ne_true) (Go.ok w3 g3 σ2 (q2.up u3))
    | true =>
      refine Eq.mpr (if_pos rfl) ⟨fun σ' H' => ∃ r m s, Wd G r m H' ∧ RS G r m.n H' s σ' ∧ Go G W (endQ G D) r m H' (whlV t b k s m), fun σ' H' ⟨r, m, s, a, c, d⟩ => ⟨k, Nat.lt_succ_self k, r, m, s, a, c, d⟩, ?_⟩
      refine ⟨r3, m3, s2, w3, q2.up u3, (Go.bind g3).mono fun r5 m5 H5 fl u5 w5 g5 => ?_⟩
      cases fl with
      | nx s5 => exact fun σ5 q5 => ⟨r5, m5, s5, w5, q5, g5⟩
      | ct s5 => exact fun σ5 q5 => ⟨r5, m5, s5, w5, q5, g5⟩
      | bk s5 => exact fun σ5 q5 => Go.ok w5 g5 σ5 q5
      | rt v => exact fun u p => Go.ok w5 g5 u p
def ipV (op : Operator) : TIp := fun x y H Q => ∃ i j : Int, x = .int i ∧ y = .int j ∧ ((op = .Add ∧ Q (.int (i + j)) H) ∨ (op = .Sub ∧ Q (.int (i - j)) H))
theorem ok_ipV {op : Operator} : PIp X0 op (ipV op) := fun pins s σ H x y v u Q I rx ry h => by
  obtain ⟨i, j, e1, e2, ⟨rfl, q⟩ | ⟨rfl, q⟩⟩ := h
  · exact ip_add pins s σ H x y v u Q I rx ry ⟨i, j, e1, e2, q⟩
  · exact ip_sub pins s σ H x y v u Q I rx ry ⟨i, j, e1, e2, q⟩
theorem ok_aug {i : Nat} {x : Str} {e : Expr} {f : X} {op : Operator} {pos pos' : Pos} (hN : X0.N.Nodup) (hi : X0.N[i]? = some x) (hx : Loc X0.env.scope x) (he : OkE G W X0 e f) (hf : X0.fn x = true ∨ X0.env.scope.names.lookup x = some .local) : OkZ G W X0 (.AugAssign (.Name x pos') op e pos) (xAug i op f) :=
  ps_of (ps_aug hN hi hx he ok_ipV hf) fun D σ H h => by
    obtain ⟨r, m, s, w, q, go⟩ := h
    unfold xAug xLoc at go
    cases es : s[i]? with
    | none => rw [es] at go; exact go.elim
    | some o =>
      rw [es] at go
      cases o with
      | none => exact go.elim
      | some v =>
        obtain ⟨v', e', p⟩ := q.2 i v es
        refine ⟨v', e', r, m, s, w, q, ?_⟩
        have g1 : Go G W (endQ G D) r m H ((f s m).bind fun y m2 => (augV op v y m2).bind fun z m3 => .ok (.nx (s.set i (some z))) m3) := go
        refine (Go.bind g1).mono fun r1 m1 H1 y u1 w1 g2 yv py => ?_
        cases v <;> first | (cases op <;> exact g2.elim) | skip
        cases y <;> first | (cases op <;> exact g2.elim) | skip
        rw [RV] at p py
        subst p py
        have k : ∀ z : Int, Go G W (endQ G D) r1 m1 H1 (.ok (.nx (s.set i (some (.int z)))) m1) → D.nx (σ.set i (some (.int z))) H1 := fun z g => Go.ok w1 g _ ((q.up u1).set rv_int)
        cases op <;> first | exact g2.elim | skip
        · exact ⟨_, _, rfl, rfl, .inl ⟨rfl, k _ g2⟩⟩
        · exact ⟨_, _, rfl, rfl, .inr ⟨rfl, k _ g2⟩⟩
end
end
end Dv
/-! Dv13: the frames of calls; what a call leaves of the heap. -/
namespace Dv
noncomputable section
open PySem L2 PyProof.Rows
def MH.enter (m : MH) : MH := ⟨m.n, m.n :: m.lo, m.os, m.sc⟩
def MH.pop (m : MH) : MH := ⟨m.n, m.lo.tail, m.os, m.sc⟩
/-- levels at most k -/
def capL (k : Nat) (ls : List Nat) : List Nat := List.rec (motive := fun _ => List Nat) [] (fun l _ ih => (match Nat.ble l k with
  | true => l
  | false => 0) :: ih) ls
/-- the objects below k alone -/
def MH.cut (m : MH) (k : Nat) : MH := ⟨k, capL k m.lo.tail, m.os.drop (m.n - k), m.sc⟩
/-- a call's value; the new objects are forgotten where nothing old names them (but the value itself, a flat one) -/
def fin (k : Nat) (v : MV) (m : MH) : R MV := match m.lo with
  | [] => .bad
  | l :: _ => match Nat.beq l k with
    | false => .ok v m.pop
    | true => match v.under k with
      | true => .ok v (m.cut k)
      | false => match v with
        | .ref i => match m.get i with
          | some o => match o.under k with
            | true => .ok (.ref k) ((m.cut k).push o)
            | false => .ok v m.pop
          | none => .bad
        | _ => .ok v m.pop
def callR (k : Nat) (x : R Fl) : R MV := R.rec (motive := fun _ => R MV) (fun fl m => match fl with
  | .nx _ => fin k .non m
  | .rt v => fin k v m
  | .bk _ => .bad
  | .ct _ => .bad) (fun c v m => .exc c v m.pop) (fun n _ ih => .cho n ih) .bad x
def frameV (ns : Nat) (xs : List MV) : St := xs.map some ++ List.replicate (ns - xs.length) none
/-- a def of np parameters and ns names -/
def callD (np ns : Nat) (b : XZ) : List MV → MH → R MV := fun xs m => match Nat.beq xs.length np with
  | true => callR m.n (b (frameV ns xs) m.enter)
  | false => .bad
section
variable {G : Gl} {r r' : Nat → Addr} {n : Nat} {m : MH} {H H' : Hp}
mutual
theorem RV.under : ∀ (x : MV) (v : V), RV G r n H x v → x.under n = true
  | .non, v, h => by rw [MV.under] <;> intros <;> contradiction
  | .bl b, v, h => by rw [MV.under] <;> intros <;> contradiction
  | .int i, v, h => by rw [MV.under] <;> intros <;> contradiction
  | .str s, v, h => by rw [MV.under] <;> intros <;> contradiction
  | .fn g, v, h => by rw [MV.under] <;> intros <;> contradiction
  | .scr, v, h => by rw [MV.under] <;> intros <;> contradiction
  | .ref i, v, h => by
    rw [RV] at h
    rw [MV.under]
    exact Nat.ble_eq.mpr h.1
  | .tup xs, v, h => by
    rw [RV] at h
    obtain ⟨a, vs, e, s, q⟩ := h
    rw [MV.under]
    exact RVs.under xs vs q
theorem RVs.under : ∀ (xs : List MV) (vs : List V), RVs G r n H xs vs → MV.unders n xs = true
  | [], vs, h => by rw [MV.unders]
  | x :: xs, vs, h => by
    rw [RVs] at h
    obtain ⟨v, ws, e, p, q⟩ := h
    rw [MV.unders, RV.under x v p, RVs.under xs ws q] <;> rfl
end
mutual
theorem RV.cut {k : Nat} : ∀ (x : MV) (v : V), RV G r n H x v → x.under k = true → RV G r k H x v
  | .non, v, h, _ => by rw [RV] at h ⊢; exact h
  | .bl b, v, h, _ => by rw [RV] at h ⊢; exact h
  | .int i, v, h, _ => by rw [RV] at h ⊢; exact h
  | .str s, v, h, _ => by rw [RV] at h ⊢; exact h
  | .fn g, v, h, _ => by rw [RV] at h ⊢; exact h
  | .scr, v, h, _ => by rw [RV] at h ⊢; exact h
  | .ref i, v, h, u => by
    rw [RV] at h ⊢
    rw [MV.under] at u
    exact ⟨Nat.ble_eq.mp u, h.2⟩
  | .tup xs, v, h, u => by
    rw [RV] at h ⊢
    rw [MV.under] at u
    obtain ⟨a, vs, e, s, q⟩ := h
    exact ⟨a, vs, e, s, RVs.cut' xs vs q u⟩
theorem RVs.cut' {k : Nat} : ∀ (xs : List MV) (vs : List V), RVs G r n H xs vs → MV.unders k xs = true → RVs G r k H xs vs
  | [], vs, h, _ => by rw [RVs] at h ⊢; exact h
  | x :: xs, vs, h, u => by
    rw [RVs] at h ⊢
    rw [MV.unders, Bool.and_eq_true] at u
    obtain ⟨v, ws, e, p, q⟩ := h
    exact ⟨v, ws, e, RV.cut x v p u.1, RVs.cut' xs ws q u.2⟩
end
theorem keyOf_under {n : Nat} {x : MV} {k : Key} (h : keyOf x = some k) : x.under n = true := by
  cases x <;> first | (cases h; done) | (rw [MV.under] <;> intros <;> contradiction)
theorem RKs.under : ∀ {ps : List (MV × MV)} {ws : List (Key × V)}, RKs G r n H ps ws → (ps.all fun p => p.1.under n && p.2.under n) = true
  | [], _, _ => rfl
  | p :: ps, ws, h => by
    obtain ⟨k, v, us, _, hk, hv, q⟩ := h
    rw [List.all_cons, keyOf_under hk, RV.under _ _ hv, RKs.under q] <;> rfl
theorem RKs.cut {k : Nat} : ∀ {ps : List (MV × MV)} {ws : List (Key × V)}, RKs G r n H ps ws → (ps.all fun p => p.1.under k && p.2.under k) = true → RKs G r k H ps ws
  | [], _, h, _ => h
  | p :: ps, ws, h, u => by
    obtain ⟨x, v, us, e, hk, hv, q⟩ := h
    rw [List.all_cons, Bool.and_eq_true, Bool.and_eq_true] at u
    exact ⟨x, v, us, e, hk, RV.cut _ _ hv u.1.2, RKs.cut q u.2⟩
theorem RO.under {o : MO} {a : Addr} (h : RO G r n H o a) : o.under n = true := by
  cases o with
  | lst xs =>
    obtain ⟨vs, e, q⟩ := h
    exact RVs.under xs vs q
  | pot k => rfl
  | dct lk kvs =>
    obtain ⟨ws, p, _⟩ := h
    exact p.under
  | ins c fs =>
    obtain ⟨dx, vs, _, _, q⟩ := h
    refine List.all_eq_true.mpr fun o ho => ?_
    cases o with
    | none => rfl
    | some x =>
      obtain ⟨i, hi⟩ := List.mem_iff_getElem?.mp ho
      obtain ⟨v, _, p⟩ := q i x hi
      exact RV.under _ _ p
  | gone => rfl
theorem RO.cut {k : Nat} {o : MO} {a : Addr} (h : RO G r n H o a) (u : o.under k = true) : RO G r k H o a := by
  cases o with
  | lst xs =>
    obtain ⟨vs, e, q⟩ := h
    exact ⟨vs, e, RVs.cut' xs vs q u⟩
  | pot k => exact h
  | dct lk kvs =>
    obtain ⟨ws, p, nd, q⟩ := h
    exact ⟨ws, p.cut u, nd, q⟩
  | ins c fs =>
    obtain ⟨dx, vs, h, hd, q⟩ := h
    refine ⟨dx, vs, h, hd, fun i x e => ?_⟩
    obtain ⟨v, e2, p⟩ := q i x e
    exact ⟨v, e2, RV.cut _ _ p (List.all_eq_true.mp u (some x) (List.mem_iff_getElem?.mpr ⟨i, e⟩))⟩
  | gone => exact h
theorem Wd.enter (w : Wd G r m H) : Wd G r m.enter H where
  len := w.len
  inj := w.inj
  obj := w.obj
  lev := fun l hl => by
    rcases List.mem_cons.mp hl with rfl | hl
    · exact ⟨Nat.le_refl _, fun i o _ e => (w.obj i o e).under⟩
    · exact w.lev l hl
  scr := w.scr
  scE := w.scE
theorem Wd.pop (w : Wd G r m H) : Wd G r m.pop H where
  len := w.len
  inj := w.inj
  obj := w.obj
  lev := fun l hl => w.lev l (List.mem_of_mem_tail hl)
  scr := w.scr
  scE := w.scE
theorem mem_capL {k : Nat} : ∀ {ls : List Nat} {l : Nat}, l ∈ capL k ls → l ≤ k ∧ (l ∈ ls ∨ l = 0)
  | [], l, h => by cases h
  | x :: ls, l, h => by
    have h : l ∈ (match Nat.ble x k with
      | true => x
      | false => 0) :: capL k ls := h
    rcases List.mem_cons.mp h with e | h
    · cases q : Nat.ble x k with
      | true =>
        rw [q] at e
        subst e
        exact ⟨Nat.le_of_ble_eq_true q, .inl (List.mem_cons_self ..)⟩
      | false =>
        rw [q] at e
        subst e
        exact ⟨Nat.zero_le _, .inr rfl⟩
    · obtain ⟨h1, h2⟩ := mem_capL h
      exact ⟨h1, h2.imp (List.mem_cons_of_mem _) id⟩
theorem get_cut {k : Nat} (hl : m.os.length = m.n) (hk : k ≤ m.n) {i : Nat} {o : MO} (h : (m.cut k).get i = some o) : i < k ∧ m.get i = some o := by
  have hi : i < k := get_lt h
  refine ⟨hi, ?_⟩
  unfold MH.get at h ⊢
  rw [if_pos (show i < (m.cut k).n from hi)] at h
  rw [if_pos (show i < m.n by omega)]
  have h : (m.os.drop (m.n - k))[k - 1 - i]? = some o := h
  rw [List.getElem?_drop, show m.n - k + (k - 1 - i) = m.n - 1 - i by omega] at h
  exact h
theorem Wd.cut (w : Wd G r m H) {k : Nat} (hk : k ≤ m.n) (hc : ∀ i o, i < k → m.get i = some o → o.under k = true) : Wd G r (m.cut k) H where
  len := by
    show (m.os.drop (m.n - k)).length = k
    rw [List.length_drop, w.len]
    omega
  inj := fun i j hi hj e => w.inj i j (Nat.lt_of_lt_of_le hi hk) (Nat.lt_of_lt_of_le hj hk) e
  obj := fun i o e => by
    obtain ⟨h1, h2⟩ := get_cut w.len hk e
    exact (w.obj i o h2).cut (hc i o h1 h2)
  lev := fun l hl => by
    obtain ⟨h1, h2⟩ := mem_capL hl
    refine ⟨h1, fun i o hi e => ?_⟩
    rcases h2 with h2 | h2
    · exact (w.lev l (List.mem_of_mem_tail h2)).2 i o hi (get_cut w.len hk e).2
    · rw [h2] at hi
      exact absurd hi (Nat.not_lt_zero _)
  scr := w.scr
  scE := w.scE
theorem Up.cut {n' : Nat} (u : Up r n H r' n' H') : Up r n H r' n H' := ⟨Nat.le_refl n, u.agr, u.tup, u.frz, u.xd, u.own, u.frm, u.trk, fun i h1 h2 => absurd h2 (Nat.not_lt.mpr h1)⟩
/-- a call's value, read back -/
theorem fin_ok {Q : VK} {W : Wi} {m1 : MH} {v : MV} {u : V} (g : Go G W (vQ G Q) r m H (fin m.n v m1)) (up : Up r m.n H r' m1.n H') (w : Wd G r' m1 H') (p : RV G r' m1.n H' v u) : Q u H' := by
  unfold fin at g
  have hpop : Go G W (vQ G Q) r m H (.ok v m1.pop) → Q u H' := fun g => g r' H' up w.pop u p
  cases e : m1.lo with
  | nil => rw [e] at g; exact g.elim
  | cons l ls =>
    rw [e] at g
    dsimp only at g
    cases e2 : Nat.beq l m.n with
    | false => rw [e2] at g; exact hpop g
    | true =>
      rw [e2] at g
      dsimp only at g
      have el : l = m.n := Nat.eq_of_beq_eq_true e2
      have hc : ∀ i o, i < m.n → m1.get i = some o → o.under m.n = true := fun i o hi h => by
        have := (w.lev l (by rw [e]; exact List.mem_cons_self ..)).2 i o (by rw [el]; exact hi) h
        rw [el] at this
        exact this
      have wc := w.cut up.le hc
      cases e3 : v.under m.n with
      | true =>
        rw [e3] at g
        exact g r' H' up.cut wc u (RV.cut v u p e3)
      | false =>
        rw [e3] at g
        cases v <;> first | exact hpop g | skip
        rename_i i
        dsimp only at g
        cases e4 : m1.get i with
        | none => rw [e4] at g; exact g.elim
        | some o =>
          rw [e4] at g
          dsimp only at g
          cases e5 : o.under m.n with
          | false => rw [e5] at g; exact hpop g
          | true =>
            rw [e5] at g
            rw [RV] at p
            have hi : m.n ≤ i := by
              refine Nat.not_lt.mp fun h => ?_
              have : MV.under m.n (.ref i) = true := by
                rw [MV.under]
                exact Nat.ble_eq.mpr h
              rw [this] at e3
              cases e3
            obtain ⟨n1, n2⟩ := up.new i hi p.1
            have tp : Tp r' m.n H' (ext r' m.n (r' i)) (m.n + 1) H' := ⟨Nat.le_succ _, fun j hj => ext_ne (Nat.ne_of_lt hj), fun _ _ h => h, fun _ _ _ h => h, fun _ _ h => h, fun _ _ h => .inl h⟩
            refine g (ext r' m.n (r' i)) H' ⟨Nat.le_succ _, fun j hj => ?_, up.tup, up.frz, up.xd, up.own, up.frm, up.trk, fun j h1 h2 => ?_⟩ ⟨?_, fun a b ha hb q => ?_, fun a q h => ?_, ?_, w.scr, w.scE⟩ u ?_
            · rw [ext_ne (Nat.ne_of_lt hj)]
              exact up.agr j hj
            · have e6 : j = m.n := by
                have : j < m.n + 1 := h2
                omega
              rw [e6, ext_eq]
              exact ⟨n1, n2⟩
            · show (m1.cut m.n).os.length + 1 = m.n + 1
              rw [wc.len] <;> rfl
            · have ha : a < m.n + 1 := ha
              have hb : b < m.n + 1 := hb
              by_cases h1 : a = m.n <;> by_cases h2 : b = m.n
              · rw [h1, h2]
              · rw [h1, ext_eq, ext_ne h2] at q
                have := w.inj i b p.1 (Nat.lt_of_lt_of_le (show b < m.n by omega) up.le) q
                omega
              · rw [h2, ext_eq, ext_ne h1] at q
                have := w.inj a i (Nat.lt_of_lt_of_le (show a < m.n by omega) up.le) p.1 q
                omega
              · rw [ext_ne h1, ext_ne h2] at q
                exact wc.inj a b (show a < m.n by omega) (show b < m.n by omega) q
            · rw [get_push _ wc.len] at h
              by_cases h1 : a = m.n
              · rw [if_pos (show a = (m1.cut m.n).n from h1)] at h
                cases h
                rw [h1, ext_eq]
                exact ((w.obj i o e4).cut e5).tp tp fun _ h _ => h
              · rw [if_neg (show ¬ a = (m1.cut m.n).n from h1)] at h
                rw [ext_ne h1]
                exact (wc.obj a q h).tp tp fun _ h _ => h
            · exact lev_push wc.len wc.lev o
            · rw [RV]
              exact ⟨Nat.lt_succ_self _, by rw [ext_eq]; exact p.2⟩
/-- the wish of a call, as the wish of its body -/
theorem call_go {Q : VK} : ∀ {x : R Fl}, Go G noW (vQ G Q) r m H (callR m.n x) → Go G noW (endQ G { nx := fun _ H' => Q .non H', rt := Q }) r m.enter H x
  | .ok fl m1, g => fun r' H' up w => by
    cases fl with
    | nx s => exact fun σ' _ => fin_ok g up w rv_non
    | rt v => exact fun u p => fin_ok g up w p
    | bk s => exact g.elim
    | ct s => exact g.elim
  | .exc c v m1, g => fun r' H' up w => g r' H' up w.pop
  | .cho n k, g => fun i hi => call_go (g i hi)
  | .bad, g => g.elim
theorem rs_frame {N : List Str} {xs : List MV} {vs : List V} (h : RVs G r n H xs vs) : RS G r n H (frameV N.length xs) (L2.start N vs) := by
  have hl := h.length
  unfold frameV L2.start
  refine ⟨by rw [List.length_append, List.length_append, List.length_map, List.length_map, List.length_replicate, List.length_replicate, hl], fun i x e => ?_⟩
  by_cases hi : i < xs.length
  · rw [List.getElem?_append_left (by rw [List.length_map]; exact hi), List.getElem?_map] at e
    cases q : xs[i]? with
    | none => rw [q] at e; cases e
    | some y =>
      rw [q] at e
      cases e
      obtain ⟨v, hv, p⟩ := h.get q
      refine ⟨v, ?_, p⟩
      rw [List.getElem?_append_left (by rw [List.length_map]; omega), List.getElem?_map, hv] <;> rfl
  · rw [List.getElem?_append_right (by rw [List.length_map]; omega)] at e
    rw [List.getElem?_replicate] at e
    split at e <;> cases e
/-- a def's body, at its entry -/
theorem body_at {N : List Str} {np : Nat} {b : XZ} {vs : List V} {Q : VK} {E : XK} (h : spE G np (callD np N.length b) vs H Q E) : tZ G noW b { nx := fun _ H' => Q .non H', rt := Q } (L2.start N vs) H := by
  obtain ⟨hl, r, m, xs, w, p, g⟩ := h
  unfold callD at g
  rw [p.length, hl, Nat.beq_refl] at g
  exact ⟨r, m.enter, frameV N.length xs, w.enter, rs_frame p, call_go g⟩
theorem callD_len {np ns : Nat} {b : XZ} {xs : List MV} {m : MH} (h : xs.length ≠ np) : callD np ns b xs m = .bad := by
  unfold callD
  cases e : Nat.beq xs.length np with
  | true => exact absurd (Nat.eq_of_beq_eq_true e) h
  | false => rfl
end
end
end Dv
/-! Dv14: promises of defs that may lean on no repr being under way; the law's call. -/
namespace Dv
noncomputable section
open PySem L2 PyProof.Rows
/-- room, and no text of a container is being made -/
structure Rm (k : Nat) (A : Around) : Prop where
  rm : Room k A
  gd : A.guards = some []
theorem Rm.mono {j k : Nat} {A : Around} (r : Rm k A) (h : j ≤ k) : Rm j A := ⟨r.rm.mono h, r.gd⟩
theorem Rm.deep {k : Nat} {A : Around} (r : Rm (k + 1) A) (env : Env) : Rm k (A.deeper env) := ⟨r.rm.deeper env, r.gd⟩
theorem Rm.make {k : Nat} {A : Around} (r : Rm (k + 1) A) (C : Addr) (us : List Value) (kw : List (Str × Value)) : Rm k (A.under (.builtin "type.__call__" ⟨.ref C :: us, kw⟩)) :=
  ⟨r.rm.make C us kw, by
    have h := r.gd
    obtain ⟨hd, d, fr, gs, un⟩ := A
    have h : gs = some [] := h
    subst h
    first | rfl | simp [Around.under, pushGuards, Code.guards, Code.isGuard, guardIds]⟩
/-- a def's promise -/
structure FnG (P : Program) (w : World) (K : PySem.W.Frag) (mg : Str → Option Value) (base : Heap) (CX : CXT) (k : Nat) (f : Addr) (fd : FuncData) (ps : List Str) (sp : Sp) : Prop where
  len : ∀ vs H Q E, sp vs H Q E → vs.length = ps.length
  go : ∀ (A : Around) (out : List Env) (st : Shared) (H : Hp) (args : Args) (us : List Value) (vs : List V) (Q : VK) (E : XK), Rm k A → Env0 P w K mg base A out st H → BindsTo st fd args (ps.zip us) → Vals vs us → sp vs H Q E →
    codeAny (model P w) A (.call (.ref f) args) (CR CX out P w H st Q E) st
section
variable {P : Program} {w : World} {K : PySem.W.Frag} {mg : Str → Option Value} {base : Heap} {CX : CXT} {k : Nat} {f : Addr} {fd : FuncData} {ps : List Str} {sp sp' : Sp}
theorem FnG.of (F : FnOk P w K mg base CX k f fd ps sp) : FnG P w K mg base CX k f fd ps sp := ⟨F.len, fun A out st H args us vs Q E r => F.run A out st H args us vs Q E r.rm⟩
theorem FnG.imp (F : FnG P w K mg base CX k f fd ps sp) (h : ∀ vs H Q E, sp' vs H Q E → sp vs H Q E) : FnG P w K mg base CX k f fd ps sp' :=
  ⟨fun vs H Q E q => F.len vs H Q E (h _ _ _ _ q), fun A out st H args us vs Q E r e b v q => F.go A out st H args us vs Q E r e b v (h _ _ _ _ q)⟩
theorem FnG.up (F : FnG P w K mg base CX k f fd ps sp) {j : Nat} (h : k ≤ j) : FnG P w K mg base CX j f fd ps sp :=
  ⟨F.len, fun A out st H args us vs Q E r => F.go A out st H args us vs Q E (r.mono h)⟩
end
section
variable {X : Cx} {CX : CXT} {k : Nat} {f C : Addr} {fd : FuncData} {ps : List Str} {sp : Sp} {E : XK}
/-- the callee's code, then the caller -/
theorem runG {pins : List (Addr × Obj)} {σ : L2.St} {H : Hp} {st : Shared} {Q : VK} {us ds : List Value} {vs dvs : List V} (F : FnG X.prog X.w X.K X.mg X.base CX k f fd ps sp) (hr : Rm k X.A) (hb : Binds X.K fd ps ds) (hd : Vals dvs ds) (hx : Passes CX X E)
    (I : Inv X pins σ H st) (rv : Vals vs us) (h : sp (vs ++ dvs) H Q E) : wpAny (model X.prog X.w) X.A (call (.ref f) us) (EP X pins σ Q) X.xe st := by
  have both : Vals (vs ++ dvs) (us ++ ds) := rv.append hd
  have many : (us ++ ds).length = ps.length := both.length.symm.trans (F.len _ _ _ _ h)
  have code := F.go X.A X.stack st H ⟨us, []⟩ (us ++ ds) (vs ++ dvs) Q E hr I.env0 (hb st us I.kIn many) both h
  refine wpAny_call (codeAny_mono code fun res st' end_ => ?_)
  match res, end_ with
  | .error e, end_ => exact hx pins σ H st e st' I end_
  | .ok (.ret u), end_ => exact I.after end_
  | .ok .next, end_ => exact end_.elim
  | .ok .brk, end_ => exact end_.elim
  | .ok .cont, end_ => exact end_.elim
theorem pe_callG {x : Str} {p pos : Pos} {e : Expr} {es : List Expr} {t : TA} {ds : List Value} {dvs : List V} (F : FnG X.prog X.w X.K X.mg X.base CX k f fd ps sp) (hr : Rm k X.A) (hg : L2.Gl X x) (hm : X.mg x = some (.ref f)) (hk : PySem.W.keepIn X.K (.ref f) = true) (hb : Binds X.K fd ps ds) (hd : Vals dvs ds) (hx : Passes CX X E)
    (ha : PA X (e :: es) t) (hdb : (x == ("__debug__" : Str)) = false) (he : starEach (e :: es) X.env = (false, eval e X.env) :: starEach es X.env) (hpl : (backTo pos (starEach es X.env)).any (·.1) = false) :
    PE X (.Call (.Name x p) (e :: es) [] pos) (tCall sp dvs E t) := ⟨fun pins st σ H Q I h =>
  wpAny_Call_Name_kw (ld_glob I hg hm (PySem.W.callWith_K (h₀ := X.base) I.ok.mod.kin hk (thn (ha.run pos pins st σ H _ I h) fun us st1 ⟨vs, H1, I1, rv, q⟩ => ⟨I1.kIn, runG F hr hb hd hx I1 rv q⟩) he hpl) hdb)⟩
theorem pe_callG0 {x : Str} {p pos : Pos} {ds : List Value} {dvs : List V} (F : FnG X.prog X.w X.K X.mg X.base CX k f fd ps sp) (hr : Rm k X.A) (hg : L2.Gl X x) (hm : X.mg x = some (.ref f)) (hk : PySem.W.keepIn X.K (.ref f) = true) (hb : Binds X.K fd ps ds) (hd : Vals dvs ds) (hx : Passes CX X E)
    (hdb : (x == ("__debug__" : Str)) = false) : PE X (.Call (.Name x p) [] [] pos) (tCall sp dvs E tNil) := ⟨fun pins st σ H Q I h =>
  wpAny_Call_Name_kw (ld_glob I hg hm (PySem.W.callWith_K0 I.kIn hk (runG (us := []) F hr hb hd hx I .nil h)) hdb)⟩
end
/-- a def of the text, by its body -/
theorem fn_G {CX : CXT} {P : Program} {w : World} {K : PySem.W.Frag} {mg : Str → Option Value} {base : Heap} {k : Nat} {f : Addr} {x qual : Str} {params : Arguments} {body : List Stmt} {scope : Scope} {dvs : List V} {kws : List (Str × V)} {fd : FuncData} {N ps : List Str} {sp : Sp}
    (F : FunD K x qual params body scope dvs kws f fd) (S : FnScope N ps scope) (len : ∀ vs H Q E, sp vs H Q E → vs.length = ps.length)
    (hbody : ∀ (cdv : Value) (A : Around) (out : List Env) (st : Shared) (H : Hp) (vs : List V) (Q : VK) (E : XK), Rm k (A.deeper (envOfC qual scope st.heap.objs.size f cdv)) → sp vs H Q E →
      ∃ t, PSs (cxOf CX P w K mg base N qual scope f cdv A out st H E) body t ∧ t { nx := fun _ H' => Q .non H', rt := Q } (L2.start N vs) H) : FnG P w K mg base CX (k + 1) f fd ps sp := by
  obtain ⟨oc, od, dV, kV, doc, pm, an, cdv, ct, osl, rfl, look, code, _, _⟩ := F.ex
  refine ⟨len, fun A out st H args us vs Q E hr e0 bound rv hsp => ?_⟩
  have kin : K.In st.heap := e0.mod.kin.keeps fun b o e => (e0.bs b o e).1
  have nolim : st.heap.NoLimit := e0.mod.nolimit.keeps fun b o e => (e0.bs b o e).1
  have kinds : ∀ y ∈ ps.zip us, scope.names.lookup y.1 = some .local ∨ (scope.names.lookup y.1 = some .cell ∧ ((cellsFrom (st.heap.objs.size + 1) scope.names []).lookup y.1).isSome = true) := by
    rintro ⟨y, v⟩ hy
    exact (S.par y (List.of_mem_zip hy).1).imp id fun q => ⟨q, PySem.W.cellsFrom_some _ _ _ (.inl q)⟩
  refine codeAny_call_function hr.rm.depth (kin _ _ look) rfl S.co S.gen rfl (PySem.W.codeRec_of kin code) (bound _ _ _ _ (wpAny_newFunctionEnv_cells S.kind kinds fun env he st1 inC => ?_))
  subst he
  refine ⟨nolim.keeps inC.toInCall.keep, codeAny_func ?_⟩
  obtain ⟨t, ok, start⟩ := hbody cdv A out st H vs Q E (hr.deep _) hsp
  have I0 := inv_start (CX := CX) (E := E) S hr.rm.hd e0 (len _ _ _ _ hsp) rv inC
  have close : ∀ {σ' : L2.St} {H' : Hp} {v : V} {u : Value} {st' : Shared}, Inv (cxOf CX P w K mg base N qual scope f cdv A out st H E) [] σ' H' st' → RelV v u → Q v H' → CE out P w H st Q u st' :=
    fun {σ' H' v u st'} J rv q => ⟨v, H', J.os, J.bare, J.base, J.hok, rv, q⟩
  refine wpAny_mono (ok.run [] st1 (L2.start N vs) H _ I0 start) (fun flow st' q => ?_) fun _ _ q => q
  match flow, q with
  | .ret u, ⟨v, σ', H', J, rv, q⟩ => exact close J rv q
  | .next, ⟨σ', H', J, q⟩ => exact close (v := V.non) (u := Value.none) J rfl q
  | .brk, ⟨_, _, _, q⟩ => exact q.elim
  | .cont, ⟨_, _, _, q⟩ => exact q.elim
/-! ### the law's call -/
/-- the script at its address, the law's own heap: nothing but it is tracked -/
theorem law_go {P : Program} {w : World} {K : PySem.W.Frag} {mg mb : Str → Option Value} {CX : CXT} {k : Nat} {fa a : Addr} {fd : FuncData} {x : Str} {sp : Sp} {st : Shared} {vs : List Value} {ns : List Int} {H : Hp}
    (kin : K.In st.heap) (hns : st.heap.Ns mainGlobals mg) (hb : st.heap.Ns builtinsNs mb) (hbb : ∀ x : Str, x ≠ "__name__" → mb x = bootBuiltins x) (lim : st.heap.NoLimit) (gens : st.gens = #[])
    (ha : st.heap.get? a = some { cls := .type "list", data := .seq vs.toArray }) (hr : Rm k callerA) (F : ∀ base : Heap, K.In base → base.Ns mainGlobals mg → FnG P w K mg base CX k fa fd [x] sp) (hbind : ∀ (s : Shared) (u : Value), BindsTo s fd ⟨[u], []⟩ [(x, u)])
    (only : ∀ b, H b = none ∨ b = a ∧ K.lookup a = none ∧ H b = some (.frz { cls := .type "list", data := .seq vs.toArray } (.lst (ns.map V.int)))) (hok : HOk P w H st.heap)
    (hsp : sp [.ref a] H (fun v _ => v = .bl true) fun _ _ _ => False) (hCX : ∀ e s', CX [] H st (fun _ _ _ => False) e s' → False) :
    codeAny (model P w) callerA (.call (.ref fa) ⟨[.ref a], []⟩) (fun r s' => r = .ok (.ret (.bool true)) ∧ OldK st.heap s'.heap ∧ s'.os = st.os ∧ AllBare s'.gens) st := by
  have free : ∀ {b : Addr} {o : Obj}, st.heap.get? b = some o → (∀ es ep, o.data = .dict es ep → H b = none) := fun {b o} e es ep d => by
    refine (only b).elim id fun ⟨eb, _⟩ => ?_
    subst eb
    have q := ha.symm.trans e
    cases q
    cases d
  have seen : ∀ {b : Addr} {o : Obj}, st.heap.get? b = some o → H b = none → (hidT st.heap H).get? b = some o := fun e n => hidT_get e n
  have nsp : ∀ {b : Addr} {m : Str → Option Value}, st.heap.Ns b m → (hidT st.heap H).Ns b m := fun {b m} ⟨o, es, ep, e, d, r⟩ => ⟨o, es, ep, seen e (free e es ep d), d, r⟩
  have kinH : K.In (hidT st.heap H) := fun b o e => seen (kin b o e) ((only b).elim id fun ⟨eb, nk, _⟩ => by
    subst eb
    rw [nk] at e
    cases e)
  have mod : L2.Mod K mg (hidT st.heap H) := ⟨kinH, nsp hns, ⟨mb, nsp hb, hbb⟩, by
    obtain ⟨mc, h1, h2⟩ := lim
    exact ⟨mc, nsp h1, h2⟩⟩
  have e0 : Env0 P w K mg (hidT st.heap H) callerA [] st H :=
    ⟨rfl, mod, fun b o e => of_hidT e, Nat.le_of_eq (hidT_size _ _), trivial, fun b hb => (by cases (show b ∈ ([] : List Addr) from hb)), hok, .of_eq gens⟩
  refine codeAny_mono ((F _ kinH (nsp hns)).go callerA [] st H ⟨[.ref a], []⟩ [.ref a] [.ref a] _ _ hr e0 (hbind st (.ref a)) (.cons rfl .nil) hsp) fun res st' q => ?_
  match res, q with
  | .error e, q => exact (hCX e st' q).elim
  | .ok .next, q => exact q.elim
  | .ok .brk, q => exact q.elim
  | .ok .cont, q => exact q.elim
  | .ok (.ret u), ⟨v, H', os, bare, un, hok', rv, q⟩ =>
    have q : v = .bl true := q
    subst q
    have eu : u = Value.bool true := rv
    subst eu
    refine ⟨rfl, OldK.of_keep fun b o e => ?_, os, bare⟩
    rcases only b with n | ⟨_, _, z⟩
    · exact un.keep b o e n (fun z => by cases (show b ∈ ([] : List Addr) from z)) (fun z => by cases (show b ∈ ([] : List Addr) from z))
    · have old := (hok b _ z).1
      have new := (hok' b _ (un.frzs b _ _ z)).1
      rw [e] at old
      cases old
      exact new
/-- a law over the layer: F gives the written part, the function object, the promise -/
theorem walk_G {l : PySem.W.OpenLaw} {n k : Nat} {q : Program} {loose : List Str} {XP : (Str → Option Value) → Heap → Prop} {YP : World → Heap → Prop} {d : DefRec} {CX : CXT} {x : Str} (hn : l.most = some n) (hn2 : n ≤ sizeLine) (hdf : d.params.defaults = []) (hr : Rm k callerA)
    (F : ∀ (w : World) (mg : Str → Option Value) (fa : Addr) (h : Heap), YP w h → h.Ns mainGlobals mg → mg d.name = some (.ref fa) →
      ∃ (K : PySem.W.Frag) (fd : FuncData), K.In h ∧ (∀ (s : Shared) (u : Value), BindsTo s fd ⟨[u], []⟩ [(x, u)]) ∧
        ∀ (a : Addr) (ns : List Int), ns.length ≤ n → ∃ sp : Sp, (∀ base : Heap, K.In base → base.Ns mainGlobals mg → FnG l.prog w K mg base CX k fa fd [x] sp) ∧
          ∀ H : Hp, ((∀ b, H b = none) ∧ (∃ (o : Obj) (its : Array Value) (m : Nat), K.lookup a = some o ∧ o.cls = .type "list" ∧ o.dict = none ∧ o.data = .seq its m ∧ its.size ≤ sizeLine ∧ Vals (ns.map V.int) its.toList) ∨
            (∃ o, H a = some (.frz o (.lst (ns.map V.int)))) ∧ ∀ b, b ≠ a → H b = none) → sp [.ref a] H (fun v _ => v = .bl true) fun _ _ _ => False)
    (hCX : ∀ (H : Hp) (s : Shared) (e : Value) (s' : Shared), CX [] H s (fun _ _ _ => False) e s' → False) : PySem.W.WalkO q loose XP YP l.row.toRowW d [] (fun f vs => PySem.call f vs) := by
  refine Att.attach_call hn hdf fun w s0 st mg mb fa o pm cd doc a vs ns G Y ho hd hcd hmg hobj hints hlen hg => ?_
  obtain ⟨K, fd, kin, bind, hF⟩ := F w mg fa _ Y G.T.g hmg
  obtain ⟨sp, FG, hsp⟩ := hF a ns hlen
  have rv := vals_ints hints
  have lv : vs.length = ns.length := hints.length
  have short : ns.length ≤ sizeLine := Nat.le_trans hlen hn2
  cases hk : K.lookup a with
  | some ob =>
    have e := kin a ob hk
    rw [hobj] at e
    cases e
    refine law_go (ns := ns) (H := fun _ => none) kin G.T.g G.T.b G.T.builtins G.T.nolimit hg hobj hr FG bind (fun _ => .inl rfl) (fun b u z => by cases (show (none : Option HO) = some u from z)) (hsp _ (.inl ⟨fun _ => rfl, _, vs.toArray, _, hk, rfl, rfl, rfl, ?_, ?_⟩)) fun e s' => hCX _ _ e s'
    · rw [List.size_toArray, lv]
      exact short
    · rw [List.toList_toArray]
      exact rv
  | none =>
    have here : ∀ b, (if b = a then some (HO.frz { cls := .type "list", data := .seq vs.toArray } (.lst (ns.map V.int))) else none) = none ∨ b = a ∧ K.lookup a = none ∧ (if b = a then some (HO.frz { cls := .type "list", data := .seq vs.toArray } (.lst (ns.map V.int))) else none) = some (HO.frz { cls := .type "list", data := .seq vs.toArray } (.lst (ns.map V.int))) := fun b => by
      by_cases h : b = a
      · exact .inr ⟨h, hk, if_pos h⟩
      · exact .inl (if_neg h)
    refine law_go (ns := ns) (H := fun b => if b = a then some (.frz { cls := .type "list", data := .seq vs.toArray } (.lst (ns.map V.int))) else none) kin G.T.g G.T.b G.T.builtins G.T.nolimit hg hobj hr FG bind here (fun b u z => ?_) (hsp _ (.inr ⟨⟨_, if_pos rfl⟩, fun b h => if_neg h⟩)) fun e s' => hCX _ _ e s'
    by_cases h : b = a
    · have z := (if_pos h).symm.trans z
      cases z
      subst h
      refine ⟨hobj, ?_, vs, _, rv, hobj⟩
      rw [List.length_map]
      exact short
    · cases (if_neg h).symm.trans z
end
end Dv
/-! Dv15: calls by such promises; chains of comparisons; isinstance; repr. -/
namespace Dv
noncomputable section
open PySem L2 PyProof.Rows
section
variable {G : Gl} {W : Wi} {X0 : Cx}
theorem ok_callG {CX : CXT} {k np : Nat} {f : Addr} {fd : FuncData} {ps : List Str} {cl : List MV → MH → R MV} {x : Str} {p pos : Pos} {e : Expr} {es : List Expr} {a : XS}
    (F : FnG X0.prog X0.w X0.K X0.mg X0.base CX k f fd ps (spE G np cl)) (hl : ∀ xs m, xs.length ≠ np → cl xs m = .bad) (hr : Rm k X0.A) (hg : L2.Gl X0 x) (hm : X0.mg x = some (.ref f)) (hk : PySem.W.keepIn X0.K (.ref f) = true) (hb : Binds X0.K fd ps [])
    (hx : Passes CX X0 fun _ _ _ => False) (ha : OkA G noW X0 (e :: es) a) (hd : (x == ("__debug__" : Str)) = false) (hs : (e :: es).all notStar = true) : OkE G noW X0 (.Call (.Name x p) (e :: es) [] pos) (xA cl a) := by
  rw [List.all_cons, Bool.and_eq_true] at hs
  exact pe_of (pe_callG F hr hg hm hk hb .nil hx ha hd (star_ne hs.1) (plain_of hs.2)) fun σ H Q h => tCall_of hl h
theorem ok_callG0 {CX : CXT} {k np : Nat} {f : Addr} {fd : FuncData} {ps : List Str} {cl : List MV → MH → R MV} {x : Str} {p pos : Pos}
    (F : FnG X0.prog X0.w X0.K X0.mg X0.base CX k f fd ps (spE G np cl)) (hl : ∀ xs m, xs.length ≠ np → cl xs m = .bad) (hr : Rm k X0.A) (hg : L2.Gl X0 x) (hm : X0.mg x = some (.ref f)) (hk : PySem.W.keepIn X0.K (.ref f) = true) (hb : Binds X0.K fd ps [])
    (hx : Passes CX X0 fun _ _ _ => False) (hd : (x == ("__debug__" : Str)) = false) : OkE G noW X0 (.Call (.Name x p) [] [] pos) (xA cl (xArgs [])) := by
  refine pe_of (pe_callG0 F hr hg hm hk hb .nil hx hd) fun σ H Q h => ?_
  obtain ⟨r, m, s, w, q, g⟩ := tCall_of (E := fun _ _ _ => False) hl h
  exact Go.ok w g [] RVs.nil
/-! ### a < b < c -/
def xChn (f g : MV → MV → MH → R MV) (a b c : X) : X := fun s m => (a s m).bind fun x m1 => (b s m1).bind fun y m2 => (f x y m2).bind fun z m3 => (asB z m3).bind fun t m4 => match t with
  | true => (c s m4).bind fun u m5 => g y u m5
  | false => .ok (.bl false) m4
theorem tChain_of {f g : MV → MV → MH → R MV} {a b c : X} {σ : L2.St} {H : Hp} {Q : VK} (h : tE G W (xChn f g a b c) σ H Q) : tChain (rS G W f) (rS G W g) (tE G W a) (tE G W b) (tE G W c) σ H Q := by
  obtain ⟨r, m, s, w, q, g0⟩ := h
  refine ⟨r, m, s, w, q, (Go.bind g0).mono fun r1 m1 H1 x u1 w1 g1 v p => ?_⟩
  refine ⟨r1, m1, s, w1, q.up u1, (Go.bind g1).mono fun r2 m2 H2 y u2 w2 g2 u p2 => ?_⟩
  refine ⟨r2, m2, x, y, w2, RV.up u2 x v p, p2, (Go.bind g2).mono fun r3 m3 H3 z u3 w3 g3 zv p3 => ?_⟩
  obtain ⟨t, et, g4⟩ := go_asB w3 p3 (Go.bind g3)
  refine ⟨t, et, ?_⟩
  cases t with
  | false => exact Eq.mpr (if_neg Bool.false_ne_true) (go_val w3 rv_bl g4)
  | true =>
    refine Eq.mpr (if_pos rfl) ⟨r3, m3, s, w3, ((q.up u1).up u2).up u3, (Go.bind g4).mono fun r5 m5 H5 k u5 w5 g5 kv p5 => ?_⟩
    exact ⟨r5, m5, y, k, w5, RV.up (u3.trans u5) y u p2, p5, g5⟩
theorem ok_chn {op op' : CmpOp} {f g : MV → MV → MH → R MV} {a b c : Expr} {fa fb fc : X} {pos : Pos} (ho : OpR X0 (compareOp op) (rS G W f)) (ho' : OpR X0 (compareOp op') (rS G W g)) (ha : OkE G W X0 a fa) (hb : OkE G W X0 b fb) (hc : OkE G W X0 c fc) (hm : lastMarks [op, op'] [b, c] = false) :
    OkE G W X0 (.Compare a [op, op'] [b, c] pos) (xChn f g fa fb fc) := pe_of (pe_chain ho ho' ha hb hc hm) fun _ _ _ h => tChain_of h
theorem ok_chnT {op op' : CmpOp} {f g : MV → MV → MH → R MV} {a b c : Expr} {fa fb fc : X} {pos : Pos} (ho : OpR X0 (compareOp op) (rS G W f)) (ho' : OpR X0 (compareOp op') (rS G W g)) (ha : OkE G W X0 a fa) (hb : OkE G W X0 b fb) (hc : OkE G W X0 c fc) (hm : lastMarks [op, op'] [b, c] = false) :
    OkT G W X0 (.Compare a [op, op'] [b, c] pos) (xB (xChn f g fa fb fc)) := pt_of (pt_chain ho ho' ha hb hc hm) fun σ H Q t => by
  refine tChain_of ?_
  obtain ⟨r, m, s, w, q, g0⟩ := tT_bind (k := fun x _ m => asB x m) t
  refine ⟨r, m, s, w, q, g0.mono fun r1 m1 H1 x u1 w1 g1 v p => ?_⟩
  obtain ⟨r2, m2, s2, x2, w2, q2, p2, g2⟩ := g1 v p
  exact go_asB w2 p2 g2
/-! ### isinstance(x, T) -/
inductive Ty where
  | non | bl | int | str | lst | tup | dct
def Ty.nm : Ty → String
  | .non => "NoneType"
  | .bl => "bool"
  | .int => "int"
  | .str => "str"
  | .lst => "list"
  | .tup => "tuple"
  | .dct => "dict"
def Ty.is : Ty → Ty → Bool
  | .non, .non => true
  | .bl, .bl => true
  | .bl, .int => true
  | .int, .int => true
  | .str, .str => true
  | .lst, .lst => true
  | .tup, .tup => true
  | .dct, .dct => true
  | _, _ => false
def tyM (m : MH) : MV → Option Ty
  | .non => some .non
  | .bl _ => some .bl
  | .int _ => some .int
  | .str _ => some .str
  | .tup _ => some .tup
  | .ref i => match m.get i with
    | some (.lst _) => some .lst
    | _ => none
  | _ => none
def isiV (t : Ty) (x : MV) (m : MH) : R MV := match tyM m x with
  | some u => .ok (.bl (u.is t)) m
  | none => .bad
theorem kit_ty (K : PySem.W.Frag) (u t : Ty) : PySem.W.kitOne K (.type u.nm) (.type t.nm) = some (u.is t) := by
  cases u <;> cases t <;> (unfold PySem.W.kitOne PySem.W.kitCls; kernel_rfl)
theorem tyM_ok {K : PySem.W.Frag} {r : Nat → Addr} {m : MH} {H : Hp} (w : Wd G r m H) {x : MV} {v : V} (p : RV G r m.n H x v) (hK : K = G.K) {u : Ty} (h : tyM m x = some u) : TyX K H v (.type u.nm) := by
  cases x with
  | non => cases h; rw [RV] at p; subst p; exact .base .non
  | bl b => cases h; rw [RV] at p; subst p; exact .base (.bl b)
  | int i => cases h; rw [RV] at p; subst p; exact .base (.int i)
  | str s => cases h; rw [RV] at p; subst p; exact .base (.str _)
  | tup xs =>
    cases h
    rw [RV] at p
    obtain ⟨a, vs, rfl, hs, q⟩ := p
    rcases hs with (hs | ⟨o, hs⟩) | ⟨o, its, n, hk, hc, _⟩
    · exact .base (.tup hs)
    · exact .fTuple hs
    · exact .kTuple (by rw [hK]; exact hk) hc
  | ref i =>
    rw [RV] at p
    obtain ⟨hi, rfl⟩ := p
    unfold tyM at h
    cases e : m.get i with
    | none => simp only [e] at h; cases h
    | some o =>
      cases o <;> simp only [e] at h <;> first | (cases h; done) | skip
      cases h
      obtain ⟨vs, hs, q⟩ := w.lst e
      exact .base (.lst hs)
  | fn g => cases h
  | scr => cases h
def rI (G : Gl) (W : Wi) (t : Ty) : List V → Hp → VK → Prop := fun vs H Q => ∃ r m x v, vs = [v, .ty t.nm] ∧ Wd G r m H ∧ RV G r m.n H x v ∧ Go G W (vQ G Q) r m H (isiV t x m)
theorem ok_isiV {t : Ty} (hK : X0.K = G.K) : CallR X0 (.builtin "isinstance") (rI G W t) := by
  intro pins s σ H vs us Q I rv h
  obtain ⟨r, m, x, v, rfl, w, p, g⟩ := h
  unfold isiV at g
  cases e : tyM m x with
  | none => rw [e] at g; exact g.elim
  | some u =>
    rw [e] at g
    exact call_isi pins s σ H _ us Q I rv ⟨v, .ty t.nm, .type u.nm, .type t.nm, u.is t, rfl, .ty _, tyM_ok w p hK e, kit_ty _ _ _, go_val w rv_bl g⟩
/-- isinstance(e, T), T the name of a built-in type -/
theorem ok_isi {t : Ty} {ty x : Str} {e : Expr} {f : X} {p p2 pos : Pos} (hK : X0.K = G.K) (hx : x = "isinstance") (hg : L2.Gl X0 x) (hm : X0.mg x = none) (hg2 : L2.Gl X0 ty) (hm2 : X0.mg ty = none) (hv2 : bootBuiltins ty = some (.type t.nm)) (hn2 : ty ≠ "__name__") (hd2 : (ty == ("__debug__" : Str)) = false)
    (he : OkE G W X0 e f) (hs : notStar e = true) : OkE G W X0 (.Call (.Name x p) [e, .Name ty p2] [] pos) (x1 (isiV t) f) := by
  subst hx
  refine pe_of (pe_callB (ok_isiV (W := W) (t := t) hK) hg hm boot_isinstance (pa_cons he (pa_cons (pe_bltn (v := .ty t.nm) hg2 hm2 hv2 rfl hn2 hd2) pa_nil rfl) (star_ne hs)) (by decide) (by decide +kernel) (star_ne hs) rfl) fun σ H Q h => ?_
  obtain ⟨r, m, s, w, q, g⟩ := h
  refine ⟨r, m, s, w, q, (Go.bind g).mono fun r1 m1 H1 x u1 w1 g1 v p => ?_⟩
  exact ⟨r1, m1, x, v, rfl, w1, p, g1⟩
/-! ### repr -/
def reprV (xs : List MV) (m : MH) : R MV := match xs with
  | [x] => match okM m 40 x with
    | true => match dat m 40 x with
      | some d => match d.showable && Nat.ble d.shown.length big with
        | true => .ok (.str d.shown.cps.toList) m
        | false => .bad
      | none => .bad
    | false => .bad
  | _ => .bad
theorem repr_data {d : PyData} {as : List Addr} {u : Value} {pins : List (Addr × Obj)} {σ : L2.St} {H : Hp} {s : Shared} {Q : VK} (I : Inv X0 pins σ H s) (rd : Reads s.heap u d as) (hs : d.showable = true) (hl : d.canLay0 = true) (hz : d.shown.length ≤ sizeLine) (hg : X0.A.guards = some []) (hu : X0.A.units + 65 < cLine) (hd : d.depth ≤ 40)
    (q : Q (.str d.shown) H) : wpAny (model X0.prog X0.w) X0.A (call (.builtin "repr") [u]) (EP X0 pins σ Q) X0.xe s := by
  have nd := PyData.hasDict_of_canLay d hl
  have deep : ∀ a, u = .ref a → wpAny (model X0.prog X0.w) X0.A (call (.builtin "repr") [u]) (EP X0 pins σ Q) X0.xe s := fun a e => by
    subst e
    exact repr_of_reads' rd hs (PyData.noDict_hsm nd) hg (by omega) (fun _ _ h => h) (fun h' t tk hk => ⟨.str d.shown, H, I.kept hk, ⟨t, rfl⟩, q⟩) hz
  cases rd with
  | none => exact P.repr_of_none ⟨.str (PyData.shown _), H, I.tok _, ⟨_, rfl⟩, q⟩
  | bool => exact P.repr_of_bool ⟨.str (PyData.shown _), H, I.tok _, ⟨_, rfl⟩, q⟩
  | int => exact P.repr_of_int (of_decide_eq_true hs) ⟨.str (PyData.shown _), H, I.tok _, ⟨_, rfl⟩, q⟩
  | str => exact P.repr_of_str ⟨.str (PyData.shown _), H, I.tok _, ⟨_, rfl⟩, q⟩ hz
  | _ => exact deep _ rfl
theorem ok_repr (hK : X0.K = G.K) (hg : X0.A.guards = some []) (hu : X0.A.units + 65 < cLine) : CallR X0 (.builtin "repr") (rC G W reprV) := by
  intro pins s σ H vs us Q I rx h
  obtain ⟨r, m, xs, w, px, g⟩ := h
  match xs, px, g with
  | [], _, g => exact g.elim
  | _ :: _ :: _, _, g => exact g.elim
  | [x], px, g =>
    obtain ⟨v, rfl, p⟩ := rvs1 px
    obtain ⟨u, rfl, ru⟩ := vals1 rx
    dsimp only [reprV] at g
    cases e1 : okM m 40 x with
    | false => rw [e1] at g; exact g.elim
    | true =>
      rw [e1] at g
      obtain ⟨d, h1, h2, h3⟩ := okM_ok m 40 x e1
      dsimp only at g
      rw [h1] at g
      dsimp only at g
      cases e2 : d.showable && Nat.ble d.shown.length big with
      | false => rw [e2] at g; exact g.elim
      | true =>
        rw [e2] at g
        obtain ⟨e3, e4⟩ := Bool.and_eq_true_iff.mp e2
        have hd := dp_of w 40 x v d h1 p
        rw [← hK] at hd
        obtain ⟨as, rd⟩ := Dp.reads I d v u hd ru
        refine repr_data I rd e3 h2 (big_le e4) hg hu h3 ?_
        have := go_val w (rv_str (s := d.shown.cps.toList)) g
        rw [show (⟨d.shown.cps.toList.toArray⟩ : Str) = d.shown by rw [Array.toArray_toList]] at this
        exact this
/-! ### more built-ins -/
def maxV (xs : List MV) (m : MH) : R MV := match xs with
  | [.int i, .int j] => .ok (.int (if j > i then j else i)) m
  | _ => .bad
def minV (xs : List MV) (m : MH) : R MV := match xs with
  | [.int i, .int j] => .ok (.int (if j < i then j else i)) m
  | _ => .bad
def absV (xs : List MV) (m : MH) : R MV := match xs with
  | [.int i] => .ok (.int (if i < 0 then -i else i)) m
  | _ => .bad
def listV (xs : List MV) (m : MH) : R MV := match xs with
  | [x] => match itemsOf x m with
    | some ys => newL ys m
    | none => .bad
  | _ => .bad
def tupleV (xs : List MV) (m : MH) : R MV := match xs with
  | [x] => match itemsOf x m with
    | some ys => .ok (.tup ys) m
    | none => .bad
  | _ => .bad
theorem ok_max2 (hc : X0.calm = true) : CallR X0 (.builtin "max") (rC G W maxV) := by
  intro pins s σ H vs us Q I rx ⟨r, m, xs, w, px, g⟩
  match xs, px, g with
  | [x, y], px, g =>
    obtain ⟨v, u, rfl, p, q⟩ := rvs2 px
    cases x <;> first | exact g.elim | skip
    cases y <;> first | exact g.elim | skip
    rw [RV] at p q
    subst p q
    exact call_max2 hc pins s σ H _ us Q I rx ⟨_, _, rfl, go_val w rv_int g⟩
  | [], _, g => exact g.elim
  | [x], _, g => cases x <;> exact g.elim
  | x :: y :: _ :: _, _, g => cases x <;> first | exact g.elim | (cases y <;> exact g.elim)
theorem ok_min2 (hc : X0.calm = true) : CallR X0 (.builtin "min") (rC G W minV) := by
  intro pins s σ H vs us Q I rx ⟨r, m, xs, w, px, g⟩
  match xs, px, g with
  | [x, y], px, g =>
    obtain ⟨v, u, rfl, p, q⟩ := rvs2 px
    cases x <;> first | exact g.elim | skip
    cases y <;> first | exact g.elim | skip
    rw [RV] at p q
    subst p q
    exact call_min2 hc pins s σ H _ us Q I rx ⟨_, _, rfl, go_val w rv_int g⟩
  | [], _, g => exact g.elim
  | [x], _, g => cases x <;> exact g.elim
  | x :: y :: _ :: _, _, g => cases x <;> first | exact g.elim | (cases y <;> exact g.elim)
theorem ok_abs : CallR X0 (.builtin "abs") (rC G W absV) := by
  intro pins s σ H vs us Q I rx ⟨r, m, xs, w, px, g⟩
  match xs, px, g with
  | [x], px, g =>
    obtain ⟨v, rfl, p⟩ := rvs1 px
    cases x <;> first | exact g.elim | skip
    rw [RV] at p
    subst p
    exact call_abs pins s σ H _ us Q I rx ⟨_, rfl, go_val w rv_int g⟩
  | [], _, g => exact g.elim
  | x :: _ :: _, _, g => cases x <;> exact g.elim
theorem ok_listOf (hK : X0.K = G.K) : CallR X0 (.type "list") (rC G W listV) := by
  intro pins s σ H vs us Q I rx ⟨r, m, xs, w, px, g⟩
  match xs, px, g with
  | [x], px, g =>
    obtain ⟨v, rfl, p⟩ := rvs1 px
    dsimp only [listV] at g
    cases e : itemsOf x m with
    | none => rw [e] at g; exact g.elim
    | some ys =>
      rw [e] at g
      obtain ⟨a, ws, rfl, hs, q⟩ := items_at w p e
      exact call_list_of pins s σ H _ us Q I rx ⟨a, ws, rfl, by rw [hK]; exact hs, fun l hl => go_lst w hl q g⟩
  | [], _, g => exact g.elim
  | _ :: _ :: _, _, g => exact g.elim
theorem ok_tupleOf (hK : X0.K = G.K) : CallR X0 (.type "tuple") (rC G W tupleV) := by
  intro pins s σ H vs us Q I rx ⟨r, m, xs, w, px, g⟩
  match xs, px, g with
  | [x], px, g =>
    obtain ⟨v, rfl, p⟩ := rvs1 px
    dsimp only [tupleV] at g
    cases e : itemsOf x m with
    | none => rw [e] at g; exact g.elim
    | some ys =>
      rw [e] at g
      obtain ⟨a, ws, rfl, hs, q⟩ := items_at w p e
      refine call_tuple_of pins s σ H _ us Q I rx ⟨a, ws, rfl, ?_⟩
      rw [hK]
      rcases hs with hs | hs
      · exact .inl ⟨hs, fun l hl => go_tup w hl q g⟩
      · exact .inr ⟨hs, go_val w (rv_tup hs q) g⟩
  | [], _, g => exact g.elim
  | _ :: _ :: _, _, g => exact g.elim
/-- list(range(..)) -/
def lrgV (i j : Int) (m : MH) : R MV := if okR i && okR j && Nat.ble (j - i).toNat big then newL (rngL i (j - i).toNat) m else .bad
def lr1V (x : MV) (m : MH) : R MV := match x with
  | .int j => lrgV 0 j m
  | _ => .bad
def lr2V (x y : MV) (m : MH) : R MV := match x, y with
  | .int i, .int j => lrgV i j m
  | _, _ => .bad
theorem rvs_rng {r : Nat → Addr} {n : Nat} {H : Hp} : ∀ (k : Nat) (a : Int), RVs G r n H (rngL a k) ((List.range k).map fun i => V.int (a + (i : Nat)))
  | 0, a => RVs.nil
  | k + 1, a => by
    rw [List.range_succ_eq_map, List.map_cons, List.map_map, rngL]
    refine RVs.cons (by rw [RV]; simp) ?_
    have := rvs_rng (r := r) (n := n) (H := H) k (a + 1)
    rw [show ((fun i : Nat => V.int (a + (i : Nat))) ∘ Nat.succ) = fun i : Nat => V.int (a + 1 + (i : Nat)) by
      funext i
      show V.int (a + ((i + 1 : Nat) : Int)) = _
      congr 1
      omega]
    exact this
theorem go_lrg {Q : VK} {r : Nat → Addr} {m : MH} {H : Hp} (w : Wd G r m H) {i j : Int} (g : Go G W (vQ G Q) r m H (lrgV i j m)) : RgOk i j ∧ ∀ q, H q = none → Q (.ref q) (upd H q (.lst (rgV i j))) := by
  unfold lrgV at g
  by_cases hz : (okR i && okR j && Nat.ble (j - i).toNat big) = true
  · rw [if_pos hz] at g
    rw [Bool.and_eq_true, Bool.and_eq_true] at hz
    obtain ⟨⟨h1, h2⟩, h3⟩ := hz
    refine ⟨⟨(okR_ok h1).1, (okR_ok h1).2, (okR_ok h2).1, (okR_ok h2).2, Nat.le_of_ble_eq_true h3⟩, fun q hq => go_lst w hq (rvs_rng _ _) g⟩
  · rw [if_neg hz] at g
    exact g.elim
theorem ok_lr1 {e : Expr} {f : X} {x y : Str} {p p2 pos pos2 : Pos} (hx : x = "list") (hy : y = "range") (hc : X0.calm = true) (hg : L2.Gl X0 x) (hm : X0.mg x = none) (hg2 : L2.Gl X0 y) (hm2 : X0.mg y = none) (he : OkE G W X0 e f) (hs : notStar e = true) :
    OkE G W X0 (.Call (.Name x p) [.Call (.Name y p2) [e] [] pos2] [] pos) (x1 lr1V f) := by
  subst hx hy
  refine pe_of (pe_listRg hc hg hm (prg_1 hg2 hm2 he (star_ne hs)) rfl) fun σ H Q h => ?_
  obtain ⟨r, m, s, w, q, g⟩ := h
  refine ⟨r, m, s, w, q, (Go.bind g).mono fun r1 m1 H1 x u1 w1 g1 v p => ?_⟩
  cases x <;> first | exact g1.elim | skip
  rw [RV] at p
  exact ⟨_, p, go_lrg w1 g1⟩
theorem ok_lr2 {e e2 : Expr} {f f2 : X} {x y : Str} {p p2 pos pos2 : Pos} (hx : x = "list") (hy : y = "range") (hc : X0.calm = true) (hg : L2.Gl X0 x) (hm : X0.mg x = none) (hg2 : L2.Gl X0 y) (hm2 : X0.mg y = none) (he : OkE G W X0 e f) (he2 : OkE G W X0 e2 f2) (hs : notStar e = true) (hs2 : notStar e2 = true) :
    OkE G W X0 (.Call (.Name x p) [.Call (.Name y p2) [e, e2] [] pos2] [] pos) (xBin lr2V f f2) := by
  subst hx hy
  refine pe_of (pe_listRg hc hg hm (prg_2 hg2 hm2 he he2 (star_ne hs) (star_ne hs2) (by rw [star_ne hs2] <;> rfl)) rfl) fun σ H Q h => ?_
  obtain ⟨r, m, s, w, q, g⟩ := h
  refine ⟨r, m, s, w, q, (Go.bind g).mono fun r1 m1 H1 x u1 w1 g1 v p => ?_⟩
  refine ⟨r1, m1, s, w1, q.up u1, (Go.bind g1).mono fun r2 m2 H2 y u2 w2 g2 u p2 => ?_⟩
  cases x <;> first | exact g2.elim | skip
  cases y <;> first | exact g2.elim | skip
  rw [RV] at p p2
  exact ⟨_, _, p, p2, go_lrg w2 g2⟩
/-! ### o[i] = v -/
def putD (a : Nat) (kvs : List (MV × MV)) (k v : MV) (m : MH) : R MV := if keyB k && Nat.ble (kvs.length + 1) big then .ok .non (m.wr a (.dct false (dPut kvs k v)) v) else .bad
def putV (o i v : MV) (m : MH) : R MV := match o with
  | .ref a => match m.get a with
    | some (.lst xs) => match i with
      | .int k => match ixOf xs.length k with
        | some j => .ok .non (m.wr a (.lst (xs.set j v)) v)
        | none => .bad
      | _ => .bad
    | some (.dct false kvs) => putD a kvs i v m
    | _ => .bad
  | _ => .bad
def rPut (G : Gl) (W : Wi) : TSet := fun o i v H Q => ∃ r m x y z, Wd G r m H ∧ RV G r m.n H x o ∧ RV G r m.n H y i ∧ RV G r m.n H z v ∧ Go G W (fun _ _ H' _ => Q H') r m H (putV x y z m)
theorem unders_set {n : Nat} {v : MV} : ∀ {xs : List MV} {j : Nat}, MV.unders n xs = true → v.under n = true → MV.unders n (xs.set j v) = true
  | [], j, h, _ => h
  | x :: xs, 0, h, hv => by
    rw [MV.unders, Bool.and_eq_true] at h
    rw [List.set_cons_zero, MV.unders, hv, h.2] <;> rfl
  | x :: xs, j + 1, h, hv => by
    rw [MV.unders, Bool.and_eq_true] at h
    rw [List.set_cons_succ, MV.unders, h.1, unders_set h.2 hv] <;> rfl
theorem rvs_set {r : Nat → Addr} {n : Nat} {H : Hp} {z : MV} {v : V} (p : RV G r n H z v) : ∀ {xs : List MV} {vs : List V} {j : Nat}, RVs G r n H xs vs → RVs G r n H (xs.set j z) (vs.set j v)
  | [], vs, j, h => by
    rw [RVs] at h
    subst h
    exact RVs.nil
  | x :: xs, vs, j, h => by
    rw [RVs] at h
    obtain ⟨u, us, rfl, q, h⟩ := h
    cases j with
    | zero => exact RVs.cons p h
    | succ j => exact RVs.cons q (rvs_set p h)
theorem ok_putV (hu : X0.A.units + 1 < cLine) : PSet X0 (rPut G W) := by
  intro pins s σ H o i v ov iv u Q I ro ri rv ⟨r, m, x, y, z, w, px, py, pz, g⟩
  cases x <;> first | exact g.elim | skip
  rename_i a
  rw [RV] at px
  obtain ⟨ha, rfl⟩ := px
  dsimp only [putV] at g
  cases e : m.get a with
  | none => rw [e] at g; exact g.elim
  | some ob =>
    rw [e] at g
    cases ob <;> first | exact g.elim | skip
    rotate_left
    · rename_i lk kvs
      cases lk with
      | true => exact g.elim
      | false =>
        dsimp only at g
        unfold putD at g
        by_cases hc : (keyB y && Nat.ble (kvs.length + 1) big) = true
        · rw [if_pos hc] at g
          obtain ⟨c1, c2⟩ := Bool.and_eq_true_iff.mp hc
          obtain ⟨k, hk⟩ := keyOf_ok c1
          obtain ⟨ws, p, nd, rd, hd⟩ := w.dct e
          have hv := keyOf_rv hk py
          have hl : ws.length < sizeLine := by
            rw [← p.length]
            exact big_le (show Nat.ble (kvs.length + 1) big = true from c2)
          have h1 := hd rfl
          have up : Up r m.n H r m.n (upd H (r a) (.dK (putK ws k v))) := up_mut h1 trivial ha rfl
          refine set_dict hu pins s σ H _ _ _ ov iv u Q I ro ri rv ⟨_, _, rfl, .inl ⟨ws, k, h1, hv, hl, rfl⟩, ?_⟩
          exact g r _ up (wd_mut w ha h1 trivial ⟨putK ws k v, dPut_ok hk (RV.up up _ _ pz) (RKs.tp up.tp _ _ p) nd, putK_nodup nd, upd_same⟩ e fun l q1 q2 => dPut_under (keyB_under c1) q2 q1)
        · rw [if_neg hc] at g
          exact g.elim
    rename_i xs
    dsimp only at g
    cases y <;> first | exact g.elim | skip
    rename_i k
    rw [RV] at py
    subst py
    dsimp only at g
    cases e2 : ixOf xs.length k with
    | none => rw [e2] at g; exact g.elim
    | some j =>
      rw [e2] at g
      obtain ⟨vs, h1, h2⟩ := w.lst e
      refine set_list pins s σ H _ _ _ ov iv u Q I ro ri rv ⟨_, vs, k, j, rfl, rfl, h1, by rw [← h2.length]; exact e2, ?_⟩
      exact g r _ (up_wr h1 ha rfl) (wd_wr w ha h1 (rvs_set pz h2) e fun l q1 q2 => unders_set q1 q2)
def xPut (a i e : X) : XZ := fun s m => (e s m).bind fun v m1 => (a s m1).bind fun o m2 => (i s m2).bind fun k m3 => (putV o k v m3).bind fun _ m4 => .ok (.nx s) m4
theorem put_of {o i : Expr} {pos : Pos} {env : Env} (h : notSlice i = true) (v : Value) : assign (.Subscript o i pos) env v = (do
    let ov ← holding [v] (eval o env)
    let iv ← holding [v, ov] (eval i env)
    standAt pos
    holding [v, ov, iv] (setItem ov iv v)
    release [v, ov, iv] []) := by
  cases i <;> first | rfl | skip
  rename_i lo hi st p
  cases st <;> first | rfl | cases h
theorem ok_put {o i e : Expr} {fo fi fe : X} {pos pos' : Pos} (hu : X0.A.units + 1 < cLine) (hs : notSlice i = true) (ho : OkE G W X0 o fo) (hi : OkE G W X0 i fi) (he : OkE G W X0 e fe) : OkZ G W X0 (.Assign [.Subscript o i pos'] e pos) (xPut fo fi fe) :=
  ps_of (ps_asg he (pg_sub ho hi (ok_putV (W := W) hu) (put_of hs)) (by unfold swapsWithSole swapsWith; cases e <;> rfl) (by unfold swappedStores; cases e <;> rfl)) fun D σ H h => by
    obtain ⟨r, m, s, w, q, g⟩ := h
    refine ⟨r, m, s, w, q, (Go.bind g).mono fun r1 m1 H1 v u1 w1 g1 vv pv => ?_⟩
    refine ⟨r1, m1, s, w1, q.up u1, (Go.bind g1).mono fun r2 m2 H2 x u2 w2 g2 ov po => ?_⟩
    refine ⟨r2, m2, s, w2, (q.up u1).up u2, (Go.bind g2).mono fun r3 m3 H3 y u3 w3 g3 iv pi => ?_⟩
    exact ⟨r3, m3, x, y, v, w3, RV.up u3 _ _ po, pi, RV.up (u2.trans u3) _ _ pv, (Go.bind g3).mono fun r4 m4 H4 _ u4 w4 g4 => Go.ok w4 g4 σ (q.up (u1.trans (u2.trans (u3.trans u4))))⟩
end
end
end Dv
/-! Dv16: which order of stores; equal values; the names of a block; names of the text told apart. -/
namespace Dv
noncomputable section
open PySem L2 PyProof.Rows
/-! ### several names at once -/
section
variable {G : Gl} {X0 : Cx} {W : Wi}
theorem par_args {a : XS} {g : XG} {P : List V → Hp → Prop} {σ : L2.St} {H : Hp} {D : Ends} (h : tZ G W (xSet (xA mkTup a) g) D σ H)
    (k : ∀ r m s xs vs H1, Wd G r m H1 → RS G r m.n H1 s σ → RVs G r m.n H1 xs vs → Go G W (endQ G D) r m H1 ((g (.tup xs) s m).bind fun s1 m2 => .ok (Fl.nx s1) m2) → P vs H1) : tA G W a σ H P := by
  obtain ⟨r, m, s, w, q, go⟩ := h
  have go : Go G W (endQ G D) r m H (((a s m).bind mkTup).bind fun v m1 => (g v s m1).bind fun s1 m2 => .ok (.nx s1) m2) := go
  have g0 : Go G W (endQ G D) r m H ((a s m).bind fun xs m1 => (mkTup xs m1).bind fun v m1 => (g v s m1).bind fun s1 m2 => .ok (Fl.nx s1) m2) := by
    have h1 := R.All.bind.mp (R.All.bind.mp go)
    exact R.All.bind.mpr (R.All.mono (fun a m h => R.All.bind.mpr h) (fun _ _ _ h => h) h1)
  refine ⟨r, m, s, w, q, (Go.bind g0).mono fun r1 m1 H1 xs u1 w1 g1 vs p => ?_⟩
  unfold mkTup at g1
  by_cases hz : Nat.ble xs.length big = true
  · rw [if_pos hz] at g1
    exact k r1 m1 s xs vs H1 w1 (q.up u1) p g1
  · rw [if_neg hz] at g1
    exact g1.elim
theorem ok_par2 {i j : Nat} {x y : Str} {a b : Expr} {fa : XS} {px py pt : Pos} {kt k2 pt2 pos} (hc : X0.calm = true) (hN : X0.N.Nodup) (hi : X0.N[i]? = some x) (hj : X0.N[j]? = some y) (hij : i ≠ j)
    (hx : X0.env.scope.names.lookup x = some .local) (hy : X0.env.scope.names.lookup y = some .local) (ha : OkA G W X0 [a, b] fa) (hw : swappedStores [.Tuple [.Name x px, .Name y py] kt pt] (.Tuple [a, b] k2 pt2) X0.env = pure (some [x, y])) :
    OkZ G W X0 (.Assign [.Tuple [.Name x px, .Name y py] kt pt] (.Tuple [a, b] k2 pt2) pos) (xSet (xA mkTup fa) (gTp 2 (gsCons (gNm i) (gsCons (gNm j) gsNil)))) :=
  ps_of (ps_par hc hN hi hj hij hx hy ha hw) fun D σ H h => par_args h fun r m s xs vs H1 w q p g => by
    match xs, p, g with
    | [], _, g => exact g.elim
    | [_], _, g => exact g.elim
    | [u, v], p, g =>
      obtain ⟨uv, vv, rfl, pu, pv⟩ := rvs2 p
      exact ⟨uv, vv, rfl, Go.ok w (show Go G W (endQ G D) r m H1 (.ok (.nx ((s.set i (some u)).set j (some v))) m) from g) _ ((q.set pu).set pv)⟩
    | a :: b :: c :: l, _, g =>
      have : ¬ (a :: b :: c :: l).length = 2 := by simp
      unfold gTp at g
      dsimp only at g
      rw [if_neg this] at g
      exact g.elim
theorem ok_par3 {i j l : Nat} {x y z : Str} {a b c : Expr} {fa : XS} {px py pz pt : Pos} {kt k2 pt2 pos} (hc : X0.calm = true) (hN : X0.N.Nodup) (hi : X0.N[i]? = some x) (hj : X0.N[j]? = some y) (hl : X0.N[l]? = some z) (hij : i ≠ j) (hil : i ≠ l) (hjl : j ≠ l)
    (hx : X0.env.scope.names.lookup x = some .local) (hy : X0.env.scope.names.lookup y = some .local) (hz : X0.env.scope.names.lookup z = some .local) (ha : OkA G W X0 [a, b, c] fa)
    (hw : swappedStores [.Tuple [.Name x px, .Name y py, .Name z pz] kt pt] (.Tuple [a, b, c] k2 pt2) X0.env = pure (some [x, y, z])) :
    OkZ G W X0 (.Assign [.Tuple [.Name x px, .Name y py, .Name z pz] kt pt] (.Tuple [a, b, c] k2 pt2) pos) (xSet (xA mkTup fa) (gTp 3 (gsCons (gNm i) (gsCons (gNm j) (gsCons (gNm l) gsNil))))) :=
  ps_of (ps_par3 hc hN hi hj hl hij hil hjl hx hy hz ha hw) fun D σ H h => par_args h fun r m s xs vs H1 w q p g => by
    match xs, p, g with
    | [], _, g => exact g.elim
    | [_], _, g => exact g.elim
    | [_, _], _, g => exact g.elim
    | [u, v, t], p, g =>
      rw [RVs] at p
      obtain ⟨uv, us, rfl, pu, p⟩ := p
      obtain ⟨vv, tv, rfl, pv, pt⟩ := rvs2 p
      exact ⟨uv, vv, tv, rfl, Go.ok w (show Go G W (endQ G D) r m H1 (.ok (.nx (((s.set i (some u)).set j (some v)).set l (some t))) m) from g) _ (((q.set pu).set pv).set pt)⟩
    | a :: b :: c :: d :: l, _, g =>
      have : ¬ (a :: b :: c :: d :: l).length = 3 := by simp
      unfold gTp at g
      dsimp only at g
      rw [if_neg this] at g
      exact g.elim
end
/-- the order of the stores, by the scope -/
def swS (sc : Scope) (ts vs : List Expr) : Option (Option (List Str)) :=
  if !(ts.length == 2 || ts.length == 3) || vs.length != ts.length then some none
  else if vs.any (fun | .Starred .. => true | _ => false) then some none
  else
    let line := (ts.head?.map (·.pos.line)).getD 0
    let names := ts.filterMap fun
      | .Name id pos => if sc.names.lookup id == some .local && pos.line == line then some id else none
      | _ => none
    if names.length != ts.length || names.eraseDups.length != names.length then some none
    else if vs.all (foldedForSure 8) then some none
    else if vs.all (constantsAlone 8) then none
    else some (some names)
theorem blockKind_of {env : Env} (h : env.scope.kind = .function) : env.blockKind = .function := by
  unfold Env.blockKind
  rw [h] <;> rfl
theorem swS_ok {env : Env} {ts vs : List Expr} {k k2 : Nat} {p p2 : Pos} {o : Option (List Str)} (hk : env.scope.kind = .function) (h : swS env.scope ts vs = some o) : swappedStores [.Tuple ts k p] (.Tuple vs k2 p2) env = pure o := by
  unfold swS at h
  unfold swappedStores
  have hb := blockKind_of hk
  simp only [hb]
  by_cases h1 : (!(ts.length == 2 || ts.length == 3) || vs.length != ts.length) = true
  · rw [if_pos h1] at h
    cases h
    rw [h1]
    rfl
  · rw [if_neg h1] at h
    rw [Bool.not_eq_true] at h1
    rw [h1]
    by_cases h2 : (vs.any (fun | .Starred .. => true | _ => false)) = true
    · rw [if_pos h2] at h
      cases h
      refine Eq.trans (if_neg Bool.false_ne_true) (if_pos h2)
    · rw [if_neg h2] at h
      refine Eq.trans (if_neg Bool.false_ne_true) (Eq.trans (if_neg h2) ?_)
      dsimp only at h
      by_cases h3 : ((ts.filterMap fun
        | .Name id pos => if env.scope.names.lookup id == some .local && pos.line == (ts.head?.map (·.pos.line)).getD 0 then some id else none
        | _ => none).length != ts.length || (ts.filterMap fun
        | .Name id pos => if env.scope.names.lookup id == some .local && pos.line == (ts.head?.map (·.pos.line)).getD 0 then some id else none
        | _ => none).eraseDups.length != (ts.filterMap fun
        | .Name id pos => if env.scope.names.lookup id == some .local && pos.line == (ts.head?.map (·.pos.line)).getD 0 then some id else none
        | _ => none).length) = true
      · rw [if_pos h3] at h
        cases h
        exact if_pos h3
      · rw [if_neg h3] at h
        refine Eq.trans (if_neg h3) ?_
        by_cases h4 : vs.all (foldedForSure 8) = true
        · rw [if_pos h4] at h
          cases h
          exact if_pos h4
        · rw [if_neg h4] at h
          refine Eq.trans (if_neg h4) ?_
          by_cases h5 : vs.all (constantsAlone 8) = true
          · rw [if_pos h5] at h
            cases h
          · rw [if_neg h5] at h
            cases h
            refine Eq.trans (if_neg h5) ?_
            rfl
/-! ### equal values -/
mutual
def MV.eqb : MV → MV → Bool
  | .non, .non => true
  | .bl a, .bl b => a == b
  | .int i, .int j => i == j
  | .str s, .str t => s == t
  | .ref i, .ref j => i == j
  | .tup xs, .tup ys => MV.eqbs xs ys
  | .fn g, .fn h => g == h
  | .scr, .scr => true
  | _, _ => false
def MV.eqbs : List MV → List MV → Bool
  | [], [] => true
  | x :: xs, y :: ys => MV.eqb x y && MV.eqbs xs ys
  | _, _ => false
end
mutual
theorem MV.eqb_eq : ∀ (x y : MV), MV.eqb x y = true → x = y
  | .non, y, h => by cases y <;> first | rfl | cases h
  | .bl a, y, h => by
    cases y <;> first | (cases h; done) | skip
    rw [MV.eqb, beq_iff_eq] at h
    rw [h]
  | .int a, y, h => by
    cases y <;> first | (cases h; done) | skip
    rw [MV.eqb, beq_iff_eq] at h
    rw [h]
  | .str a, y, h => by
    cases y <;> first | (cases h; done) | skip
    rw [MV.eqb, beq_iff_eq] at h
    rw [h]
  | .ref a, y, h => by
    cases y <;> first | (cases h; done) | skip
    rw [MV.eqb, beq_iff_eq] at h
    rw [h]
  | .fn a, y, h => by
    cases y <;> first | (cases h; done) | skip
    rw [MV.eqb, beq_iff_eq] at h
    rw [h]
  | .scr, y, h => by cases y <;> first | rfl | cases h
  | .tup xs, y, h => by
    cases y <;> first | (cases h; done) | skip
    rw [MV.eqb] at h
    rw [MV.eqbs_eq xs _ h]
theorem MV.eqbs_eq : ∀ (xs ys : List MV), MV.eqbs xs ys = true → xs = ys
  | [], ys, h => by cases ys <;> first | rfl | cases h
  | x :: xs, ys, h => by
    cases ys with
    | nil => cases h
    | cons y ys =>
      rw [MV.eqbs, Bool.and_eq_true] at h
      rw [MV.eqb_eq x y h.1, MV.eqbs_eq xs ys h.2]
end
/-! ### a block's names -/
def ownOf (N : List Str) (vs : List Nat) : List (Str × Nat) := vs.map fun i => (N.getD i Str.empty, i)
def blkB (N : List Str) (sc scope : Scope) (vs : List Nat) : Bool :=
  decide (scope.kind = .function) && scope.names.all (fun y => scope.names.lookup y.1 == some y.2) && vs.all (fun i => Nat.blt i N.length) &&
  scope.names.all (fun y => y.2 != .free || sc.names.lookup y.1 == some .cell || sc.names.lookup y.1 == some .free) &&
  scope.names.all fun y => (y.2 != .local && y.2 != .cell) || (ownOf N vs).any (fun p => p.1 == y.1) || N.all (fun x => x != y.1)
theorem own_snd (N : List Str) (vs : List Nat) : (ownOf N vs).map (·.2) = vs := by
  unfold ownOf
  rw [List.map_map]
  exact List.map_id _
theorem blkB_ok {N : List Str} {sc scope : Scope} {vs : List Nat} (h : blkB N sc scope vs = true) : BlkOk N sc scope (ownOf N vs) := by
  unfold blkB at h
  simp only [Bool.and_eq_true] at h
  obtain ⟨⟨⟨⟨h1, h2⟩, h3⟩, h4⟩, h5⟩ := h
  refine ⟨of_decide_eq_true h1, fun y hy => ?_, fun p hp => ?_, fun y hy e => ?_, fun y hy e => ?_⟩
  · exact beq_iff_eq.mp (List.all_eq_true.mp h2 y hy)
  · obtain ⟨i, hi, rfl⟩ := List.mem_map.mp hp
    have hl : i < N.length := Nat.ble_eq.mp (List.all_eq_true.mp h3 i hi)
    show N[i]? = some (N.getD i Str.empty)
    rw [List.getD_eq_getElem?_getD, List.getElem?_eq_getElem hl] <;> rfl
  · have := List.all_eq_true.mp h4 y hy
    rw [e] at this
    simp at this
    exact this
  · have := List.all_eq_true.mp h5 y hy
    rw [Bool.or_eq_true, Bool.or_eq_true] at this
    rcases this with (h | h) | h
    · rcases e with e | e <;> (rw [e] at h; exact absurd h (by decide))
    · left
      obtain ⟨p, hp, q⟩ := List.any_eq_true.mp h
      exact List.mem_map.mpr ⟨p, hp, beq_iff_eq.mp q⟩
    · right
      intro z
      have := List.all_eq_true.mp h y.1 z
      simp at this
/-- the block's scope, as it runs -/
def inS (scope sc : Scope) : Scope := { scope with names := scope.names.map fun (n, k) => if (k == NameKind.free && sc.kind == .function && sc.names.lookup n == some .cell) then (n, NameKind.cell) else (n, k) }
end
end Dv
/-! DvD: dict displays, d.get, s.replace of written texts behind a test. -/
namespace Dv
noncomputable section
open PySem L2 PyProof.Rows
abbrev XP := St → MH → R (List (MV × MV))
def xPr0 : XP := fun _ m => .ok [] m
def xPrC (f g : X) (k : XP) : XP := fun s m => (f s m).bind fun x m1 => (g s m1).bind fun y m2 => (k s m2).bind fun ps m3 => .ok ((x, y) :: ps) m3
def dMake (ps : List (MV × MV)) : List (MV × MV) → List (MV × MV) := List.rec (motive := fun _ => List (MV × MV) → List (MV × MV)) (fun acc => acc) (fun p _ ih acc => ih (dPut acc p.1 p.2)) ps
theorem dMake_cons (p : MV × MV) (r acc : List (MV × MV)) : dMake (p :: r) acc = dMake r (dPut acc p.1 p.2) := rfl
def mkDct (i : Nat) (ps : List (MV × MV)) (m : MH) : R MV := match m.get i with
  | some (.dct false []) => if ps.all (fun p => keyB p.1) && Nat.ble ps.length 15 then .ok (.ref i) (m.wr i (.dct false (dMake ps [])) (.tup (ps.map (·.2)))) else .bad
  | _ => .bad
def xDct (a : XP) : X := fun s m => (a s (m.push (.dct false []))).bind fun ps m1 => mkDct m.n ps m1
section
variable {G : Gl} {W : Wi} {X0 : Cx}
def RPs (G : Gl) (r : Nat → Addr) (n : Nat) (H : Hp) : List (MV × MV) → List (V × V) → Prop
  | [], ps => ps = []
  | p :: r', ps => ∃ a b qs, ps = (a, b) :: qs ∧ RV G r n H p.1 a ∧ RV G r n H p.2 b ∧ RPs G r n H r' qs
def tP (G : Gl) (W : Wi) (a : XP) (σ : L2.St) (H : Hp) (Q : List (V × V) → Hp → Prop) : Prop :=
  ∃ r m s, Wd G r m H ∧ RS G r m.n H s σ ∧ Go G W (fun r m H xs => ∀ ps, RPs G r m.n H xs ps → Q ps H) r m H (a s m)
/-- pairs of a display and what they do -/
def OkP (G : Gl) (W : Wi) (X0 : Cx) (ks : List (Option Expr)) (vs : List Expr) (a : XP) : Prop :=
  ∃ trs, (∀ pos, PPs X0 pos ks vs trs) ∧ ∀ σ H Q, tP G W a σ H Q → tPairs trs σ H Q
theorem okP_nil : OkP G W X0 [] [] xPr0 := ⟨[], fun _ => pps_nil, fun σ H Q ⟨r, m, s, w, q, g⟩ => Go.ok w g [] rfl⟩
theorem okP_cons {k v : Expr} {ks : List (Option Expr)} {vs : List Expr} {f g : X} {a : XP} (hk : OkE G W X0 k f) (hv : OkE G W X0 v g) (hr : OkP G W X0 ks vs a) : OkP G W X0 (some k :: ks) (v :: vs) (xPrC f g a) := by
  obtain ⟨trs, h1, h2⟩ := hr
  refine ⟨_, fun pos => pps_cons hk hv (h1 pos), fun σ H Q ⟨r, m, s, w, q, z⟩ => ?_⟩
  refine ⟨r, m, s, w, q, (Go.bind z).mono fun r1 m1 H1 x u1 w1 g1 a1 p => ?_⟩
  refine ⟨r1, m1, s, w1, q.up u1, (Go.bind g1).mono fun r2 m2 H2 y u2 w2 g2 a2 p2 => ?_⟩
  refine h2 σ H2 _ ⟨r2, m2, s, w2, (q.up u1).up u2, (Go.bind g2).mono fun r3 m3 H3 ps u3 w3 g3 qs p3 => ?_⟩
  exact Go.ok w3 g3 ((a1, a2) :: qs) ⟨a1, a2, qs, rfl, RV.up u3 _ _ (RV.up u2 _ _ p), RV.up u3 _ _ p2, p3⟩
theorem RPs.length {r : Nat → Addr} {n : Nat} {H : Hp} : ∀ {ps : List (MV × MV)} {qs : List (V × V)}, RPs G r n H ps qs → ps.length = qs.length
  | [], _, h => by cases h; rfl
  | p :: ps, _, h => by
    obtain ⟨a, b, qs, rfl, _, _, h⟩ := h
    rw [List.length_cons, List.length_cons, RPs.length h]
/-- the keys of a display -/
theorem RPs.keys {r : Nat → Addr} {n : Nat} {H : Hp} : ∀ {ps : List (MV × MV)} {qs : List (V × V)}, RPs G r n H ps qs → ps.all (fun p => keyB p.1) = true → ∃ kvs : List (Key × V), qs = kvs.map (fun kv => (kV kv.1, kv.2)) ∧ RKs G r n H ps kvs
  | [], _, h, _ => by
    cases h
    exact ⟨[], rfl, rfl⟩
  | p :: ps, _, h, hb => by
    obtain ⟨a, b, qs, rfl, h1, h2, h⟩ := h
    rw [List.all_cons, Bool.and_eq_true] at hb
    obtain ⟨kvs, rfl, q⟩ := h.keys hb.2
    obtain ⟨k, hk⟩ := keyOf_ok hb.1
    have := keyOf_rv hk h1
    subst this
    exact ⟨(k, b) :: kvs, rfl, k, b, kvs, rfl, hk, h2, q⟩
theorem dMake_ok {r : Nat → Addr} {n : Nat} {H : Hp} : ∀ {ps : List (MV × MV)} {kvs : List (Key × V)} {acc : List (MV × MV)} {ws : List (Key × V)}, RKs G r n H ps kvs → RKs G r n H acc ws → (ws.map (·.1)).Nodup → RKs G r n H (dMake ps acc) (mergeK ws kvs) ∧ ((mergeK ws kvs).map (·.1)).Nodup
  | [], _, acc, ws, h, a, nd => by
    cases h
    exact ⟨a, nd⟩
  | p :: ps, _, acc, ws, h, a, nd => by
    obtain ⟨k, v, us, rfl, hk, hv, q⟩ := h
    have := dMake_ok (acc := dPut acc p.1 p.2) (ws := putK ws k v) q (dPut_ok hk hv a nd) (putK_nodup nd)
    exact this
theorem dMake_under {l : Nat} : ∀ {ps acc : List (MV × MV)}, ps.all (fun p => keyB p.1) = true → MV.unders l (ps.map (·.2)) = true → (acc.all fun p => p.1.under l && p.2.under l) = true → ((dMake ps acc).all fun p => p.1.under l && p.2.under l) = true
  | [], acc, _, _, h => h
  | p :: ps, acc, hb, hu, h => by
    rw [List.all_cons, Bool.and_eq_true] at hb
    rw [List.map_cons, MV.unders, Bool.and_eq_true] at hu
    rw [dMake_cons]
    exact dMake_under hb.2 hu.2 (dPut_under (keyB_under hb.1) hu.1 h)
theorem ok_dct {ks : List (Option Expr)} {vs : List Expr} {a : XP} {pos : Pos} (hp : OkP G W X0 ks vs a) (hall : ks.all (·.isSome) = true) (hl : ks.length = vs.length) (h0 : ks ≠ []) (h15 : ks.length ≤ 15) : OkE G W X0 (.Dict ks vs pos) (xDct a) := by
  obtain ⟨trs, h1, h2⟩ := hp
  refine pe_of (pe_disp (h1 pos) hall hl h0 h15) fun σ H Q h p hp => ?_
  obtain ⟨r, m, s, w, q, g⟩ := h
  have u := up_new w hp (.dK [])
  have w1 : Wd G (ext r m.n p) (m.push (.dct false [])) (upd H p (.dK [])) := wd_new w hp ⟨[], rfl, List.nodup_nil, upd_same⟩
  refine h2 σ _ _ ⟨_, _, s, w1, q.up u, (Go.up u (Go.bind g)).mono fun r1 m1 H1 ps u1 w2 g1 qs p1 => ?_⟩
  unfold mkDct at g1
  have hi : r1 m.n = p := by
    rw [u1.agr m.n (Nat.lt_succ_self _), ext_eq]
  cases e : m1.get m.n with
  | none => rw [e] at g1; exact g1.elim
  | some ob =>
    rw [e] at g1
    cases ob <;> first | exact g1.elim | skip
    rename_i lk kvs
    cases lk <;> first | exact g1.elim | skip
    cases kvs <;> first | exact g1.elim | skip
    dsimp only at g1
    by_cases hc : (ps.all (fun p => keyB p.1) && Nat.ble ps.length 15) = true
    · rw [if_pos hc] at g1
      obtain ⟨c1, c2⟩ := Bool.and_eq_true_iff.mp hc
      obtain ⟨ws, pe, nd, rd, hd⟩ := w2.dct e
      cases pe
      have h3 := hd rfl
      rw [hi] at h3
      obtain ⟨kvs, e2, rk⟩ := p1.keys c1
      have hlen : kvs.length ≤ 15 := by
        have := p1.length
        rw [e2, List.length_map] at this
        rw [← this]
        exact Nat.le_of_ble_eq_true c2
      refine ⟨h3, kvs, e2, hlen, ?_⟩
      have hm : m.n < m1.n := get_lt e
      have up : Up r1 m1.n H1 r1 m1.n (upd H1 p (.dK (mergeK [] kvs))) := up_mut h3 trivial hm hi
      obtain ⟨d1, d2⟩ := dMake_ok (acc := []) (ws := []) (RKs.tp up.tp _ _ rk) rfl List.nodup_nil
      have w3 : Wd G r1 (m1.wr m.n (.dct false (dMake ps [])) (.tup (ps.map (·.2)))) (upd H1 p (.dK (mergeK [] kvs))) := by
        have := wd_mut w2 hm (x := .dK []) (by rw [hi]; exact h3) trivial (y := .dK (mergeK [] kvs)) (o := .dct false (dMake ps [])) (v := .tup (ps.map (·.2))) (by
          rw [hi]
          exact ⟨_, d1, d2, upd_same⟩) e fun l _ q2 => dMake_under c1 (by rw [MV.under] at q2; exact q2) rfl
        rw [hi] at this
        exact this
      exact g1 r1 _ up w3 (.ref p) (by rw [RV]; exact ⟨hm, by rw [hi]⟩)
    · rw [if_neg hc] at g1
      exact g1.elim
theorem ok_dct0 {pos : Pos} : OkE G W X0 (.Dict [] [] pos) (xDct xPr0) := by
  refine pe_of pe_dnewK fun σ H Q h => ?_
  obtain ⟨r, m, s, w, q, g⟩ := h
  intro p hp
  have u := up_new w hp (.dK [])
  have w1 : Wd G (ext r m.n p) (m.push (.dct false [])) (upd H p (.dK [])) := wd_new w hp ⟨[], rfl, List.nodup_nil, upd_same⟩
  have g2 := Go.ok w1 (Go.up u (Go.bind g))
  unfold mkDct at g2
  rw [get_push m w.len, if_pos rfl] at g2
  have g3 : Go G W (vQ G Q) (ext r m.n p) (m.push (.dct false [])) (upd H p (.dK [])) (.ok (.ref m.n) ((m.push (.dct false [])).wr m.n (.dct false []) (.tup []))) := g2
  have h3 : upd H p (.dK []) (ext r m.n p m.n) = some (.dK []) := by rw [ext_eq]; exact upd_same
  have e : (m.push (.dct false [])).get m.n = some (.dct false []) := by rw [get_push m w.len, if_pos rfl]
  have hm : m.n < (m.push (.dct false [])).n := Nat.lt_succ_self _
  have up : Up (ext r m.n p) (m.n + 1) (upd H p (.dK [])) (ext r m.n p) (m.n + 1) (upd (upd H p (.dK [])) (ext r m.n p m.n) (.dK [])) := up_mut h3 trivial hm rfl
  have w3 := wd_mut w1 (i := m.n) hm h3 trivial (y := .dK []) (o := .dct false []) (v := .tup []) ⟨[], rfl, List.nodup_nil, upd_same⟩ e fun l a _ => a
  have ee : upd (upd H p (.dK [])) (ext r m.n p m.n) (.dK []) = upd H p (.dK []) := by
    rw [ext_eq]
    funext b
    unfold upd
    by_cases hb : b = p
    · rw [if_pos hb, if_pos hb]
    · rw [if_neg hb, if_neg hb]
  rw [ee] at up w3
  exact g3 _ _ up w3 (.ref p) (by rw [RV]; exact ⟨hm, by rw [ext_eq]⟩)
/-! ### d.get -/
def isDct (x : MV) (m : MH) : Bool := match x with
  | .ref i => match m.get i with
    | some (.dct false _) => true
    | _ => false
  | _ => false
theorem ty_dct : TyOk G "dict" isDct := fun r m H x v w p h => by
  cases x <;> first | (cases h; done) | skip
  rename_i i
  rw [RV] at p
  obtain ⟨hi, rfl⟩ := p
  unfold isDct at h
  dsimp only at h
  cases e : m.get i with
  | none => rw [e] at h; cases h
  | some o =>
    rw [e] at h
    cases o <;> first | (cases h; done) | skip
    rename_i lk kvs
    cases lk <;> first | (cases h; done) | skip
    obtain ⟨ws, _, _, _, hd⟩ := w.dct e
    exact .inr (.inr (.inl ⟨rfl, .inl ⟨ws, hd rfl⟩⟩))
def getV (x : MV) (ys : List MV) (m : MH) : R MV := match x with
  | .ref i => match m.get i with
    | some (.dct _ kvs) => match ys with
      | y :: ds => if keyB y then match dGet kvs y with
          | some v => match ds with
            | [] => .ok v m
            | [_] => .ok v m
            | _ => .bad
          | none => match ds with
            | [] => .ok .non m
            | [d] => .ok d m
            | _ => .bad
        else .bad
      | [] => .bad
    | _ => .bad
  | _ => .bad
theorem ok_get (hu : X0.A.units + 1 < cLine) : MtR X0 "dict.get" (rM G W getV) := by
  intro pins s σ H v vs v' us Q I rx rs h
  obtain ⟨r, m, x, xs, w, px, ps, g⟩ := h
  cases x <;> first | exact g.elim | skip
  rename_i i
  rw [RV] at px
  obtain ⟨hi, rfl⟩ := px
  dsimp only [getV] at g
  cases e : m.get i with
  | none => rw [e] at g; exact g.elim
  | some o =>
    rw [e] at g
    cases o <;> first | exact g.elim | skip
    rename_i lk kvs
    dsimp only at g
    cases xs with
    | nil => exact g.elim
    | cons y ds =>
      dsimp only at g
      by_cases hb : keyB y = true
      · rw [if_pos hb] at g
        obtain ⟨k, hk⟩ := keyOf_ok hb
        obtain ⟨ws, pw, nd, rd, _⟩ := w.dct e
        have hg := dGet_ok hk pw
        cases (show v' = Value.ref (r i) from rx)
        rw [RVs] at ps
        obtain ⟨vy, vr, rfl, py, pr⟩ := ps
        have hv := keyOf_rv hk py
        cases rs with
        | cons ry rr =>
          rename_i u ur
          cases eg : dGet kvs y with
          | some z =>
            rw [eg] at g hg
            obtain ⟨vz, hz, rz⟩ := hg
            have dg : DGet H (r i) vy (some vz) := .inl ⟨ws, k, rd, hv, hz.symm⟩
            cases ds with
            | nil =>
              rw [RVs] at pr
              subst pr
              cases rr
              exact d_get1 hu I dg ry fun w' s3 I3 rw' => ⟨vz, H, I3, rw', go_val w rz g⟩
            | cons d ds =>
              cases ds with
              | cons _ _ => exact g.elim
              | nil =>
                rw [RVs] at pr
                obtain ⟨vd, vr2, rfl, pd, pr⟩ := pr
                rw [RVs] at pr
                subst pr
                cases rr with
                | cons rd' rr =>
                  cases rr
                  exact d_get2 hu I dg ry rd' fun w' s3 I3 rw' => ⟨vz, H, I3, rw', go_val w rz g⟩
          | none =>
            rw [eg] at g hg
            have dg : DGet H (r i) vy none := .inl ⟨ws, k, rd, hv, hg.symm⟩
            cases ds with
            | nil =>
              rw [RVs] at pr
              subst pr
              cases rr
              exact d_get1 hu I dg ry fun w' s3 I3 rw' => ⟨.non, H, I3, rw', go_val w rv_non g⟩
            | cons d ds =>
              cases ds with
              | cons _ _ => exact g.elim
              | nil =>
                rw [RVs] at pr
                obtain ⟨vd, vr2, rfl, pd, pr⟩ := pr
                rw [RVs] at pr
                subst pr
                cases rr with
                | cons rd' rr =>
                  cases rr
                  exact d_get2 hu I dg ry rd' fun w' s3 I3 rw' => ⟨vd, H, I3, rw', go_val w pd g⟩
      · rw [if_neg hb] at g
        exact g.elim
/-! ### x if a[i] == b else o.replace(c, d): the test gives out a token -/
def rep1 (c : Nat) (d l : List Nat) : List Nat := List.rec (motive := fun _ => List Nat) [] (fun x _ ih => bif Nat.beq x c then d ++ ih else x :: ih) l
theorem rep1_eq (c : Nat) (d : List Nat) : ∀ l, StrLaws.replL [c] d l = rep1 c d l
  | [] => StrLaws.replL_nil
  | x :: r => by
    have e : rep1 c d (x :: r) = bif Nat.beq x c then d ++ rep1 c d r else x :: rep1 c d r := rfl
    rw [e]
    cases hb : Nat.beq x c with
    | true =>
      have := Nat.eq_of_beq_eq_true hb
      subst this
      rw [StrLaws.replL_hit (by simp) rfl]
      show d ++ StrLaws.replL [x] d r = _
      rw [rep1_eq x d r] <;> rfl
    | false =>
      rw [StrLaws.replL_miss (by
        intro z
        have h1 : x = c := (List.cons.inj z).1
        rw [h1, Nat.beq_refl] at hb
        cases hb)]
      rw [rep1_eq c d r] <;> rfl
theorem replace_rep1 {c : Nat} {d l : List Nat} : Txt.replace ⟨l.toArray⟩ ⟨#[c]⟩ ⟨d.toArray⟩ = ⟨(rep1 c d l).toArray⟩ := by
  have h := StrLaws.replace_list (x := ⟨l.toArray⟩) (y := ⟨#[c]⟩) (z := ⟨d.toArray⟩) (Nat.le_refl 1)
  have h2 : (Txt.replace (⟨l.toArray⟩ : Str) ⟨#[c]⟩ ⟨d.toArray⟩).cps.toList = rep1 c d l := h.trans (rep1_eq c d l)
  cases hr : Txt.replace (⟨l.toArray⟩ : Str) ⟨#[c]⟩ ⟨d.toArray⟩ with
  | mk a =>
    rw [hr] at h2
    have h3 : a = (rep1 c d l).toArray := by
      rw [← h2]
    rw [h3]
def replV (c : Nat) (d : List Nat) (x : MV) (m : MH) : R MV := match x with
  | .str l => if Nat.ble (l.length + (l.length + 1) * d.length) big then .ok (.str (rep1 c d l)) m else .bad
  | _ => .bad
/-- an expression behind which a token is out -/
def PEG (X : Cx) (e : Expr) (t : TE) : Prop := ∀ (pins : List (Addr × Obj)) (s : Shared) (σ : L2.St) (H : Hp) (Q : VK), Inv X pins σ H s → t σ H Q → wpAny (model X.prog X.w) X.A (eval e X.env) (fun v s' => 1 ≤ s'.toks ∧ EP X pins σ Q v s') X.xe s
theorem wp_with {α : Type} {M : Model} {A : Around} {s : Shared} {t : Sem α} {Q : α → Shared → Prop} {E : Value → Shared → Prop} (hn : 1 ≤ s.toks) (h : wpAny M A t Q E s) : wpAny M A t (fun a s' => 1 ≤ s'.toks ∧ Q a s') E s :=
  PySem.wpAny_with_toks hn (wpAny_mono h (fun _ _ q k => ⟨k, q⟩) fun _ _ z _ => z)
theorem peg_int {X : Cx} {i : Int} {j : Nat} {pos : Pos} : PEG X (.Constant (.int i) j pos) (tC (.int i)) := fun pins s σ H Q I h =>
  wpAny_Constant_int ⟨Nat.succ_le_succ (Nat.zero_le _), .int i, H, I.tok _, ⟨_, rfl⟩, h⟩
theorem peg_of {X : Cx} {e : Expr} {t t' : TE} (h : PEG X e t) (i : ∀ σ H Q, t' σ H Q → t σ H Q) : PEG X e t' := fun pins s σ H Q I q => h pins s σ H Q I (i σ H Q q)
theorem tTest_of {f : MV → MV → MH → R MV} {fa fb : X} {σ : L2.St} {H : Hp} {Q : Bool → Hp → Prop} (t : tT G W (xB (xBin f fa fb)) σ H Q) : tTest (tOp (rS G W f) (tE G W fa) (tE G W fb)) σ H Q := by
  have t2 := tT_bind (k := fun x _ m => asB x m) t
  have t3 := tOp_of t2
  obtain ⟨r, m, s, w, q, g⟩ := t3
  refine ⟨r, m, s, w, q, g.mono fun r1 m1 H1 x u1 w1 g1 v p => ?_⟩
  obtain ⟨r2, m2, s2, w2, q2, g2⟩ := g1 v p
  refine ⟨r2, m2, s2, w2, q2, g2.mono fun r3 m3 H3 y u3 w3 g3 u p3 => ?_⟩
  obtain ⟨r4, m4, x4, y4, w4, p4, p5, g4⟩ := g3 u p3
  refine ⟨r4, m4, x4, y4, w4, p4, p5, g4.mono fun r5 m5 H5 z u5 w5 g5 c p6 => ?_⟩
  obtain ⟨r6, m6, s6, x6, w6, q6, p7, g6⟩ := g5 c p6
  exact go_asB w6 p7 g6
theorem peg_ix {X : Cx} {a b : Expr} {ta tb : TE} {r : R2} {pos : Pos} (hr : IxR X r) (ha : PE X a ta) (hb : PEG X b tb) (hs : PlainIx b) : PEG X (.Subscript a b pos) (tOp r ta tb) := fun pins s σ H Q I h =>
  Subscript_ (thn (ha.run pins s σ H _ I h) fun v s1 ⟨x, H1, I1, r1, q1⟩ => thn (hb pins s1 σ H1 _ I1 q1) fun u s2 ⟨hk, y, H2, I2, r2, q2⟩ =>
    wp_with hk (hr a b pins s2 σ H2 x y v u Q I2 r1 r2 q2 (hs _ _)))
theorem ptg_cmp {X : Cx} {op : CmpOp} {a b : Expr} {ta tb : TE} {r : R2} {pos : Pos} (ho : OpR X (compareOp op) r) (ha : PEG X a ta) (hb : PE X b tb) (hm : behindInMarks op b = false) {pins : List (Addr × Obj)} {s : Shared} {σ : L2.St} {H : Hp} {Q : Bool → Hp → Prop} (I : Inv X pins σ H s) (h : tTest (tOp r ta tb) σ H Q) :
    wpAny (model X.prog X.w) X.A (isTrue (.Compare a [op] [b] pos) X.env (eval (.Compare a [op] [b] pos) X.env)) (fun d s' => 1 ≤ s'.toks ∧ TP X pins σ Q d s') X.xe s := by
  refine wpAny_isTrue_Compare1 (thn (ha pins s σ H _ I h) fun v s1 ⟨hk, x, H1, I1, r1, q1⟩ => thn (wp_with hk (hb.run pins s1 σ H1 _ I1 q1)) fun u s2 ⟨hk2, y, H2, I2, r2, q2⟩ =>
    thn (wp_with hk2 (ho pins s2 σ H2 x y v u _ I2 r1 r2 q2)) fun c s3 ⟨hk3, z, H3, I3, r3, k, e, q3⟩ => ?_) hm
  subst e
  cases r3
  exact wpAny_truthy_bool ⟨hk3, H3, I3, q3⟩
theorem pe_ifG {X : Cx} {op : CmpOp} {a b u v : Expr} {ta tb tu tv : TE} {r : R2} {p pos : Pos} (ho : OpR X (compareOp op) r) (ha : PEG X a ta) (hb : PE X b tb) (hm : behindInMarks op b = false) (hu : PE X u tu) (hv : PET X v tv) :
    PE X (.IfExp (.Compare a [op] [b] p) u v pos) (tIf (tTest (tOp r ta tb)) tu tv) := by
  refine ⟨fun pins s σ H Q I h => ?_⟩
  refine wpAny_IfExp (thn (ptg_cmp ho ha hb hm I h) fun d s1 ⟨hk, H1, I1, q1⟩ => ?_)
  cases d with
  | true => exact hu.run pins s1 σ H1 Q I1 q1
  | false => exact hv pins s1 σ H1 Q hk I1 q1
def oneB (y : Str) (c : Nat) : Bool := y.cps.toList == [c]
theorem str_of {y : Str} {l : List Nat} (h : y.cps.toList = l) : y = ⟨l.toArray⟩ := by
  cases y with
  | mk a =>
    have : a.toList = l := h
    rw [← this]
theorem ok_ifr {a b u o : Expr} {fa fb fu fo : X} {i : Int} {j j1 j2 : Nat} {y z : Str} {c : Nat} {d : List Nat} {p1 p2 p3 p4 p5 ap cp pos : Pos} (hK : X0.K = G.K) (hu : X0.A.units + 65 < cLine) (ha : OkE G W X0 a fa) (hb : OkE G W X0 b fb) (hcu : OkE G W X0 u fu) (ho : OkE G W X0 o fo)
    (hm : behindInMarks .Eq b = false) (hn : notCall0 o = true) (hl : (ap.endLine == cp.line) = true) (hy : oneB y c = true) (hz : (z.cps.toList == d) = true) (hyz : (d == [c]) = false) :
    OkE G W X0 (.IfExp (.Compare (.Subscript a (.Constant (.int i) j p1) p2) [.Eq] [b] p3) u (.Call (.Attribute o "replace" ap) [.Constant (.str y) j1 p4, .Constant (.str z) j2 p5] [] cp) pos)
      (xIf (xB (xBin (cmpV .Eq) (xBin ixV fa (xC (.int i))) fb)) fu (x1 (replV c d) fo)) := by
  have ey := str_of (beq_iff_eq.mp hy)
  have ez := str_of (beq_iff_eq.mp hz)
  subst ey ez
  have hne : ((⟨[c].toArray⟩ : Str) == ⟨d.toArray⟩) = false := by
    refine beq_eq_false_iff_ne.mpr fun e => ?_
    rw [← (str_eq [c] d).mp e, beq_self_eq_true] at hyz
    cases hyz
  have k1 : PEG X0 (.Constant (.int i) j p1) (tE G W (xC (.int i))) := peg_of peg_int fun _ _ _ h => tC_of (fun _ _ _ => by rw [RV]) h
  have k2 : PEG X0 (.Subscript a (.Constant (.int i) j p1) p2) (tE G W (xBin ixV fa (xC (.int i)))) := peg_of (peg_ix (ok_ixV (G := G) (W := W) hK (by omega)) ha k1 (plainIx_of rfl)) fun _ _ _ t => tOp_of t
  have P := pe_ifG (u := u) (pos := pos) (p := p3) (ok_cmpV (G := G) (W := W) hK hu .Eq) k2 hb hm hcu (CwR.pet_replC (j := j1) (k := j2) (c0 := p4) (c1 := p5) ho hne rfl (base_of hn) hl)
  refine pe_of P fun σ H Q h => tTest_of ?_
  obtain ⟨r, m, s, w, q, g⟩ := h
  refine ⟨r, m, s, w, q, (Go.bind g).mono fun r1 m1 H1 b u1 w1 g1 => ?_⟩
  cases b with
  | true => exact tE_at w1 (q.up u1) g1
  | false =>
    have t2 : tE G W (x1 (replV c d) fo) σ H1 Q := tE_at w1 (q.up u1) g1
    obtain ⟨r, m, s, w, q, g⟩ := t2
    refine ⟨r, m, s, w, q, (Go.bind g).mono fun r1 m1 H1 x u1 w1 g1 v p => ?_⟩
    cases x <;> first | exact g1.elim | skip
    rename_i l
    rw [RV] at p
    subst p
    unfold replV at g1
    dsimp only at g1
    by_cases hb : Nat.ble (l.length + (l.length + 1) * d.length) big = true
    · rw [if_pos hb] at g1
      refine ⟨_, rfl, ?_, ?_⟩
      · show l.toArray.size + (l.toArray.size + 1) * d.toArray.size ≤ _
        rw [List.size_toArray, List.size_toArray]
        exact Nat.le_of_ble_eq_true hb
      · have e : Txt.replace ⟨l.toArray⟩ ⟨[c].toArray⟩ ⟨d.toArray⟩ = ⟨(rep1 c d l).toArray⟩ := replace_rep1
        rw [e]
        exact go_val w1 rv_str g1
    · rw [if_neg hb] at g1
      exact g1.elim
end
end
end Dv
/-! Dv17: the syntax that the evaluator reads, and what it does (printed by gen_ir.py). -/
namespace Dv
noncomputable section
open PySem L2 PyProof.Rows
def xArg0 : XS := fun _ m => .ok [] m
def xArgC (f : X) (k : XS) : XS := fun s m => (f s m).bind fun x m1 => (k s m1).bind fun xs m2 => .ok (x :: xs) m2
def bopC (w : Bool) (f k : X) : X := fun s m => (f s m).bind fun x m1 => (truV x m1).bind fun b m2 => match b == w with
  | true => k s m2
  | false => .ok x m2
def bopTC (w : Bool) (f k : XB) : XB := fun s m => (f s m).bind fun b m2 => match b == w with
  | true => k s m2
  | false => .ok b m2
/-- what the functions of the text do, by number -/
abbrev Cl := Nat → List MV → MH → R MV
inductive Bf where
  | len | all | any | int | repr | max | min | abs | list | tuple
def Bf.f : Bf → List MV → MH → R MV
  | .len => lenV
  | .all => allV fun bs => bs.all id
  | .any => allV fun bs => bs.any id
  | .int => intV
  | .repr => reprV
  | .max => maxV
  | .min => minV
  | .abs => absV
  | .list => listV
  | .tuple => tupleV
inductive Mt where
  | app | ext | rmp | join | get
def Mt.f : Mt → MV → List MV → MH → R MV
  | .app => appV
  | .ext => extV
  | .rmp => rmpV
  | .join => joinV
  | .get => getV
def Mt.ty : Mt → MV → MH → Bool
  | .app => isLst
  | .ext => isLst
  | .rmp => isStr
  | .join => isStr
  | .get => isDct
mutual
inductive Tg where
  | nm (a0 : Nat)
  | tp (a0 : Tgs)
inductive Tgs where
  | nil
  | cons (a0 : Tg) (a1 : Tgs)
end
def Tgs.many : Tgs → Nat
  | .nil => 0
  | .cons _ r => r.many + 1
def Tg.den (e : Tg) : XG := Tg.rec (motive_1 := fun _ => XG) (motive_2 := fun _ => XGs) (fun a0 => gNm a0) (fun a0 d0 => gTp a0.many d0) (gsNil) (fun a0 a1 d0 d1 => gsCons d0 d1) e
def Tgs.den (e : Tgs) : XGs := Tgs.rec (motive_1 := fun _ => XG) (motive_2 := fun _ => XGs) (fun a0 => gNm a0) (fun a0 d0 => gTp a0.many d0) (gsNil) (fun a0 a1 d0 d1 => gsCons d0 d1) e
theorem Tg.den_nm {a0 : Nat} : (Tg.nm a0 : Tg).den = gNm a0 := rfl
theorem Tg.den_tp {a0 : Tgs} : (Tg.tp a0 : Tg).den = gTp a0.many (a0.den) := rfl
theorem Tgs.den_nil : (Tgs.nil : Tgs).den = gsNil := rfl
theorem Tgs.den_cons {a0 : Tg} {a1 : Tgs} : (Tgs.cons a0 a1 : Tgs).den = gsCons (a0.den) (a1.den) := rfl
mutual
inductive E where
  | loc (a0 : Nat)
  | c (a0 : MV)
  | gc (a0 : MV)
  | bin (a0 : Operator) (a1 : E) (a2 : E)
  | cmp (a0 : CmpOp) (a1 : E) (a2 : E)
  | chn (a0 : CmpOp) (a1 : CmpOp) (a2 : E) (a3 : E) (a4 : E)
  | bop (a0 : Bool) (a1 : B)
  | nt (a0 : E)
  | neg (a0 : E)
  | ife (a0 : T) (a1 : E) (a2 : E)
  | tup (a0 : L)
  | lst (a0 : L)
  | ix (a0 : E) (a1 : E)
  | sl (a0 : E) (a1 : O) (a2 : O)
  | call (a0 : Nat) (a1 : L)
  | blt (a0 : Bf) (a1 : L)
  | isi (a0 : Ty) (a1 : E)
  | lr1 (a0 : E)
  | lr2 (a0 : E) (a1 : E)
  | mth (a0 : Mt) (a1 : E) (a2 : L)
  | lc (a0 : List Nat) (a1 : I) (a2 : Tg) (a3 : OT) (a4 : E)
  | dct (a0 : P)
  | ifr (a0 : E) (a1 : Int) (a2 : E) (a3 : E) (a4 : E) (a5 : Nat) (a6 : List Nat)
inductive P where
  | nil
  | cons (a0 : E) (a1 : E) (a2 : P)
inductive L where
  | nil
  | cons (a0 : E) (a1 : L)
inductive B where
  | one (a0 : E)
  | cons (a0 : E) (a1 : B)
inductive T where
  | tru (a0 : E)
  | cmp (a0 : CmpOp) (a1 : E) (a2 : E)
  | chn (a0 : CmpOp) (a1 : CmpOp) (a2 : E) (a3 : E) (a4 : E)
  | nt (a0 : T)
  | bop (a0 : Bool) (a1 : BT)
inductive BT where
  | one (a0 : T)
  | cons (a0 : T) (a1 : BT)
inductive O where
  | no
  | on (a0 : E)
inductive OT where
  | no
  | on (a0 : T)
inductive I where
  | src (a0 : E)
  | zip (a0 : L)
  | rg1 (a0 : L)
  | rg2 (a0 : L)
end
def E.den (cl : Cl) (e : E) : X := E.rec (motive_1 := fun _ => X) (motive_2 := fun _ => XP) (motive_3 := fun _ => XS) (motive_4 := fun _ => Bool → X) (motive_5 := fun _ => XB) (motive_6 := fun _ => Bool → XB) (motive_7 := fun _ => XO) (motive_8 := fun _ => Option XB) (motive_9 := fun _ => XI) (fun a0 => xLoc a0) (fun a0 => xC a0) (fun a0 => xC a0) (fun a0 a1 a2 d1 d2 => xBin (binV a0) d1 d2) (fun a0 a1 a2 d1 d2 => xBin (cmpV a0) d1 d2) (fun a0 a1 a2 a3 a4 d2 d3 d4 => xChn (cmpV a0) (cmpV a1) d2 d3 d4) (fun a0 a1 d1 => d1 a0) (fun a0 d0 => xNot d0) (fun a0 d0 => x1 negV d0) (fun a0 a1 a2 d0 d1 d2 => xIf d0 d1 d2) (fun a0 d0 => xA mkTup d0) (fun a0 d0 => xA mkLst d0) (fun a0 a1 d0 d1 => xBin ixV d0 d1) (fun a0 a1 a2 d0 d1 d2 => xSl d0 d1 d2) (fun a0 a1 d1 => xA (cl a0) d1) (fun a0 a1 d1 => xA a0.f d1) (fun a0 a1 d1 => x1 (isiV a0) d1) (fun a0 d0 => x1 lr1V d0) (fun a0 a1 d0 d1 => xBin lr2V d0 d1) (fun a0 a1 a2 d1 d2 => xMeth a0.ty a0.f d1 d2) (fun a0 a1 a2 a3 a4 d1 d3 d4 => xLc a0 d1 a2.den d3 d4) (fun a0 d0 => xDct d0) (fun a0 a1 a2 a3 a4 a5 a6 d0 d2 d3 d4 => xIf (xB (xBin (cmpV .Eq) (xBin ixV d0 (xC (.int a1))) d2)) d3 (x1 (replV a5 a6) d4)) (xPr0) (fun a0 a1 a2 d0 d1 d2 => xPrC d0 d1 d2) (xArg0) (fun a0 a1 d0 d1 => xArgC d0 d1) (fun a0 d0 => fun _ => d0) (fun a0 a1 d0 d1 => fun w => bopC w d0 (d1 w)) (fun a0 d0 => xTru d0) (fun a0 a1 a2 d1 d2 => xB (xBin (cmpV a0) d1 d2)) (fun a0 a1 a2 a3 a4 d2 d3 d4 => xB (xChn (cmpV a0) (cmpV a1) d2 d3 d4)) (fun a0 d0 => xNotT d0) (fun a0 a1 d1 => d1 a0) (fun a0 d0 => fun _ => d0) (fun a0 a1 d0 d1 => fun w => bopTC w d0 (d1 w)) (xPart Option.none) (fun a0 d0 => xPart (Option.some d0)) (Option.none) (fun a0 d0 => Option.some d0) (fun a0 d0 => xSrc d0) (fun a0 d0 => xI zipV d0) (fun a0 d0 => xI rng1V d0) (fun a0 d0 => xI rng2V d0) e
def P.den (cl : Cl) (e : P) : XP := P.rec (motive_1 := fun _ => X) (motive_2 := fun _ => XP) (motive_3 := fun _ => XS) (motive_4 := fun _ => Bool → X) (motive_5 := fun _ => XB) (motive_6 := fun _ => Bool → XB) (motive_7 := fun _ => XO) (motive_8 := fun _ => Option XB) (motive_9 := fun _ => XI) (fun a0 => xLoc a0) (fun a0 => xC a0) (fun a0 => xC a0) (fun a0 a1 a2 d1 d2 => xBin (binV a0) d1 d2) (fun a0 a1 a2 d1 d2 => xBin (cmpV a0) d1 d2) (fun a0 a1 a2 a3 a4 d2 d3 d4 => xChn (cmpV a0) (cmpV a1) d2 d3 d4) (fun a0 a1 d1 => d1 a0) (fun a0 d0 => xNot d0) (fun a0 d0 => x1 negV d0) (fun a0 a1 a2 d0 d1 d2 => xIf d0 d1 d2) (fun a0 d0 => xA mkTup d0) (fun a0 d0 => xA mkLst d0) (fun a0 a1 d0 d1 => xBin ixV d0 d1) (fun a0 a1 a2 d0 d1 d2 => xSl d0 d1 d2) (fun a0 a1 d1 => xA (cl a0) d1) (fun a0 a1 d1 => xA a0.f d1) (fun a0 a1 d1 => x1 (isiV a0) d1) (fun a0 d0 => x1 lr1V d0) (fun a0 a1 d0 d1 => xBin lr2V d0 d1) (fun a0 a1 a2 d1 d2 => xMeth a0.ty a0.f d1 d2) (fun a0 a1 a2 a3 a4 d1 d3 d4 => xLc a0 d1 a2.den d3 d4) (fun a0 d0 => xDct d0) (fun a0 a1 a2 a3 a4 a5 a6 d0 d2 d3 d4 => xIf (xB (xBin (cmpV .Eq) (xBin ixV d0 (xC (.int a1))) d2)) d3 (x1 (replV a5 a6) d4)) (xPr0) (fun a0 a1 a2 d0 d1 d2 => xPrC d0 d1 d2) (xArg0) (fun a0 a1 d0 d1 => xArgC d0 d1) (fun a0 d0 => fun _ => d0) (fun a0 a1 d0 d1 => fun w => bopC w d0 (d1 w)) (fun a0 d0 => xTru d0) (fun a0 a1 a2 d1 d2 => xB (xBin (cmpV a0) d1 d2)) (fun a0 a1 a2 a3 a4 d2 d3 d4 => xB (xChn (cmpV a0) (cmpV a1) d2 d3 d4)) (fun a0 d0 => xNotT d0) (fun a0 a1 d1 => d1 a0) (fun a0 d0 => fun _ => d0) (fun a0 a1 d0 d1 => fun w => bopTC w d0 (d1 w)) (xPart Option.none) (fun a0 d0 => xPart (Option.some d0)) (Option.none) (fun a0 d0 => Option.some d0) (fun a0 d0 => xSrc d0) (fun a0 d0 => xI zipV d0) (fun a0 d0 => xI rng1V d0) (fun a0 d0 => xI rng2V d0) e
def L.den (cl : Cl) (e : L) : XS := L.rec (motive_1 := fun _ => X) (motive_2 := fun _ => XP) (motive_3 := fun _ => XS) (motive_4 := fun _ => Bool → X) (motive_5 := fun _ => XB) (motive_6 := fun _ => Bool → XB) (motive_7 := fun _ => XO) (motive_8 := fun _ => Option XB) (motive_9 := fun _ => XI) (fun a0 => xLoc a0) (fun a0 => xC a0) (fun a0 => xC a0) (fun a0 a1 a2 d1 d2 => xBin (binV a0) d1 d2) (fun a0 a1 a2 d1 d2 => xBin (cmpV a0) d1 d2) (fun a0 a1 a2 a3 a4 d2 d3 d4 => xChn (cmpV a0) (cmpV a1) d2 d3 d4) (fun a0 a1 d1 => d1 a0) (fun a0 d0 => xNot d0) (fun a0 d0 => x1 negV d0) (fun a0 a1 a2 d0 d1 d2 => xIf d0 d1 d2) (fun a0 d0 => xA mkTup d0) (fun a0 d0 => xA mkLst d0) (fun a0 a1 d0 d1 => xBin ixV d0 d1) (fun a0 a1 a2 d0 d1 d2 => xSl d0 d1 d2) (fun a0 a1 d1 => xA (cl a0) d1) (fun a0 a1 d1 => xA a0.f d1) (fun a0 a1 d1 => x1 (isiV a0) d1) (fun a0 d0 => x1 lr1V d0) (fun a0 a1 d0 d1 => xBin lr2V d0 d1) (fun a0 a1 a2 d1 d2 => xMeth a0.ty a0.f d1 d2) (fun a0 a1 a2 a3 a4 d1 d3 d4 => xLc a0 d1 a2.den d3 d4) (fun a0 d0 => xDct d0) (fun a0 a1 a2 a3 a4 a5 a6 d0 d2 d3 d4 => xIf (xB (xBin (cmpV .Eq) (xBin ixV d0 (xC (.int a1))) d2)) d3 (x1 (replV a5 a6) d4)) (xPr0) (fun a0 a1 a2 d0 d1 d2 => xPrC d0 d1 d2) (xArg0) (fun a0 a1 d0 d1 => xArgC d0 d1) (fun a0 d0 => fun _ => d0) (fun a0 a1 d0 d1 => fun w => bopC w d0 (d1 w)) (fun a0 d0 => xTru d0) (fun a0 a1 a2 d1 d2 => xB (xBin (cmpV a0) d1 d2)) (fun a0 a1 a2 a3 a4 d2 d3 d4 => xB (xChn (cmpV a0) (cmpV a1) d2 d3 d4)) (fun a0 d0 => xNotT d0) (fun a0 a1 d1 => d1 a0) (fun a0 d0 => fun _ => d0) (fun a0 a1 d0 d1 => fun w => bopTC w d0 (d1 w)) (xPart Option.none) (fun a0 d0 => xPart (Option.some d0)) (Option.none) (fun a0 d0 => Option.some d0) (fun a0 d0 => xSrc d0) (fun a0 d0 => xI zipV d0) (fun a0 d0 => xI rng1V d0) (fun a0 d0 => xI rng2V d0) e
def B.den (cl : Cl) (e : B) : Bool → X := B.rec (motive_1 := fun _ => X) (motive_2 := fun _ => XP) (motive_3 := fun _ => XS) (motive_4 := fun _ => Bool → X) (motive_5 := fun _ => XB) (motive_6 := fun _ => Bool → XB) (motive_7 := fun _ => XO) (motive_8 := fun _ => Option XB) (motive_9 := fun _ => XI) (fun a0 => xLoc a0) (fun a0 => xC a0) (fun a0 => xC a0) (fun a0 a1 a2 d1 d2 => xBin (binV a0) d1 d2) (fun a0 a1 a2 d1 d2 => xBin (cmpV a0) d1 d2) (fun a0 a1 a2 a3 a4 d2 d3 d4 => xChn (cmpV a0) (cmpV a1) d2 d3 d4) (fun a0 a1 d1 => d1 a0) (fun a0 d0 => xNot d0) (fun a0 d0 => x1 negV d0) (fun a0 a1 a2 d0 d1 d2 => xIf d0 d1 d2) (fun a0 d0 => xA mkTup d0) (fun a0 d0 => xA mkLst d0) (fun a0 a1 d0 d1 => xBin ixV d0 d1) (fun a0 a1 a2 d0 d1 d2 => xSl d0 d1 d2) (fun a0 a1 d1 => xA (cl a0) d1) (fun a0 a1 d1 => xA a0.f d1) (fun a0 a1 d1 => x1 (isiV a0) d1) (fun a0 d0 => x1 lr1V d0) (fun a0 a1 d0 d1 => xBin lr2V d0 d1) (fun a0 a1 a2 d1 d2 => xMeth a0.ty a0.f d1 d2) (fun a0 a1 a2 a3 a4 d1 d3 d4 => xLc a0 d1 a2.den d3 d4) (fun a0 d0 => xDct d0) (fun a0 a1 a2 a3 a4 a5 a6 d0 d2 d3 d4 => xIf (xB (xBin (cmpV .Eq) (xBin ixV d0 (xC (.int a1))) d2)) d3 (x1 (replV a5 a6) d4)) (xPr0) (fun a0 a1 a2 d0 d1 d2 => xPrC d0 d1 d2) (xArg0) (fun a0 a1 d0 d1 => xArgC d0 d1) (fun a0 d0 => fun _ => d0) (fun a0 a1 d0 d1 => fun w => bopC w d0 (d1 w)) (fun a0 d0 => xTru d0) (fun a0 a1 a2 d1 d2 => xB (xBin (cmpV a0) d1 d2)) (fun a0 a1 a2 a3 a4 d2 d3 d4 => xB (xChn (cmpV a0) (cmpV a1) d2 d3 d4)) (fun a0 d0 => xNotT d0) (fun a0 a1 d1 => d1 a0) (fun a0 d0 => fun _ => d0) (fun a0 a1 d0 d1 => fun w => bopTC w d0 (d1 w)) (xPart Option.none) (fun a0 d0 => xPart (Option.some d0)) (Option.none) (fun a0 d0 => Option.some d0) (fun a0 d0 => xSrc d0) (fun a0 d0 => xI zipV d0) (fun a0 d0 => xI rng1V d0) (fun a0 d0 => xI rng2V d0) e
def T.den (cl : Cl) (e : T) : XB := T.rec (motive_1 := fun _ => X) (motive_2 := fun _ => XP) (motive_3 := fun _ => XS) (motive_4 := fun _ => Bool → X) (motive_5 := fun _ => XB) (motive_6 := fun _ => Bool → XB) (motive_7 := fun _ => XO) (motive_8 := fun _ => Option XB) (motive_9 := fun _ => XI) (fun a0 => xLoc a0) (fun a0 => xC a0) (fun a0 => xC a0) (fun a0 a1 a2 d1 d2 => xBin (binV a0) d1 d2) (fun a0 a1 a2 d1 d2 => xBin (cmpV a0) d1 d2) (fun a0 a1 a2 a3 a4 d2 d3 d4 => xChn (cmpV a0) (cmpV a1) d2 d3 d4) (fun a0 a1 d1 => d1 a0) (fun a0 d0 => xNot d0) (fun a0 d0 => x1 negV d0) (fun a0 a1 a2 d0 d1 d2 => xIf d0 d1 d2) (fun a0 d0 => xA mkTup d0) (fun a0 d0 => xA mkLst d0) (fun a0 a1 d0 d1 => xBin ixV d0 d1) (fun a0 a1 a2 d0 d1 d2 => xSl d0 d1 d2) (fun a0 a1 d1 => xA (cl a0) d1) (fun a0 a1 d1 => xA a0.f d1) (fun a0 a1 d1 => x1 (isiV a0) d1) (fun a0 d0 => x1 lr1V d0) (fun a0 a1 d0 d1 => xBin lr2V d0 d1) (fun a0 a1 a2 d1 d2 => xMeth a0.ty a0.f d1 d2) (fun a0 a1 a2 a3 a4 d1 d3 d4 => xLc a0 d1 a2.den d3 d4) (fun a0 d0 => xDct d0) (fun a0 a1 a2 a3 a4 a5 a6 d0 d2 d3 d4 => xIf (xB (xBin (cmpV .Eq) (xBin ixV d0 (xC (.int a1))) d2)) d3 (x1 (replV a5 a6) d4)) (xPr0) (fun a0 a1 a2 d0 d1 d2 => xPrC d0 d1 d2) (xArg0) (fun a0 a1 d0 d1 => xArgC d0 d1) (fun a0 d0 => fun _ => d0) (fun a0 a1 d0 d1 => fun w => bopC w d0 (d1 w)) (fun a0 d0 => xTru d0) (fun a0 a1 a2 d1 d2 => xB (xBin (cmpV a0) d1 d2)) (fun a0 a1 a2 a3 a4 d2 d3 d4 => xB (xChn (cmpV a0) (cmpV a1) d2 d3 d4)) (fun a0 d0 => xNotT d0) (fun a0 a1 d1 => d1 a0) (fun a0 d0 => fun _ => d0) (fun a0 a1 d0 d1 => fun w => bopTC w d0 (d1 w)) (xPart Option.none) (fun a0 d0 => xPart (Option.some d0)) (Option.none) (fun a0 d0 => Option.some d0) (fun a0 d0 => xSrc d0) (fun a0 d0 => xI zipV d0) (fun a0 d0 => xI rng1V d0) (fun a0 d0 => xI rng2V d0) e
def BT.den (cl : Cl) (e : BT) : Bool → XB := BT.rec (motive_1 := fun _ => X) (motive_2 := fun _ => XP) (motive_3 := fun _ => XS) (motive_4 := fun _ => Bool → X) (motive_5 := fun _ => XB) (motive_6 := fun _ => Bool → XB) (motive_7 := fun _ => XO) (motive_8 := fun _ => Option XB) (motive_9 := fun _ => XI) (fun a0 => xLoc a0) (fun a0 => xC a0) (fun a0 => xC a0) (fun a0 a1 a2 d1 d2 => xBin (binV a0) d1 d2) (fun a0 a1 a2 d1 d2 => xBin (cmpV a0) d1 d2) (fun a0 a1 a2 a3 a4 d2 d3 d4 => xChn (cmpV a0) (cmpV a1) d2 d3 d4) (fun a0 a1 d1 => d1 a0) (fun a0 d0 => xNot d0) (fun a0 d0 => x1 negV d0) (fun a0 a1 a2 d0 d1 d2 => xIf d0 d1 d2) (fun a0 d0 => xA mkTup d0) (fun a0 d0 => xA mkLst d0) (fun a0 a1 d0 d1 => xBin ixV d0 d1) (fun a0 a1 a2 d0 d1 d2 => xSl d0 d1 d2) (fun a0 a1 d1 => xA (cl a0) d1) (fun a0 a1 d1 => xA a0.f d1) (fun a0 a1 d1 => x1 (isiV a0) d1) (fun a0 d0 => x1 lr1V d0) (fun a0 a1 d0 d1 => xBin lr2V d0 d1) (fun a0 a1 a2 d1 d2 => xMeth a0.ty a0.f d1 d2) (fun a0 a1 a2 a3 a4 d1 d3 d4 => xLc a0 d1 a2.den d3 d4) (fun a0 d0 => xDct d0) (fun a0 a1 a2 a3 a4 a5 a6 d0 d2 d3 d4 => xIf (xB (xBin (cmpV .Eq) (xBin ixV d0 (xC (.int a1))) d2)) d3 (x1 (replV a5 a6) d4)) (xPr0) (fun a0 a1 a2 d0 d1 d2 => xPrC d0 d1 d2) (xArg0) (fun a0 a1 d0 d1 => xArgC d0 d1) (fun a0 d0 => fun _ => d0) (fun a0 a1 d0 d1 => fun w => bopC w d0 (d1 w)) (fun a0 d0 => xTru d0) (fun a0 a1 a2 d1 d2 => xB (xBin (cmpV a0) d1 d2)) (fun a0 a1 a2 a3 a4 d2 d3 d4 => xB (xChn (cmpV a0) (cmpV a1) d2 d3 d4)) (fun a0 d0 => xNotT d0) (fun a0 a1 d1 => d1 a0) (fun a0 d0 => fun _ => d0) (fun a0 a1 d0 d1 => fun w => bopTC w d0 (d1 w)) (xPart Option.none) (fun a0 d0 => xPart (Option.some d0)) (Option.none) (fun a0 d0 => Option.some d0) (fun a0 d0 => xSrc d0) (fun a0 d0 => xI zipV d0) (fun a0 d0 => xI rng1V d0) (fun a0 d0 => xI rng2V d0) e
def O.den (cl : Cl) (e : O) : XO := O.rec (motive_1 := fun _ => X) (motive_2 := fun _ => XP) (motive_3 := fun _ => XS) (motive_4 := fun _ => Bool → X) (motive_5 := fun _ => XB) (motive_6 := fun _ => Bool → XB) (motive_7 := fun _ => XO) (motive_8 := fun _ => Option XB) (motive_9 := fun _ => XI) (fun a0 => xLoc a0) (fun a0 => xC a0) (fun a0 => xC a0) (fun a0 a1 a2 d1 d2 => xBin (binV a0) d1 d2) (fun a0 a1 a2 d1 d2 => xBin (cmpV a0) d1 d2) (fun a0 a1 a2 a3 a4 d2 d3 d4 => xChn (cmpV a0) (cmpV a1) d2 d3 d4) (fun a0 a1 d1 => d1 a0) (fun a0 d0 => xNot d0) (fun a0 d0 => x1 negV d0) (fun a0 a1 a2 d0 d1 d2 => xIf d0 d1 d2) (fun a0 d0 => xA mkTup d0) (fun a0 d0 => xA mkLst d0) (fun a0 a1 d0 d1 => xBin ixV d0 d1) (fun a0 a1 a2 d0 d1 d2 => xSl d0 d1 d2) (fun a0 a1 d1 => xA (cl a0) d1) (fun a0 a1 d1 => xA a0.f d1) (fun a0 a1 d1 => x1 (isiV a0) d1) (fun a0 d0 => x1 lr1V d0) (fun a0 a1 d0 d1 => xBin lr2V d0 d1) (fun a0 a1 a2 d1 d2 => xMeth a0.ty a0.f d1 d2) (fun a0 a1 a2 a3 a4 d1 d3 d4 => xLc a0 d1 a2.den d3 d4) (fun a0 d0 => xDct d0) (fun a0 a1 a2 a3 a4 a5 a6 d0 d2 d3 d4 => xIf (xB (xBin (cmpV .Eq) (xBin ixV d0 (xC (.int a1))) d2)) d3 (x1 (replV a5 a6) d4)) (xPr0) (fun a0 a1 a2 d0 d1 d2 => xPrC d0 d1 d2) (xArg0) (fun a0 a1 d0 d1 => xArgC d0 d1) (fun a0 d0 => fun _ => d0) (fun a0 a1 d0 d1 => fun w => bopC w d0 (d1 w)) (fun a0 d0 => xTru d0) (fun a0 a1 a2 d1 d2 => xB (xBin (cmpV a0) d1 d2)) (fun a0 a1 a2 a3 a4 d2 d3 d4 => xB (xChn (cmpV a0) (cmpV a1) d2 d3 d4)) (fun a0 d0 => xNotT d0) (fun a0 a1 d1 => d1 a0) (fun a0 d0 => fun _ => d0) (fun a0 a1 d0 d1 => fun w => bopTC w d0 (d1 w)) (xPart Option.none) (fun a0 d0 => xPart (Option.some d0)) (Option.none) (fun a0 d0 => Option.some d0) (fun a0 d0 => xSrc d0) (fun a0 d0 => xI zipV d0) (fun a0 d0 => xI rng1V d0) (fun a0 d0 => xI rng2V d0) e
def OT.den (cl : Cl) (e : OT) : Option XB := OT.rec (motive_1 := fun _ => X) (motive_2 := fun _ => XP) (motive_3 := fun _ => XS) (motive_4 := fun _ => Bool → X) (motive_5 := fun _ => XB) (motive_6 := fun _ => Bool → XB) (motive_7 := fun _ => XO) (motive_8 := fun _ => Option XB) (motive_9 := fun _ => XI) (fun a0 => xLoc a0) (fun a0 => xC a0) (fun a0 => xC a0) (fun a0 a1 a2 d1 d2 => xBin (binV a0) d1 d2) (fun a0 a1 a2 d1 d2 => xBin (cmpV a0) d1 d2) (fun a0 a1 a2 a3 a4 d2 d3 d4 => xChn (cmpV a0) (cmpV a1) d2 d3 d4) (fun a0 a1 d1 => d1 a0) (fun a0 d0 => xNot d0) (fun a0 d0 => x1 negV d0) (fun a0 a1 a2 d0 d1 d2 => xIf d0 d1 d2) (fun a0 d0 => xA mkTup d0) (fun a0 d0 => xA mkLst d0) (fun a0 a1 d0 d1 => xBin ixV d0 d1) (fun a0 a1 a2 d0 d1 d2 => xSl d0 d1 d2) (fun a0 a1 d1 => xA (cl a0) d1) (fun a0 a1 d1 => xA a0.f d1) (fun a0 a1 d1 => x1 (isiV a0) d1) (fun a0 d0 => x1 lr1V d0) (fun a0 a1 d0 d1 => xBin lr2V d0 d1) (fun a0 a1 a2 d1 d2 => xMeth a0.ty a0.f d1 d2) (fun a0 a1 a2 a3 a4 d1 d3 d4 => xLc a0 d1 a2.den d3 d4) (fun a0 d0 => xDct d0) (fun a0 a1 a2 a3 a4 a5 a6 d0 d2 d3 d4 => xIf (xB (xBin (cmpV .Eq) (xBin ixV d0 (xC (.int a1))) d2)) d3 (x1 (replV a5 a6) d4)) (xPr0) (fun a0 a1 a2 d0 d1 d2 => xPrC d0 d1 d2) (xArg0) (fun a0 a1 d0 d1 => xArgC d0 d1) (fun a0 d0 => fun _ => d0) (fun a0 a1 d0 d1 => fun w => bopC w d0 (d1 w)) (fun a0 d0 => xTru d0) (fun a0 a1 a2 d1 d2 => xB (xBin (cmpV a0) d1 d2)) (fun a0 a1 a2 a3 a4 d2 d3 d4 => xB (xChn (cmpV a0) (cmpV a1) d2 d3 d4)) (fun a0 d0 => xNotT d0) (fun a0 a1 d1 => d1 a0) (fun a0 d0 => fun _ => d0) (fun a0 a1 d0 d1 => fun w => bopTC w d0 (d1 w)) (xPart Option.none) (fun a0 d0 => xPart (Option.some d0)) (Option.none) (fun a0 d0 => Option.some d0) (fun a0 d0 => xSrc d0) (fun a0 d0 => xI zipV d0) (fun a0 d0 => xI rng1V d0) (fun a0 d0 => xI rng2V d0) e
def I.den (cl : Cl) (e : I) : XI := I.rec (motive_1 := fun _ => X) (motive_2 := fun _ => XP) (motive_3 := fun _ => XS) (motive_4 := fun _ => Bool → X) (motive_5 := fun _ => XB) (motive_6 := fun _ => Bool → XB) (motive_7 := fun _ => XO) (motive_8 := fun _ => Option XB) (motive_9 := fun _ => XI) (fun a0 => xLoc a0) (fun a0 => xC a0) (fun a0 => xC a0) (fun a0 a1 a2 d1 d2 => xBin (binV a0) d1 d2) (fun a0 a1 a2 d1 d2 => xBin (cmpV a0) d1 d2) (fun a0 a1 a2 a3 a4 d2 d3 d4 => xChn (cmpV a0) (cmpV a1) d2 d3 d4) (fun a0 a1 d1 => d1 a0) (fun a0 d0 => xNot d0) (fun a0 d0 => x1 negV d0) (fun a0 a1 a2 d0 d1 d2 => xIf d0 d1 d2) (fun a0 d0 => xA mkTup d0) (fun a0 d0 => xA mkLst d0) (fun a0 a1 d0 d1 => xBin ixV d0 d1) (fun a0 a1 a2 d0 d1 d2 => xSl d0 d1 d2) (fun a0 a1 d1 => xA (cl a0) d1) (fun a0 a1 d1 => xA a0.f d1) (fun a0 a1 d1 => x1 (isiV a0) d1) (fun a0 d0 => x1 lr1V d0) (fun a0 a1 d0 d1 => xBin lr2V d0 d1) (fun a0 a1 a2 d1 d2 => xMeth a0.ty a0.f d1 d2) (fun a0 a1 a2 a3 a4 d1 d3 d4 => xLc a0 d1 a2.den d3 d4) (fun a0 d0 => xDct d0) (fun a0 a1 a2 a3 a4 a5 a6 d0 d2 d3 d4 => xIf (xB (xBin (cmpV .Eq) (xBin ixV d0 (xC (.int a1))) d2)) d3 (x1 (replV a5 a6) d4)) (xPr0) (fun a0 a1 a2 d0 d1 d2 => xPrC d0 d1 d2) (xArg0) (fun a0 a1 d0 d1 => xArgC d0 d1) (fun a0 d0 => fun _ => d0) (fun a0 a1 d0 d1 => fun w => bopC w d0 (d1 w)) (fun a0 d0 => xTru d0) (fun a0 a1 a2 d1 d2 => xB (xBin (cmpV a0) d1 d2)) (fun a0 a1 a2 a3 a4 d2 d3 d4 => xB (xChn (cmpV a0) (cmpV a1) d2 d3 d4)) (fun a0 d0 => xNotT d0) (fun a0 a1 d1 => d1 a0) (fun a0 d0 => fun _ => d0) (fun a0 a1 d0 d1 => fun w => bopTC w d0 (d1 w)) (xPart Option.none) (fun a0 d0 => xPart (Option.some d0)) (Option.none) (fun a0 d0 => Option.some d0) (fun a0 d0 => xSrc d0) (fun a0 d0 => xI zipV d0) (fun a0 d0 => xI rng1V d0) (fun a0 d0 => xI rng2V d0) e
theorem E.den_loc {cl : Cl} {a0 : Nat} : (E.loc a0 : E).den cl = xLoc a0 := rfl
theorem E.den_c {cl : Cl} {a0 : MV} : (E.c a0 : E).den cl = xC a0 := rfl
theorem E.den_gc {cl : Cl} {a0 : MV} : (E.gc a0 : E).den cl = xC a0 := rfl
theorem E.den_bin {cl : Cl} {a0 : Operator} {a1 : E} {a2 : E} : (E.bin a0 a1 a2 : E).den cl = xBin (binV a0) (a1.den cl) (a2.den cl) := rfl
theorem E.den_cmp {cl : Cl} {a0 : CmpOp} {a1 : E} {a2 : E} : (E.cmp a0 a1 a2 : E).den cl = xBin (cmpV a0) (a1.den cl) (a2.den cl) := rfl
theorem E.den_chn {cl : Cl} {a0 : CmpOp} {a1 : CmpOp} {a2 : E} {a3 : E} {a4 : E} : (E.chn a0 a1 a2 a3 a4 : E).den cl = xChn (cmpV a0) (cmpV a1) (a2.den cl) (a3.den cl) (a4.den cl) := rfl
theorem E.den_bop {cl : Cl} {a0 : Bool} {a1 : B} : (E.bop a0 a1 : E).den cl = (a1.den cl) a0 := rfl
theorem E.den_nt {cl : Cl} {a0 : E} : (E.nt a0 : E).den cl = xNot (a0.den cl) := rfl
theorem E.den_neg {cl : Cl} {a0 : E} : (E.neg a0 : E).den cl = x1 negV (a0.den cl) := rfl
theorem E.den_ife {cl : Cl} {a0 : T} {a1 : E} {a2 : E} : (E.ife a0 a1 a2 : E).den cl = xIf (a0.den cl) (a1.den cl) (a2.den cl) := rfl
theorem E.den_tup {cl : Cl} {a0 : L} : (E.tup a0 : E).den cl = xA mkTup (a0.den cl) := rfl
theorem E.den_lst {cl : Cl} {a0 : L} : (E.lst a0 : E).den cl = xA mkLst (a0.den cl) := rfl
theorem E.den_ix {cl : Cl} {a0 : E} {a1 : E} : (E.ix a0 a1 : E).den cl = xBin ixV (a0.den cl) (a1.den cl) := rfl
theorem E.den_sl {cl : Cl} {a0 : E} {a1 : O} {a2 : O} : (E.sl a0 a1 a2 : E).den cl = xSl (a0.den cl) (a1.den cl) (a2.den cl) := rfl
theorem E.den_call {cl : Cl} {a0 : Nat} {a1 : L} : (E.call a0 a1 : E).den cl = xA (cl a0) (a1.den cl) := rfl
theorem E.den_blt {cl : Cl} {a0 : Bf} {a1 : L} : (E.blt a0 a1 : E).den cl = xA a0.f (a1.den cl) := rfl
theorem E.den_isi {cl : Cl} {a0 : Ty} {a1 : E} : (E.isi a0 a1 : E).den cl = x1 (isiV a0) (a1.den cl) := rfl
theorem E.den_lr1 {cl : Cl} {a0 : E} : (E.lr1 a0 : E).den cl = x1 lr1V (a0.den cl) := rfl
theorem E.den_lr2 {cl : Cl} {a0 : E} {a1 : E} : (E.lr2 a0 a1 : E).den cl = xBin lr2V (a0.den cl) (a1.den cl) := rfl
theorem E.den_mth {cl : Cl} {a0 : Mt} {a1 : E} {a2 : L} : (E.mth a0 a1 a2 : E).den cl = xMeth a0.ty a0.f (a1.den cl) (a2.den cl) := rfl
theorem E.den_lc {cl : Cl} {a0 : List Nat} {a1 : I} {a2 : Tg} {a3 : OT} {a4 : E} : (E.lc a0 a1 a2 a3 a4 : E).den cl = xLc a0 (a1.den cl) a2.den (a3.den cl) (a4.den cl) := rfl
theorem E.den_dct {cl : Cl} {a0 : P} : (E.dct a0 : E).den cl = xDct (a0.den cl) := rfl
theorem E.den_ifr {cl : Cl} {a0 : E} {a1 : Int} {a2 : E} {a3 : E} {a4 : E} {a5 : Nat} {a6 : List Nat} : (E.ifr a0 a1 a2 a3 a4 a5 a6 : E).den cl = xIf (xB (xBin (cmpV .Eq) (xBin ixV (a0.den cl) (xC (.int a1))) (a2.den cl))) (a3.den cl) (x1 (replV a5 a6) (a4.den cl)) := rfl
theorem P.den_nil {cl : Cl} : (P.nil : P).den cl = xPr0 := rfl
theorem P.den_cons {cl : Cl} {a0 : E} {a1 : E} {a2 : P} : (P.cons a0 a1 a2 : P).den cl = xPrC (a0.den cl) (a1.den cl) (a2.den cl) := rfl
theorem L.den_nil {cl : Cl} : (L.nil : L).den cl = xArg0 := rfl
theorem L.den_cons {cl : Cl} {a0 : E} {a1 : L} : (L.cons a0 a1 : L).den cl = xArgC (a0.den cl) (a1.den cl) := rfl
theorem B.den_one {cl : Cl} {a0 : E} : (B.one a0 : B).den cl = fun _ => (a0.den cl) := rfl
theorem B.den_cons {cl : Cl} {a0 : E} {a1 : B} : (B.cons a0 a1 : B).den cl = fun w => bopC w (a0.den cl) ((a1.den cl) w) := rfl
theorem T.den_tru {cl : Cl} {a0 : E} : (T.tru a0 : T).den cl = xTru (a0.den cl) := rfl
theorem T.den_cmp {cl : Cl} {a0 : CmpOp} {a1 : E} {a2 : E} : (T.cmp a0 a1 a2 : T).den cl = xB (xBin (cmpV a0) (a1.den cl) (a2.den cl)) := rfl
theorem T.den_chn {cl : Cl} {a0 : CmpOp} {a1 : CmpOp} {a2 : E} {a3 : E} {a4 : E} : (T.chn a0 a1 a2 a3 a4 : T).den cl = xB (xChn (cmpV a0) (cmpV a1) (a2.den cl) (a3.den cl) (a4.den cl)) := rfl
theorem T.den_nt {cl : Cl} {a0 : T} : (T.nt a0 : T).den cl = xNotT (a0.den cl) := rfl
theorem T.den_bop {cl : Cl} {a0 : Bool} {a1 : BT} : (T.bop a0 a1 : T).den cl = (a1.den cl) a0 := rfl
theorem BT.den_one {cl : Cl} {a0 : T} : (BT.one a0 : BT).den cl = fun _ => (a0.den cl) := rfl
theorem BT.den_cons {cl : Cl} {a0 : T} {a1 : BT} : (BT.cons a0 a1 : BT).den cl = fun w => bopTC w (a0.den cl) ((a1.den cl) w) := rfl
theorem O.den_no {cl : Cl} : (O.no : O).den cl = xPart Option.none := rfl
theorem O.den_on {cl : Cl} {a0 : E} : (O.on a0 : O).den cl = xPart (Option.some (a0.den cl)) := rfl
theorem OT.den_no {cl : Cl} : (OT.no : OT).den cl = Option.none := rfl
theorem OT.den_on {cl : Cl} {a0 : T} : (OT.on a0 : OT).den cl = Option.some (a0.den cl) := rfl
theorem I.den_src {cl : Cl} {a0 : E} : (I.src a0 : I).den cl = xSrc (a0.den cl) := rfl
theorem I.den_zip {cl : Cl} {a0 : L} : (I.zip a0 : I).den cl = xI zipV (a0.den cl) := rfl
theorem I.den_rg1 {cl : Cl} {a0 : L} : (I.rg1 a0 : I).den cl = xI rng1V (a0.den cl) := rfl
theorem I.den_rg2 {cl : Cl} {a0 : L} : (I.rg2 a0 : I).den cl = xI rng2V (a0.den cl) := rfl
mutual
inductive S where
  | set (a0 : E) (a1 : Tg)
  | ret (a0 : E)
  | retN
  | run (a0 : E)
  | pass
  | brk
  | cnt
  | bad
  | ifs (a0 : T) (a1 : Ss) (a2 : Ss)
  | whl (a0 : T) (a1 : Ss)
  | fr (a0 : I) (a1 : Tg) (a2 : Ss)
  | aug (a0 : Nat) (a1 : Operator) (a2 : E)
  | put (a0 : E) (a1 : E) (a2 : E)
inductive Ss where
  | nil
  | one (a0 : S)
  | cons (a0 : S) (a1 : Ss)
end
def S.den (cl : Cl) (e : S) : XZ := S.rec (motive_1 := fun _ => XZ) (motive_2 := fun _ => XZ) (fun a0 a1 => xSet (a0.den cl) a1.den) (fun a0 => xRet (a0.den cl)) (xRetN) (fun a0 => xDo (a0.den cl)) (xPass) (xBrk) (xCnt) (xBadZ) (fun a0 a1 a2 d1 d2 => xIfS (a0.den cl) d1 d2) (fun a0 a1 d1 => xWhile (a0.den cl) d1) (fun a0 a1 a2 d2 => xFor (a0.den cl) a1.den d2) (fun a0 a1 a2 => xAug a0 a1 (a2.den cl)) (fun a0 a1 a2 => xPut (a0.den cl) (a1.den cl) (a2.den cl)) (xPass) (fun a0 d0 => d0) (fun a0 a1 d0 d1 => xSeq d0 d1) e
def Ss.den (cl : Cl) (e : Ss) : XZ := Ss.rec (motive_1 := fun _ => XZ) (motive_2 := fun _ => XZ) (fun a0 a1 => xSet (a0.den cl) a1.den) (fun a0 => xRet (a0.den cl)) (xRetN) (fun a0 => xDo (a0.den cl)) (xPass) (xBrk) (xCnt) (xBadZ) (fun a0 a1 a2 d1 d2 => xIfS (a0.den cl) d1 d2) (fun a0 a1 d1 => xWhile (a0.den cl) d1) (fun a0 a1 a2 d2 => xFor (a0.den cl) a1.den d2) (fun a0 a1 a2 => xAug a0 a1 (a2.den cl)) (fun a0 a1 a2 => xPut (a0.den cl) (a1.den cl) (a2.den cl)) (xPass) (fun a0 d0 => d0) (fun a0 a1 d0 d1 => xSeq d0 d1) e
theorem S.den_set {cl : Cl} {a0 : E} {a1 : Tg} : (S.set a0 a1 : S).den cl = xSet (a0.den cl) a1.den := rfl
theorem S.den_ret {cl : Cl} {a0 : E} : (S.ret a0 : S).den cl = xRet (a0.den cl) := rfl
theorem S.den_retN {cl : Cl} : (S.retN : S).den cl = xRetN := rfl
theorem S.den_run {cl : Cl} {a0 : E} : (S.run a0 : S).den cl = xDo (a0.den cl) := rfl
theorem S.den_pass {cl : Cl} : (S.pass : S).den cl = xPass := rfl
theorem S.den_brk {cl : Cl} : (S.brk : S).den cl = xBrk := rfl
theorem S.den_cnt {cl : Cl} : (S.cnt : S).den cl = xCnt := rfl
theorem S.den_bad {cl : Cl} : (S.bad : S).den cl = xBadZ := rfl
theorem S.den_ifs {cl : Cl} {a0 : T} {a1 : Ss} {a2 : Ss} : (S.ifs a0 a1 a2 : S).den cl = xIfS (a0.den cl) (a1.den cl) (a2.den cl) := rfl
theorem S.den_whl {cl : Cl} {a0 : T} {a1 : Ss} : (S.whl a0 a1 : S).den cl = xWhile (a0.den cl) (a1.den cl) := rfl
theorem S.den_fr {cl : Cl} {a0 : I} {a1 : Tg} {a2 : Ss} : (S.fr a0 a1 a2 : S).den cl = xFor (a0.den cl) a1.den (a2.den cl) := rfl
theorem S.den_aug {cl : Cl} {a0 : Nat} {a1 : Operator} {a2 : E} : (S.aug a0 a1 a2 : S).den cl = xAug a0 a1 (a2.den cl) := rfl
theorem S.den_put {cl : Cl} {a0 : E} {a1 : E} {a2 : E} : (S.put a0 a1 a2 : S).den cl = xPut (a0.den cl) (a1.den cl) (a2.den cl) := rfl
theorem Ss.den_nil {cl : Cl} : (Ss.nil : Ss).den cl = xPass := rfl
theorem Ss.den_one {cl : Cl} {a0 : S} : (Ss.one a0 : Ss).den cl = (a0.den cl) := rfl
theorem Ss.den_cons {cl : Cl} {a0 : S} {a1 : Ss} : (Ss.cons a0 a1 : Ss).den cl = xSeq (a0.den cl) (a1.den cl) := rfl
end
end Dv
/-! Dv18: a text of the evaluator beside one of the program; it does what the program does. -/
namespace Dv
noncomputable section
open PySem L2 PyProof.Rows
/-- the text's functions (name, number of parameters), constants, the built-in names that it leaves free -/
structure Tb where
  fns : List (Str × Nat)
  gv : List (Str × MV)
  fr : List Str
/-! ### the looks -/
def visB (sc : Scope) (x : Str) : Bool := match sc.names.lookup x with
  | some .local => true
  | some .cell => true
  | some .free => true
  | _ => false
def glB (sc : Scope) (x : Str) : Bool := match sc.names.lookup x with
  | some .globalImplicit => true
  | _ => false
def fnB (raw : Option Scope) (x : Str) : Bool := match raw with
  | none => true
  | some s => match s.names.lookup x with
    | some .cell => true
    | _ => false
def tgB (sc : Scope) (raw : Option Scope) (x : Str) : Bool := match sc.names.lookup x with
  | some .local => true
  | some .cell => fnB raw x
  | _ => false
def okD (x : Str) : Bool := !(x == ("__debug__" : Str))
def okC (x : Str) : Bool := !(x == ("__classdict__" : Str))
def atB (N : List Str) (i : Nat) (x : Str) : Bool := match N[i]? with
  | some y => y == x
  | none => false
def constB : Const → MV → Bool
  | .int i, .int j => i == j
  | .bool a, .bl b => a == b
  | .none, .non => true
  | .str s, .str t => s.cps.toList == t
  | _, _ => false
def gvB : List (Str × MV) → Str → MV → Bool
  | [], _, _ => false
  | (y, v) :: r, x, u => (y == x && MV.eqb v u) || gvB r x u
def fnsB (tb : Tb) (g : Nat) (x : Str) : Bool := match tb.fns[g]? with
  | some (y, _) => y == x && !(x == ("" : Str))
  | none => false
def frB (tb : Tb) (sc : Scope) (x : Str) : Bool := glB sc x && tb.fr.any fun y => y == x
def notSet : Expr → Bool
  | .Set _ _ _ => false
  | _ => true
def isTup : Expr → Bool
  | .Tuple _ _ _ => true
  | _ => false
def Bf.nm : Bf → Str
  | .len => "len"
  | .all => "all"
  | .any => "any"
  | .int => "int"
  | .repr => "repr"
  | .max => "max"
  | .min => "min"
  | .abs => "abs"
  | .list => "list"
  | .tuple => "tuple"
def Mt.nm : Mt → Str
  | .app => "append"
  | .ext => "extend"
  | .rmp => "removeprefix"
  | .join => "join"
  | .get => "get"
def Ty.nmd : Ty → Bool
  | .non => false
  | _ => true
def Ty.sn (t : Ty) : Str := t.nm
mutual
def Tg.sl : Tg → List Nat
  | .nm i => [i]
  | .tp ts => ts.sl
def Tgs.sl : Tgs → List Nat
  | .nil => []
  | .cons t r => t.sl ++ r.sl
end
mutual
def Tg.chk (N : List Str) (sc : Scope) (raw : Option Scope) : Tg → Expr → Bool
  | .nm i, x => match x with
    | .Name id _ => atB N i id && tgB sc raw id
    | _ => false
  | .tp ts, x => match x with
    | .Tuple es _ _ => es.all notStar && ts.chk N sc raw es
    | _ => false
def Tgs.chk (N : List Str) (sc : Scope) (raw : Option Scope) : Tgs → List Expr → Bool
  | .nil, es => match es with
    | [] => true
    | _ => false
  | .cons t r, es => match es with
    | e :: es => t.chk N sc raw e && notStar e && r.chk N sc raw es
    | [] => false
end
mutual
def E.chk (tb : Tb) (N : List Str) (sc : Scope) (raw : Option Scope) : E → Expr → Bool
  | .loc i, x => match x with
    | .Name id _ => atB N i id && visB sc id && okD id && okC id
    | _ => false
  | .c v, x => match x with
    | .Constant k _ _ => constB k v
    | _ => false
  | .gc v, x => match x with
    | .Name id _ => glB sc id && okD id && gvB tb.gv id v
    | _ => false
  | .bin op a b, x => match x with
    | .BinOp l o r _ => decide (o = op) && a.chk tb N sc raw l && b.chk tb N sc raw r
    | _ => false
  | .cmp op a b, x => match x with
    | .Compare l [o] [r] _ => decide (o = op) && a.chk tb N sc raw l && b.chk tb N sc raw r && !behindInMarks op r
    | _ => false
  | .chn op op2 a b c, x => match x with
    | .Compare l [o, o2] [r, t] _ => decide (o = op) && decide (o2 = op2) && a.chk tb N sc raw l && b.chk tb N sc raw r && c.chk tb N sc raw t && !lastMarks [op, op2] [r, t]
    | _ => false
  | .bop w l, x => match x with
    | .BoolOp o es _ => decide (o = if w then .And else .Or) && l.chk tb N sc raw es
    | _ => false
  | .nt a, x => match x with
    | .UnaryOp .Not v _ => a.chk tb N sc raw v
    | _ => false
  | .neg a, x => match x with
    | .UnaryOp .USub v _ => a.chk tb N sc raw v
    | _ => false
  | .ife t a b, x => match x with
    | .IfExp c u v _ => t.chk tb N sc raw c && a.chk tb N sc raw u && b.chk tb N sc raw v
    | _ => false
  | .tup l, x => match x with
    | .Tuple es _ _ => l.chk tb N sc raw es
    | _ => false
  | .lst l, x => match x with
    | .List es _ => l.chk tb N sc raw es
    | _ => false
  | .ix a b, x => match x with
    | .Subscript v s _ => a.chk tb N sc raw v && b.chk tb N sc raw s && notSlice s
    | _ => false
  | .sl a lo hi, x => match x with
    | .Subscript v (.Slice l u none _) _ => a.chk tb N sc raw v && lo.chk tb N sc raw l && hi.chk tb N sc raw u
    | _ => false
  | .call g l, x => match x with
    | .Call (.Name id _) es [] _ => glB sc id && okD id && fnsB tb g id && l.chk tb N sc raw es
    | _ => false
  | .blt b l, x => match x with
    | .Call (.Name id _) es [] _ => (id == b.nm) && frB tb sc id && !es.isEmpty && l.chk tb N sc raw es
    | _ => false
  | .isi t a, x => match x with
    | .Call (.Name id _) [e, .Name ty _] [] _ => (id == ("isinstance" : Str)) && frB tb sc id && t.nmd && (ty == t.sn) && frB tb sc ty && notStar e && a.chk tb N sc raw e
    | _ => false
  | .lr1 a, x => match x with
    | .Call (.Name id _) [.Call (.Name id2 _) [e] [] _] [] _ => (id == ("list" : Str)) && frB tb sc id && (id2 == ("range" : Str)) && frB tb sc id2 && a.chk tb N sc raw e && notStar e
    | _ => false
  | .lr2 a b, x => match x with
    | .Call (.Name id _) [.Call (.Name id2 _) [e, e2] [] _] [] _ => (id == ("list" : Str)) && frB tb sc id && (id2 == ("range" : Str)) && frB tb sc id2 && a.chk tb N sc raw e && notStar e && b.chk tb N sc raw e2 && notStar e2
    | _ => false
  | .mth k a l, x => match x with
    | .Call (.Attribute o n ap) es [] cp => (n == k.nm) && a.chk tb N sc raw o && notCall0 o && (ap.endLine == cp.line) && decide (es.length < 30) && l.chk tb N sc raw es
    | _ => false
  | .lc vs i t o e, x => match x with
    | .ListComp elt [⟨tg, it, ifs, asy⟩] scope _ => (asy == 0) && blkB N sc scope vs && i.chk tb N sc raw tg it && notSet it && t.chk N (inS scope sc) (some scope) tg && t.sl.all (fun j => vs.any fun k => k == j) &&
      o.chk tb N (inS scope sc) (some scope) ifs && e.chk tb N (inS scope sc) (some scope) elt
    | _ => false
  | .dct p, x => match x with
    | .Dict ks vs _ => Nat.ble ks.length 15 && p.chk tb N sc raw ks vs
    | _ => false
  | .ifr a i b u o c d, x => match x with
    | .IfExp (.Compare (.Subscript l (.Constant (.int j) _ _) _) [.Eq] [r] _) v (.Call (.Attribute q n ap) [.Constant (.str y) _ _, .Constant (.str z) _ _] [] cp) _ =>
      decide (j = i) && a.chk tb N sc raw l && b.chk tb N sc raw r && u.chk tb N sc raw v && o.chk tb N sc raw q && (n == ("replace" : Str)) && !behindInMarks .Eq r && notCall0 q && (ap.endLine == cp.line) && oneB y c && (z.cps.toList == d) && !(d == [c])
    | _ => false
def P.chk (tb : Tb) (N : List Str) (sc : Scope) (raw : Option Scope) : P → List (Option Expr) → List Expr → Bool
  | .nil, ks, vs => match ks, vs with
    | [], [] => true
    | _, _ => false
  | .cons a b r, ks, vs => match ks, vs with
    | some k :: ks, v :: vs => a.chk tb N sc raw k && b.chk tb N sc raw v && r.chk tb N sc raw ks vs
    | _, _ => false
def L.chk (tb : Tb) (N : List Str) (sc : Scope) (raw : Option Scope) : L → List Expr → Bool
  | .nil, es => match es with
    | [] => true
    | _ => false
  | .cons a r, es => match es with
    | e :: es => a.chk tb N sc raw e && notStar e && r.chk tb N sc raw es
    | [] => false
def B.chk (tb : Tb) (N : List Str) (sc : Scope) (raw : Option Scope) : B → List Expr → Bool
  | .one a, es => match es with
    | [e] => a.chk tb N sc raw e
    | _ => false
  | .cons a r, es => match es with
    | e :: e2 :: es => a.chk tb N sc raw e && r.chk tb N sc raw (e2 :: es)
    | _ => false
def T.chk (tb : Tb) (N : List Str) (sc : Scope) (raw : Option Scope) : T → Expr → Bool
  | .tru a, x => plainT x && a.chk tb N sc raw x
  | .cmp op a b, x => match x with
    | .Compare l [o] [r] _ => decide (o = op) && a.chk tb N sc raw l && b.chk tb N sc raw r && !behindInMarks op r
    | _ => false
  | .chn op op2 a b c, x => match x with
    | .Compare l [o, o2] [r, t] _ => decide (o = op) && decide (o2 = op2) && a.chk tb N sc raw l && b.chk tb N sc raw r && c.chk tb N sc raw t && !lastMarks [op, op2] [r, t]
    | _ => false
  | .nt t, x => match x with
    | .UnaryOp .Not v _ => t.chk tb N sc raw v
    | _ => false
  | .bop w l, x => match x with
    | .BoolOp o es _ => decide (o = if w then .And else .Or) && l.chk tb N sc raw es
    | _ => false
def BT.chk (tb : Tb) (N : List Str) (sc : Scope) (raw : Option Scope) : BT → List Expr → Bool
  | .one a, es => match es with
    | [e] => a.chk tb N sc raw e
    | _ => false
  | .cons a r, es => match es with
    | e :: e2 :: es => a.chk tb N sc raw e && r.chk tb N sc raw (e2 :: es)
    | _ => false
def O.chk (tb : Tb) (N : List Str) (sc : Scope) (raw : Option Scope) : O → Option Expr → Bool
  | .no, x => match x with
    | none => true
    | some _ => false
  | .on a, x => match x with
    | some e => a.chk tb N sc raw e
    | none => false
def OT.chk (tb : Tb) (N : List Str) (sc : Scope) (raw : Option Scope) : OT → List Expr → Bool
  | .no, es => match es with
    | [] => true
    | _ => false
  | .on t, es => match es with
    | [e] => t.chk tb N sc raw e
    | _ => false
def I.chk (tb : Tb) (N : List Str) (sc : Scope) (raw : Option Scope) : I → Expr → Expr → Bool
  | .src a, tg, x => a.chk tb N sc raw x
  | .zip l, tg, x => match x with
    | .Call (.Name id _) [e, e2] [] _ => isTup tg && (id == ("zip" : Str)) && frB tb sc id && l.chk tb N sc raw [e, e2]
    | _ => false
  | .rg1 l, tg, x => match x with
    | .Call (.Name id _) [e] [] _ => (id == ("range" : Str)) && frB tb sc id && l.chk tb N sc raw [e]
    | _ => false
  | .rg2 l, tg, x => match x with
    | .Call (.Name id _) [e, e2] [] _ => (id == ("range" : Str)) && frB tb sc id && l.chk tb N sc raw [e, e2]
    | _ => false
end
end
end Dv
/-! Dv19: expressions: the look is right. -/
namespace Dv
noncomputable section
open PySem L2 PyProof.Rows
/-- a function of the text, and what it promises -/
def FnAt (G : Gl) (cl : Cl) (k : Nat) (X0 : Cx) (g : Nat) (x : Str) (np : Nat) : Prop :=
  ∃ (f : Addr) (fd : FuncData) (ps : List Str), FnG X0.prog X0.w X0.K X0.mg X0.base CX0 k f fd ps (spE G np (cl g)) ∧ X0.mg x = some (.ref f) ∧ PySem.W.keepIn X0.K (.ref f) = true ∧ Binds X0.K fd ps [] ∧ ∀ xs m, xs.length ≠ np → cl g xs m = .bad
/-- the place where a piece of text runs -/
structure Lay (G : Gl) (tb : Tb) (cl : Cl) (k : Nat) (N : List Str) (sc : Scope) (raw : Option Scope) (X0 : Cx) : Prop where
  K : X0.K = G.K
  eN : X0.N = N
  nd : N.Nodup
  eS : X0.env.scope = sc
  kd : sc.kind = .function
  calm : X0.calm = true
  rm : Rm k X0.A
  fn : ∀ x, fnB raw x = true → X0.fn x = true
  xe : X0.xe = fun _ _ => False
  fns : ∀ g x np, tb.fns[g]? = some (x, np) → x ≠ ("" : Str) → FnAt G cl k X0 g x np
  gv : ∀ p ∈ tb.gv, ∃ (u : Value) (w : V), X0.mg p.1 = some u ∧ RelV w u ∧ ∀ r n H, RV G r n H p.2 w
  fr : ∀ x ∈ tb.fr, X0.mg x = none
section
variable {G : Gl} {tb : Tb} {cl : Cl} {k : Nat} {N : List Str} {sc : Scope} {raw : Option Scope} {X0 : Cx}
theorem Lay.units (L : Lay G tb cl k N sc raw X0) : X0.A.units + 65 < cLine := by
  have := L.rm.rm.un
  omega
theorem Lay.blk (L : Lay G tb cl k N sc raw X0) {scope : Scope} (hk : scope.kind = .function) (s : Shared) (H : Hp) (C : Addr) (c : List (Str × Addr)) (fp : List Addr) :
    Lay G tb cl k N (inS scope sc) (some scope) (X0.blk s H scope (compEnvC scope c C X0.env) fp) where
  K := L.K
  eN := L.eN
  nd := L.nd
  eS := by rw [← L.eS] <;> rfl
  kd := hk
  calm := L.calm
  rm := L.rm
  fn := fun x h => by
    unfold fnB at h
    show (scope.names.lookup x == some NameKind.cell) = true
    cases e : scope.names.lookup x with
    | none => simp only [e] at h; cases h
    | some n =>
      simp only [e] at h
      cases n <;> first | rfl | cases h
  xe := rfl
  fns := L.fns
  gv := L.gv
  fr := L.fr
theorem vis_of (L : Lay G tb cl k N sc raw X0) {x : Str} (h : visB sc x = true) : Vis X0.env.scope x := by
  unfold visB at h
  rw [L.eS]
  unfold Vis
  cases e : sc.names.lookup x with
  | none => rw [e] at h; cases h
  | some n =>
    rw [e] at h
    cases n <;> first | exact .inl rfl | exact .inr (.inl rfl) | exact .inr (.inr rfl) | cases h
theorem gl_of (L : Lay G tb cl k N sc raw X0) {x : Str} (h : glB sc x = true) : L2.Gl X0 x := by
  unfold glB at h
  show X0.env.scope.names.lookup x = _
  rw [L.eS]
  cases e : sc.names.lookup x with
  | none => rw [e] at h; cases h
  | some n =>
    rw [e] at h
    cases n <;> first | rfl | cases h
theorem tg_of (L : Lay G tb cl k N sc raw X0) {x : Str} (h : tgB sc raw x = true) : L2.Loc X0.env.scope x ∧ (X0.fn x = true ∨ X0.env.scope.names.lookup x = some .local) := by
  unfold tgB at h
  rw [L.eS]
  unfold L2.Loc
  cases e : sc.names.lookup x with
  | none => rw [e] at h; cases h
  | some n =>
    rw [e] at h
    cases n with
    | «local» => exact ⟨.inl rfl, .inr rfl⟩
    | cell => exact ⟨.inr rfl, .inl (L.fn x h)⟩
    | _ => cases h
theorem at_of (L : Lay G tb cl k N sc raw X0) {i : Nat} {x : Str} (h : atB N i x = true) : X0.N[i]? = some x := by
  unfold atB at h
  rw [L.eN]
  cases e : N[i]? with
  | none => rw [e] at h; cases h
  | some y =>
    rw [e] at h
    rw [beq_iff_eq.mp h]
theorem fr_of (L : Lay G tb cl k N sc raw X0) {x : Str} (h : frB tb sc x = true) : L2.Gl X0 x ∧ X0.mg x = none := by
  unfold frB at h
  obtain ⟨h1, h2⟩ := Bool.and_eq_true_iff.mp h
  obtain ⟨y, hy, e⟩ := List.any_eq_true.mp h2
  exact ⟨gl_of L h1, L.fr x (by rw [← beq_iff_eq.mp e]; exact hy)⟩
theorem not_of {b : Bool} (h : (!b) = true) : b = false := by cases b <;> first | rfl | cases h
theorem const_of {W : Wi} {c : Const} {v : MV} {j : Nat} {pos : Pos} (h : constB c v = true) : OkE G W X0 (.Constant c j pos) (xC v) := by
  cases c <;> cases v <;> first | (cases h; done) | skip
  · exact ok_non
  · have := beq_iff_eq.mp (show (_ == _) = true from h)
    rw [this]
    exact ok_bl
  · have := beq_iff_eq.mp (show (_ == _) = true from h)
    rw [this]
    exact ok_int
  · exact ok_str (beq_iff_eq.mp h)
theorem gv_of (L : Lay G tb cl k N sc raw X0) {W : Wi} {x : Str} {v : MV} {pos : Pos} (hg : glB sc x = true) (hd : okD x = true) (h : gvB tb.gv x v = true) : OkE G W X0 (.Name x pos) (xC v) := by
  have look : ∀ l : List (Str × MV), gvB l x v = true → (x, v) ∈ l := by
    intro l
    induction l with
    | nil => intro h; cases h
    | cons p l ih =>
      obtain ⟨y, u⟩ := p
      intro h
      rw [gvB, Bool.or_eq_true, Bool.and_eq_true] at h
      rcases h with ⟨h1, h2⟩ | h
      · rw [beq_iff_eq.mp h1, MV.eqb_eq u v h2]
        exact List.mem_cons_self ..
      · exact List.mem_cons_of_mem _ (ih h)
  obtain ⟨u, w, h1, h2, h3⟩ := L.gv _ (look _ h)
  exact ok_glob (gl_of L hg) h1 h2 h3 (not_of hd)
theorem fns_of (L : Lay G tb cl k N sc raw X0) {g : Nat} {x : Str} (h : fnsB tb g x = true) : ∃ np, FnAt G cl k X0 g x np := by
  unfold fnsB at h
  cases e : tb.fns[g]? with
  | none => rw [e] at h; cases h
  | some p =>
    obtain ⟨y, np⟩ := p
    rw [e] at h
    obtain ⟨h1, h2⟩ := Bool.and_eq_true_iff.mp (show (y == x && !(x == ("" : Str))) = true from h)
    have : y = x := beq_iff_eq.mp h1
    subst this
    exact ⟨np, L.fns g y np e fun z => by
      rw [z] at h2
      exact absurd h2 (by decide)⟩
theorem set_of {e : Expr} {env : Env} (h : notSet e = true) : ∀ x, foldedSetIterable e env x = pure x := by
  intro x
  unfold foldedSetIterable
  cases e <;> first | rfl | cases h
theorem ok_arg0 {W : Wi} : OkA G W X0 [] xArg0 := pa_of pa_nil fun σ H Q ⟨r, m, s, w, q, g⟩ => Go.ok w g [] RVs.nil
theorem ok_argC {W : Wi} {e : Expr} {es : List Expr} {f : X} {a : XS} (he : OkE G W X0 e f) (hr : OkA G W X0 es a) (h : notStar e = true) : OkA G W X0 (e :: es) (xArgC f a) := by
  refine pa_of (pa_cons he hr (star_ne h)) fun σ H Q h => ?_
  obtain ⟨r, m, s, w, q, g⟩ := h
  refine ⟨r, m, s, w, q, (Go.bind g).mono fun r1 m1 H1 x u1 w1 g1 v p => ?_⟩
  refine ⟨r1, m1, s, w1, q.up u1, (Go.bind g1).mono fun r2 m2 H2 xs u2 w2 g2 vs p2 => ?_⟩
  exact Go.ok w2 g2 (v :: vs) (RVs.cons (RV.up u2 x v p) p2)
def opW (w : Bool) : BoolOp := if w then .And else .Or
theorem ok_bopC {W : Wi} {w : Bool} {e e2 : Expr} {es : List Expr} {f k : X} {pos : Pos} (hK : X0.K = G.K) (he : OkE G W X0 e f) (hr : OkE G W X0 (.BoolOp (opW w) (e2 :: es) pos) k) : OkE G W X0 (.BoolOp (opW w) (e :: e2 :: es) pos) (bopC w f k) := by
  cases w with
  | true =>
    refine pe_of (pe_andT he hr) fun σ H Q h => ?_
    obtain ⟨r, m, s, w, q, g⟩ := h
    refine ⟨r, m, s, w, q, (Go.bind g).mono fun r1 m1 H1 x u1 w1 g1 v p => ?_⟩
    rw [hK]
    obtain ⟨b, hb, g2⟩ := go_truV w1 p (Go.bind g1)
    refine ⟨b, hb, ?_⟩
    cases b with
    | true => exact tE_at w1 (q.up u1) g2
    | false => exact go_val w1 p g2
  | false =>
    refine pe_of (pe_orT he hr) fun σ H Q h => ?_
    obtain ⟨r, m, s, w, q, g⟩ := h
    refine ⟨r, m, s, w, q, (Go.bind g).mono fun r1 m1 H1 x u1 w1 g1 v p => ?_⟩
    rw [hK]
    obtain ⟨b, hb, g2⟩ := go_truV w1 p (Go.bind g1)
    refine ⟨b, hb, ?_⟩
    cases b with
    | true => exact go_val w1 p g2
    | false => exact tE_at w1 (q.up u1) g2
theorem ok_bopTC {W : Wi} {w : Bool} {e e2 : Expr} {es : List Expr} {f k : XB} {pos : Pos} (he : OkT G W X0 e f) (hr : PW X0 (.BoolOp (opW w) (e2 :: es) pos) (tT G W k)) : PW X0 (.BoolOp (opW w) (e :: e2 :: es) pos) (tT G W (bopTC w f k)) := by
  cases w with
  | true =>
    refine pw_of (pw_and he hr) fun σ H Q h => ?_
    obtain ⟨r, m, s, w, q, g⟩ := h
    refine ⟨r, m, s, w, q, (Go.bind g).mono fun r1 m1 H1 b u1 w1 g1 => ?_⟩
    cases b with
    | true => exact ⟨r1, m1, s, w1, q.up u1, g1⟩
    | false => exact Go.ok w1 g1
  | false =>
    refine pw_of (pw_or he hr) fun σ H Q h => ?_
    obtain ⟨r, m, s, w, q, g⟩ := h
    refine ⟨r, m, s, w, q, (Go.bind g).mono fun r1 m1 H1 b u1 w1 g1 => ?_⟩
    cases b with
    | true => exact Go.ok w1 g1
    | false => exact ⟨r1, m1, s, w1, q.up u1, g1⟩
theorem pw_one {W : Wi} {w : Bool} {e : Expr} {f : XB} {pos : Pos} (he : OkT G W X0 e f) : PW X0 (.BoolOp (opW w) [e] pos) (tT G W f) := by
  cases w
  · exact pw_or1 he
  · exact pw_and1 he
/-- the built-ins -/
theorem ok_blt (L : Lay G tb cl k N sc raw X0) {W : Wi} {b : Bf} {x : Str} {e : Expr} {es : List Expr} {a : XS} {p pos : Pos} (hx : (x == b.nm) = true) (hf : frB tb sc x = true) (ha : OkA G W X0 (e :: es) a) (hs : (e :: es).all notStar = true) : OkE G W X0 (.Call (.Name x p) (e :: es) [] pos) (xA b.f a) := by
  have hx := beq_iff_eq.mp hx
  subst hx
  obtain ⟨hg, hm⟩ := fr_of L hf
  cases b with
  | len => exact ok_callB (ok_len L.K) hg hm boot_len ha (by decide +kernel) (by decide +kernel) hs
  | all => exact ok_callB (ok_all L.K L.calm) hg hm (by decide +kernel) ha (by decide +kernel) (by decide +kernel) hs
  | any => exact ok_callB (ok_any L.K L.calm) hg hm (by decide +kernel) ha (by decide +kernel) (by decide +kernel) hs
  | int => exact ok_callTy ok_intT hg hm (by decide +kernel) ha (by decide +kernel) (by decide +kernel) hs
  | repr => exact ok_callB (ok_repr L.K L.rm.gd L.units) hg hm (by decide +kernel) ha (by decide +kernel) (by decide +kernel) hs
  | max => exact ok_callB (ok_max2 L.calm) hg hm (by decide +kernel) ha (by decide +kernel) (by decide +kernel) hs
  | min => exact ok_callB (ok_min2 L.calm) hg hm (by decide +kernel) ha (by decide +kernel) (by decide +kernel) hs
  | abs => exact ok_callB ok_abs hg hm (by decide +kernel) ha (by decide +kernel) (by decide +kernel) hs
  | list => exact ok_callTy (ok_listOf L.K) hg hm (by decide +kernel) ha (by decide +kernel) (by decide +kernel) hs
  | tuple => exact ok_callTy (ok_tupleOf L.K) hg hm (by decide +kernel) ha (by decide +kernel) (by decide +kernel) hs
/-- the methods -/
theorem ok_mth (hK : X0.K = G.K) (hu : X0.A.units + 1 < cLine) {W : Wi} {t : Mt} {n : Str} {o : Expr} {es : List Expr} {fo : X} {a : XS} {ap cp : Pos} (hx : (n == t.nm) = true) (ho : OkE G W X0 o fo) (hb : notCall0 o = true) (hl : (ap.endLine == cp.line) = true) (hn : es.length < 30) (ha : OkA G W X0 es a) (hs : es.all notStar = true) (h0 : es = [] → a = xArgs []) :
    OkE G W X0 (.Call (.Attribute o n ap) es [] cp) (xMeth t.ty t.f fo a) := by
  have hx := beq_iff_eq.mp hx
  subst hx
  have go : ∀ {T id : String} (pa : PlainAttrs T) (slot : Slot T t.nm id) (hty : typeOf (.builtin id) = pure (.type "method_descriptor")) (ht : TyOk G T t.ty) (hm : MtR X0 id (rM G W t.f)), OkE G W X0 (.Call (.Attribute o t.nm ap) es [] cp) (xMeth t.ty t.f fo a) := fun pa slot hty ht hm => by
    cases es with
    | nil =>
      rw [h0 rfl]
      exact ok_meth0 hK pa slot hty ht hm ho hb hl
    | cons e es => exact ok_meth hK pa slot hty ht hm ho ha hb hl hs (decide_eq_true hn)
  cases t with
  | app => exact go F.plainAttrs_list F.slot_list_append F.type_list_append ty_lst ok_app
  | ext => exact go F.plainAttrs_list F.slot_list_extend F.type_list_extend ty_lst ok_ext
  | rmp => exact go F.plainAttrs_str F.slot_str_removeprefix F.type_str_removeprefix ty_str ok_rmp
  | join => exact go F.plainAttrs_str F.slot_str_join F.type_str_join ty_str (ok_join hK)
  | get => exact go F.plainAttrs_dict F.slot_dict_get F.type_dict_get ty_dct (ok_get hu)
theorem nil_of {l : L} (h : l.chk tb N sc raw [] = true) : l = .nil := by
  cases l with
  | nil => rfl
  | cons _ _ => cases h
end
end
end Dv
/-! Dv20: expressions beside the program's. -/
namespace Dv
noncomputable section
open PySem L2 PyProof.Rows
section
variable {G : Gl} {tb : Tb} {cl : Cl} {k : Nat} {N : List Str} {sc : Scope} {raw : Option Scope} {X0 : Cx}
mutual
theorem Tg.ok : ∀ (t : Tg) {sc : Scope} {raw : Option Scope} {X0 : Cx} {x : Expr}, Lay G tb cl k N sc raw X0 → t.chk N sc raw x = true → OkG G noW X0 x t.sl t.den
  | .nm i, sc, raw, X0, x, L, h => by
    cases x <;> first | (cases h; done) | skip
    obtain ⟨h1, h2⟩ := Bool.and_eq_true_iff.mp h
    obtain ⟨h3, h4⟩ := tg_of L h2
    exact ok_gName (by rw [L.eN]; exact L.nd) (at_of L h1) h3 h4
  | .tp ts, sc, raw, X0, x, L, h => by
    cases x <;> first | (cases h; done) | skip
    obtain ⟨h1, h2⟩ := Bool.and_eq_true_iff.mp h
    obtain ⟨h3, h4⟩ := Tgs.ok ts L h2
    rw [Tg.den_tp, h4]
    exact ok_gTup L.K L.calm h3 h1
theorem Tgs.ok : ∀ (t : Tgs) {sc : Scope} {raw : Option Scope} {X0 : Cx} {es : List Expr}, Lay G tb cl k N sc raw X0 → t.chk N sc raw es = true → OkGs G noW X0 es t.sl t.den ∧ t.many = es.length
  | .nil, sc, raw, X0, es, L, h => by
    cases es with
    | nil => exact ⟨ok_gsNil, rfl⟩
    | cons _ _ => cases h
  | .cons t r, sc, raw, X0, es, L, h => by
    cases es with
    | nil => cases h
    | cons e es =>
      have h : (t.chk N sc raw e && notStar e && r.chk N sc raw es) = true := h
      rw [Bool.and_eq_true, Bool.and_eq_true] at h
      obtain ⟨⟨h1, h2⟩, h3⟩ := h
      obtain ⟨h4, h5⟩ := Tgs.ok r L h3
      exact ⟨ok_gsCons (Tg.ok t L h1) h4 h2, congrArg Nat.succ h5⟩
end
theorem sl_mem {vs ws : List Nat} (h : ws.all (fun j => vs.any fun k => k == j) = true) : ∀ i ∈ ws, i ∈ vs := fun i hi => by
  obtain ⟨k, hk, e⟩ := List.any_eq_true.mp (List.all_eq_true.mp h i hi)
  rw [← beq_iff_eq.mp e]
  exact hk
mutual
theorem E.ok : ∀ (t : E) {sc : Scope} {raw : Option Scope} {X0 : Cx} {x : Expr}, Lay G tb cl k N sc raw X0 → t.chk tb N sc raw x = true → OkE G noW X0 x (t.den cl)
  | .loc i, sc, raw, X0, x, L, h => by
    cases x <;> first | (cases h; done) | skip
    have h := h
    unfold E.chk at h
    simp only [Bool.and_eq_true] at h
    obtain ⟨⟨⟨h1, h2⟩, h3⟩, h4⟩ := h
    exact ok_loc (at_of L h1) (vis_of L h2) (not_of h3) (not_of h4)
  | .c v, sc, raw, X0, x, L, h => by
    cases x <;> first | (cases h; done) | skip
    exact const_of h
  | .gc v, sc, raw, X0, x, L, h => by
    cases x <;> first | (cases h; done) | skip
    unfold E.chk at h
    simp only [Bool.and_eq_true] at h
    obtain ⟨⟨h1, h2⟩, h3⟩ := h
    exact gv_of L h1 h2 h3
  | .bin op a b, sc, raw, X0, x, L, h => by
    cases x <;> first | (cases h; done) | skip
    unfold E.chk at h
    simp only [Bool.and_eq_true, decide_eq_true_eq] at h
    obtain ⟨⟨rfl, h2⟩, h3⟩ := h
    exact ok_bin (ok_binV L.K _) (E.ok a L h2) (E.ok b L h3)
  | .cmp op a b, sc, raw, X0, x, L, h => by
    unfold E.chk at h
    split at h <;> first | (cases h; done) | skip
    simp only [Bool.and_eq_true, decide_eq_true_eq] at h
    obtain ⟨⟨⟨rfl, h2⟩, h3⟩, h4⟩ := h
    exact ok_cmp (ok_cmpV L.K L.units _) (E.ok a L h2) (E.ok b L h3) (not_of h4)
  | .chn op op2 a b c, sc, raw, X0, x, L, h => by
    unfold E.chk at h
    split at h <;> first | (cases h; done) | skip
    simp only [Bool.and_eq_true, decide_eq_true_eq] at h
    obtain ⟨⟨⟨⟨⟨rfl, rfl⟩, h2⟩, h3⟩, h4⟩, h5⟩ := h
    exact ok_chn (ok_cmpV L.K L.units _) (ok_cmpV L.K L.units _) (E.ok a L h2) (E.ok b L h3) (E.ok c L h4) (not_of h5)
  | .bop w l, sc, raw, X0, x, L, h => by
    cases x <;> first | (cases h; done) | skip
    unfold E.chk at h
    simp only [Bool.and_eq_true, decide_eq_true_eq] at h
    obtain ⟨rfl, h2⟩ := h
    exact B.ok l w L h2
  | .nt a, sc, raw, X0, x, L, h => by
    unfold E.chk at h
    split at h <;> first | (cases h; done) | skip
    exact ok_not L.K (E.ok a L h)
  | .neg a, sc, raw, X0, x, L, h => by
    unfold E.chk at h
    split at h <;> first | (cases h; done) | skip
    exact ok_neg (E.ok a L h)
  | .ife t a b, sc, raw, X0, x, L, h => by
    cases x <;> first | (cases h; done) | skip
    unfold E.chk at h
    simp only [Bool.and_eq_true] at h
    obtain ⟨⟨h1, h2⟩, h3⟩ := h
    exact ok_if (T.ok t L h1) (E.ok a L h2) (E.ok b L h3)
  | .tup l, sc, raw, X0, x, L, h => by
    cases x <;> first | (cases h; done) | skip
    exact ok_tup (L.ok l L h).1
  | .lst l, sc, raw, X0, x, L, h => by
    cases x <;> first | (cases h; done) | skip
    exact ok_lst (L.ok l L h).1
  | .ix a b, sc, raw, X0, x, L, h => by
    cases x <;> first | (cases h; done) | skip
    unfold E.chk at h
    simp only [Bool.and_eq_true] at h
    obtain ⟨⟨h1, h2⟩, h3⟩ := h
    exact ok_ix L.K (by have := L.units; omega) (E.ok a L h1) (E.ok b L h2) h3
  | .sl a lo hi, sc, raw, X0, x, L, h => by
    unfold E.chk at h
    split at h <;> first | (cases h; done) | skip
    simp only [Bool.and_eq_true] at h
    obtain ⟨⟨h1, h2⟩, h3⟩ := h
    exact ok_sl L.K (E.ok a L h1) (O.ok lo L h2) (O.ok hi L h3)
  | .call g l, sc, raw, X0, x, L, h => by
    unfold E.chk at h
    split at h <;> first | (cases h; done) | skip
    rename_i x id p es pos
    simp only [Bool.and_eq_true] at h
    obtain ⟨⟨⟨h1, h2⟩, h3⟩, h4⟩ := h
    obtain ⟨h5, h6⟩ := L.ok l L h4
    obtain ⟨np, f, fd, ps, F, hm, hk, hb, hl⟩ := fns_of L h3
    cases es with
    | nil =>
      rw [E.den_call, nil_of h4]
      exact ok_callG0 F hl L.rm (gl_of L h1) hm hk hb pass0 (not_of h2)
    | cons e es => exact ok_callG F hl L.rm (gl_of L h1) hm hk hb pass0 h5 (not_of h2) h6
  | .blt b l, sc, raw, X0, x, L, h => by
    unfold E.chk at h
    split at h <;> first | (cases h; done) | skip
    rename_i x id p es pos
    simp only [Bool.and_eq_true] at h
    obtain ⟨⟨⟨h1, h2⟩, h3⟩, h4⟩ := h
    obtain ⟨h5, h6⟩ := L.ok l L h4
    cases es with
    | nil => cases h3
    | cons e es => exact ok_blt L h1 h2 h5 h6
  | .isi t a, sc, raw, X0, x, L, h => by
    unfold E.chk at h
    split at h <;> first | (cases h; done) | skip
    simp only [Bool.and_eq_true] at h
    obtain ⟨⟨⟨⟨⟨⟨h1, h2⟩, h0⟩, h3⟩, h4⟩, h5⟩, h6⟩ := h
    obtain ⟨g1, m1⟩ := fr_of L h2
    obtain ⟨g2, m2⟩ := fr_of L h4
    have e3 := beq_iff_eq.mp h3
    subst e3
    refine ok_isi L.K (beq_iff_eq.mp h1) g1 m1 g2 m2 ?_ ?_ ?_ (E.ok a L h6) h5 <;> (cases t <;> first | (cases h0; done) | decide +kernel)
  | .lr1 a, sc, raw, X0, x, L, h => by
    unfold E.chk at h
    split at h <;> first | (cases h; done) | skip
    simp only [Bool.and_eq_true] at h
    obtain ⟨⟨⟨⟨⟨h1, h2⟩, h3⟩, h4⟩, h5⟩, h6⟩ := h
    obtain ⟨g1, m1⟩ := fr_of L h2
    obtain ⟨g2, m2⟩ := fr_of L h4
    exact ok_lr1 (beq_iff_eq.mp h1) (beq_iff_eq.mp h3) L.calm g1 m1 g2 m2 (E.ok a L h5) h6
  | .lr2 a b, sc, raw, X0, x, L, h => by
    unfold E.chk at h
    split at h <;> first | (cases h; done) | skip
    simp only [Bool.and_eq_true] at h
    obtain ⟨⟨⟨⟨⟨⟨⟨h1, h2⟩, h3⟩, h4⟩, h5⟩, h6⟩, h7⟩, h8⟩ := h
    obtain ⟨g1, m1⟩ := fr_of L h2
    obtain ⟨g2, m2⟩ := fr_of L h4
    exact ok_lr2 (beq_iff_eq.mp h1) (beq_iff_eq.mp h3) L.calm g1 m1 g2 m2 (E.ok a L h5) (E.ok b L h7) h6 h8
  | .mth t a l, sc, raw, X0, x, L, h => by
    unfold E.chk at h
    split at h <;> first | (cases h; done) | skip
    rename_i x o n ap es cp
    simp only [Bool.and_eq_true, decide_eq_true_eq] at h
    obtain ⟨⟨⟨⟨⟨h1, h2⟩, h3⟩, h4⟩, h5⟩, h6⟩ := h
    obtain ⟨h7, h8⟩ := L.ok l L h6
    exact ok_mth L.K (by have := L.units; omega) h1 (E.ok a L h2) h3 h4 h5 h7 h8 fun e => by
      subst e
      rw [nil_of h6] <;> rfl
  | .lc vs i t o e, sc, raw, X0, x, L, h => by
    unfold E.chk at h
    split at h <;> first | (cases h; done) | skip
    rename_i x elt tg it ifs asy scope pos
    simp only [Bool.and_eq_true] at h
    obtain ⟨⟨⟨⟨⟨⟨⟨h1, h2⟩, h3⟩, h4⟩, h5⟩, h6⟩, h7⟩, h8⟩ := h
    have e1 := beq_iff_eq.mp h1
    subst e1
    have B := blkB_ok h2
    have hk := B.kind
    rw [E.den_lc]
    have := ok_lc (X0 := X0) (G := G) (own := ownOf N vs) (sl := t.sl) (src := i.den cl) (g := t.den) (t := o.den cl) (e := e.den cl) (pos := pos) L.calm (by rw [L.eN]; exact L.nd) (I.ok i L h3) (by rw [L.eN, L.eS]; exact B) (by rw [own_snd]; exact sl_mem h6)
      (fun s H C c fp => ⟨Tg.ok t (L.blk hk s H C c fp) h5, OT.ok o (L.blk hk s H C c fp) h7, E.ok e (L.blk hk s H C c fp) h8⟩) (set_of h4)
    rw [own_snd] at this
    exact this
  | .dct p, sc, raw, X0, x, L, h => by
    cases x <;> first | (cases h; done) | skip
    rename_i ks vs pos
    obtain ⟨h1, h2⟩ := Bool.and_eq_true_iff.mp h
    obtain ⟨h3, h4, h5⟩ := P.ok p L h2
    cases ks with
    | nil =>
      cases vs with
      | cons _ _ => cases h5
      | nil =>
        cases p with
        | nil => exact ok_dct0
        | cons _ _ _ => cases h2
    | cons k ks => exact ok_dct h3 h4 h5 (List.cons_ne_nil _ _) (Nat.le_of_ble_eq_true h1)
  | .ifr a i b u o c d, sc, raw, X0, x, L, h => by
    unfold E.chk at h
    split at h <;> first | (cases h; done) | skip
    simp only [Bool.and_eq_true, decide_eq_true_eq] at h
    obtain ⟨⟨⟨⟨⟨⟨⟨⟨⟨⟨⟨rfl, h2⟩, h3⟩, h4⟩, h5⟩, h6⟩, h7⟩, h8⟩, h9⟩, h10⟩, h11⟩, h12⟩ := h
    have e6 := beq_iff_eq.mp h6
    subst e6
    exact ok_ifr L.K L.units (E.ok a L h2) (E.ok b L h3) (E.ok u L h4) (E.ok o L h5) (not_of h7) h8 h9 h10 h11 (not_of h12)
theorem P.ok : ∀ (p : P) {sc : Scope} {raw : Option Scope} {X0 : Cx} {ks : List (Option Expr)} {vs : List Expr}, Lay G tb cl k N sc raw X0 → p.chk tb N sc raw ks vs = true → OkP G noW X0 ks vs (p.den cl) ∧ ks.all (·.isSome) = true ∧ ks.length = vs.length
  | .nil, sc, raw, X0, ks, vs, L, h => by
    unfold P.chk at h
    split at h <;> first | (cases h; done) | skip
    exact ⟨okP_nil, rfl, rfl⟩
  | .cons a b r, sc, raw, X0, ks, vs, L, h => by
    unfold P.chk at h
    split at h <;> first | (cases h; done) | skip
    simp only [Bool.and_eq_true] at h
    obtain ⟨⟨h1, h2⟩, h3⟩ := h
    obtain ⟨h4, h5, h6⟩ := P.ok r L h3
    exact ⟨okP_cons (E.ok a L h1) (E.ok b L h2) h4, by rw [List.all_cons, h5] <;> rfl, by rw [List.length_cons, List.length_cons, h6]⟩
theorem L.ok : ∀ (l : L) {sc : Scope} {raw : Option Scope} {X0 : Cx} {es : List Expr}, Lay G tb cl k N sc raw X0 → l.chk tb N sc raw es = true → OkA G noW X0 es (l.den cl) ∧ es.all notStar = true
  | .nil, sc, raw, X0, es, L, h => by
    cases es with
    | nil => exact ⟨ok_arg0, rfl⟩
    | cons _ _ => cases h
  | .cons a r, sc, raw, X0, es, L, h => by
    cases es with
    | nil => cases h
    | cons e es =>
      have h : (a.chk tb N sc raw e && notStar e && r.chk tb N sc raw es) = true := h
      rw [Bool.and_eq_true, Bool.and_eq_true] at h
      obtain ⟨⟨h1, h2⟩, h3⟩ := h
      obtain ⟨h4, h5⟩ := L.ok r L h3
      exact ⟨ok_argC (E.ok a L h1) h4 h2, by rw [List.all_cons, h2, h5] <;> rfl⟩
theorem B.ok : ∀ (l : B) (w : Bool) {sc : Scope} {raw : Option Scope} {X0 : Cx} {es : List Expr} {pos : Pos}, Lay G tb cl k N sc raw X0 → l.chk tb N sc raw es = true → OkE G noW X0 (.BoolOp (opW w) es pos) (l.den cl w)
  | .one a, w, sc, raw, X0, es, pos, L, h => by
    unfold B.chk at h
    split at h <;> first | (cases h; done) | skip
    exact pe_one (E.ok a L h)
  | .cons a r, w, sc, raw, X0, es, pos, L, h => by
    unfold B.chk at h
    split at h <;> first | (cases h; done) | skip
    obtain ⟨h1, h2⟩ := Bool.and_eq_true_iff.mp h
    exact ok_bopC L.K (E.ok a L h1) (B.ok r w L h2)
theorem T.ok : ∀ (t : T) {sc : Scope} {raw : Option Scope} {X0 : Cx} {x : Expr}, Lay G tb cl k N sc raw X0 → t.chk tb N sc raw x = true → OkT G noW X0 x (t.den cl)
  | .tru a, sc, raw, X0, x, L, h => by
    obtain ⟨h1, h2⟩ := Bool.and_eq_true_iff.mp h
    exact ok_tru h1 L.K (E.ok a L h2)
  | .cmp op a b, sc, raw, X0, x, L, h => by
    unfold T.chk at h
    split at h <;> first | (cases h; done) | skip
    simp only [Bool.and_eq_true, decide_eq_true_eq] at h
    obtain ⟨⟨⟨rfl, h2⟩, h3⟩, h4⟩ := h
    exact ok_cmpT (ok_cmpV L.K L.units _) (E.ok a L h2) (E.ok b L h3) (not_of h4)
  | .chn op op2 a b c, sc, raw, X0, x, L, h => by
    unfold T.chk at h
    split at h <;> first | (cases h; done) | skip
    simp only [Bool.and_eq_true, decide_eq_true_eq] at h
    obtain ⟨⟨⟨⟨⟨rfl, rfl⟩, h2⟩, h3⟩, h4⟩, h5⟩ := h
    exact ok_chnT (ok_cmpV L.K L.units _) (ok_cmpV L.K L.units _) (E.ok a L h2) (E.ok b L h3) (E.ok c L h4) (not_of h5)
  | .nt t, sc, raw, X0, x, L, h => by
    unfold T.chk at h
    split at h <;> first | (cases h; done) | skip
    exact ok_notT (T.ok t L h)
  | .bop w l, sc, raw, X0, x, L, h => by
    cases x <;> first | (cases h; done) | skip
    unfold T.chk at h
    simp only [Bool.and_eq_true, decide_eq_true_eq] at h
    obtain ⟨rfl, h2⟩ := h
    exact (BT.ok l w L h2).pt
theorem BT.ok : ∀ (l : BT) (w : Bool) {sc : Scope} {raw : Option Scope} {X0 : Cx} {es : List Expr} {pos : Pos}, Lay G tb cl k N sc raw X0 → l.chk tb N sc raw es = true → PW X0 (.BoolOp (opW w) es pos) (tT G noW (l.den cl w))
  | .one a, w, sc, raw, X0, es, pos, L, h => by
    unfold BT.chk at h
    split at h <;> first | (cases h; done) | skip
    exact pw_one (T.ok a L h)
  | .cons a r, w, sc, raw, X0, es, pos, L, h => by
    unfold BT.chk at h
    split at h <;> first | (cases h; done) | skip
    obtain ⟨h1, h2⟩ := Bool.and_eq_true_iff.mp h
    exact ok_bopTC (T.ok a L h1) (BT.ok r w L h2)
theorem O.ok : ∀ (t : O) {sc : Scope} {raw : Option Scope} {X0 : Cx} {x : Option Expr}, Lay G tb cl k N sc raw X0 → t.chk tb N sc raw x = true → PO X0 x (tOi G noW (t.den cl))
  | .no, sc, raw, X0, x, L, h => by
    cases x with
    | none => exact ok_part0
    | some _ => cases h
  | .on a, sc, raw, X0, x, L, h => by
    cases x with
    | none => cases h
    | some e => exact ok_part1 (E.ok a L h)
theorem OT.ok : ∀ (t : OT) {sc : Scope} {raw : Option Scope} {X0 : Cx} {es : List Expr}, Lay G tb cl k N sc raw X0 → t.chk tb N sc raw es = true → OkTs G noW X0 es (t.den cl)
  | .no, sc, raw, X0, es, L, h => by
    cases es with
    | nil => exact .none
    | cons _ _ => cases h
  | .on t, sc, raw, X0, es, L, h => by
    unfold OT.chk at h
    split at h <;> first | (cases h; done) | skip
    exact .one (T.ok t L h)
theorem I.ok : ∀ (i : I) {sc : Scope} {raw : Option Scope} {X0 : Cx} {tg x : Expr}, Lay G tb cl k N sc raw X0 → i.chk tb N sc raw tg x = true → OkI G noW X0 tg x (i.den cl)
  | .src a, sc, raw, X0, tg, x, L, h => ok_src L.K (E.ok a L h)
  | .zip l, sc, raw, X0, tg, x, L, h => by
    unfold I.chk at h
    split at h <;> first | (cases h; done) | skip
    simp only [Bool.and_eq_true] at h
    obtain ⟨⟨⟨h1, h2⟩, h3⟩, h4⟩ := h
    obtain ⟨g1, m1⟩ := fr_of L h3
    obtain ⟨h5, h6⟩ := L.ok l L h4
    have e := beq_iff_eq.mp h2
    subst e
    cases tg <;> first | (cases h1; done) | skip
    exact ok_zip L.K g1 m1 h5 h6
  | .rg1 l, sc, raw, X0, tg, x, L, h => by
    unfold I.chk at h
    split at h <;> first | (cases h; done) | skip
    simp only [Bool.and_eq_true] at h
    obtain ⟨⟨h2, h3⟩, h4⟩ := h
    obtain ⟨g1, m1⟩ := fr_of L h3
    obtain ⟨h5, h6⟩ := L.ok l L h4
    have e := beq_iff_eq.mp h2
    subst e
    exact ok_rng1 g1 m1 h5 h6
  | .rg2 l, sc, raw, X0, tg, x, L, h => by
    unfold I.chk at h
    split at h <;> first | (cases h; done) | skip
    simp only [Bool.and_eq_true] at h
    obtain ⟨⟨h2, h3⟩, h4⟩ := h
    obtain ⟨g1, m1⟩ := fr_of L h3
    obtain ⟨h5, h6⟩ := L.ok l L h4
    have e := beq_iff_eq.mp h2
    subst e
    exact ok_rng2 g1 m1 h5 h6
end
end
end
end Dv
/-! Dv21: statements beside the program's. -/
namespace Dv
noncomputable section
open PySem L2 PyProof.Rows
def locB (sc : Scope) (x : Str) : Bool := match sc.names.lookup x with
  | some .local => true
  | _ => false
def isComp : Expr → Bool
  | .ListComp _ _ _ _ => true
  | .SetComp _ _ _ _ => true
  | .DictComp _ _ _ _ _ => true
  | _ => false
def isName : Expr → Bool
  | .Name _ _ => true
  | _ => false
/-- names stored at once: the names are told apart -/
def parB (sc : Scope) (e : E) (ts : Tgs) (es vs : List Expr) (names : List Str) : Bool := match e, ts, es, vs with
  | .tup _, .cons (.nm i) (.cons (.nm j) .nil), [.Name x _, .Name y _], [_, _] => (names == [x, y]) && !(i == j) && locB sc x && locB sc y
  | .tup _, .cons (.nm i) (.cons (.nm j) (.cons (.nm l) .nil)), [.Name x _, .Name y _, .Name z _], [_, _, _] => (names == [x, y, z]) && !(i == j) && !(i == l) && !(j == l) && locB sc x && locB sc y && locB sc z
  | _, _, _, _ => false
def setB (tb : Tb) (N : List Str) (sc : Scope) (raw : Option Scope) (e : E) (t : Tg) (tg v : Expr) : Bool := match tg with
  | .Name y _ => (match t with
    | .nm i => atB N i y && tgB sc raw y && e.chk tb N sc raw v && (!isComp v || (match v with
      | .ListComp _ _ _ _ => true
      | _ => false))
    | .tp _ => false)
  | .Tuple es _ _ => (match t with
    | .nm _ => false
    | .tp ts => e.chk tb N sc raw v && (Tg.tp ts).chk N sc raw tg && (match v with
      | .Tuple vs _ _ => (match swS sc es vs with
        | some none => true
        | some (some names) => parB sc e ts es vs names
        | none => false)
      | _ => true))
  | _ => false
mutual
def S.chk (tb : Tb) (N : List Str) (sc : Scope) (raw : Option Scope) : S → Stmt → Bool
  | .set e t, x => match x with
    | .Assign [tg] v _ => setB tb N sc raw e t tg v
    | _ => false
  | .ret e, x => match x with
    | .Return (some v) _ => e.chk tb N sc raw v
    | _ => false
  | .retN, x => match x with
    | .Return none _ => true
    | _ => false
  | .run e, x => match x with
    | .Expr v _ => !isComp v && e.chk tb N sc raw v
    | _ => false
  | .pass, x => match x with
    | .Pass _ => true
    | .Expr (.Constant (.str _) _ _) _ => true
    | _ => false
  | .brk, x => match x with
    | .Break _ => true
    | _ => false
  | .cnt, x => match x with
    | .Continue _ => true
    | _ => false
  | .bad, _ => true
  | .ifs t a b, x => match x with
    | .If c y z _ => t.chk tb N sc raw c && a.chk tb N sc raw y && b.chk tb N sc raw z
    | _ => false
  | .whl t b, x => match x with
    | .While c y [] _ => t.chk tb N sc raw c && b.chk tb N sc raw y
    | _ => false
  | .fr i t b, x => match x with
    | .For tg it y [] _ => i.chk tb N sc raw tg it && notSet it && t.chk N sc raw tg && b.chk tb N sc raw y
    | _ => false
  | .aug i op e, x => match x with
    | .AugAssign (.Name y _) o v _ => decide (o = op) && atB N i y && tgB sc raw y && e.chk tb N sc raw v
    | _ => false
  | .put a i e, x => match x with
    | .Assign [.Subscript o j _] v _ => notSlice j && a.chk tb N sc raw o && i.chk tb N sc raw j && e.chk tb N sc raw v
    | _ => false
def Ss.chk (tb : Tb) (N : List Str) (sc : Scope) (raw : Option Scope) : Ss → List Stmt → Bool
  | .nil, es => match es with
    | [] => true
    | _ => false
  | .one s, es => match es with
    | [e] => s.chk tb N sc raw e
    | _ => false
  | .cons s r, es => match es with
    | e :: es => s.chk tb N sc raw e && r.chk tb N sc raw es
    | [] => false
end
section
variable {G : Gl} {tb : Tb} {cl : Cl} {k : Nat} {N : List Str} {sc : Scope} {raw : Option Scope} {X0 : Cx}
theorem loc_of (L : Lay G tb cl k N sc raw X0) {x : Str} (h : locB sc x = true) : X0.env.scope.names.lookup x = some .local := by
  unfold locB at h
  rw [L.eS]
  cases e : sc.names.lookup x with
  | none => rw [e] at h; cases h
  | some n =>
    rw [e] at h
    cases n <;> first | rfl | cases h
theorem sw_no {v : Expr} {t : Option Expr} {l : Nat} {env : Env} (h : isComp v = false) : swapsWith v t l env = pure false := by
  unfold swapsWith
  cases v <;> first | rfl | cases h
theorem sw_tup {v : Expr} {es : List Expr} {kk : Nat} {p : Pos} {l : Nat} {env : Env} : swapsWithSole [.Tuple es kk p] v l env = pure false := by
  unfold swapsWithSole swapsWith
  cases v <;> rfl
theorem st_none {tg v : Expr} {env : Env} (h : isTup v = false) : swappedStores [tg] v env = pure none := by
  unfold swappedStores
  cases v <;> first | (cases tg <;> rfl) | cases h
theorem lc_only {e : E} {elt : Expr} {gs : List Comprehension} {scope : Scope} {pos : Pos} (h : e.chk tb N sc raw (.ListComp elt gs scope pos) = true) : ∃ vs i t o a, e = .lc vs i t o a := by
  cases e <;> first | exact ⟨_, _, _, _, _, rfl⟩ | (unfold E.chk at h; cases h)
theorem sw_comp {elt : Expr} {gs : List Comprehension} {scope : Scope} {pos py : Pos} {y : Str} {l : Nat} {env : Env} (hk : env.scope.kind = .function) :
    ∃ b, swapsWith (.ListComp elt gs scope pos) (some (.Name y py)) l env = pure b ∧ (b = true → env.scope.names.lookup y = some .local) := by
  refine ⟨_, rfl, fun h => ?_⟩
  rw [Bool.and_eq_true, Bool.and_eq_true, Bool.and_eq_true] at h
  exact beq_iff_eq.mp h.1.1.2
theorem set_ok (L : Lay G tb cl k N sc raw X0) {e : E} {t : Tg} {tg v : Expr} {pos : Pos} (h : setB tb N sc raw e t tg v = true) : OkZ G noW X0 (.Assign [tg] v pos) (xSet (e.den cl) t.den) := by
  have hN : X0.N.Nodup := by rw [L.eN]; exact L.nd
  have hk : X0.env.scope.kind = .function := by rw [L.eS]; exact L.kd
  cases tg <;> first | (cases h; done) | skip
  · rename_i y py
    cases t with
    | tp ts => cases h
    | nm i =>
      unfold setB at h
      dsimp only at h
      simp only [Bool.and_eq_true] at h
      obtain ⟨⟨⟨h1, h2⟩, h3⟩, h4⟩ := h
      obtain ⟨h5, h6⟩ := tg_of L h2
      cases hc : isComp v with
      | false => exact ok_set hN (at_of L h1) h5 (E.ok e L h3) (sw_no hc) h6
      | true =>
        rw [hc] at h4
        cases v <;> first | (cases h4; done) | (cases hc; done) | skip
        rename_i elt gs scope p
        obtain ⟨b, hb, hl⟩ := sw_comp (elt := elt) (gs := gs) (scope := scope) (pos := p) (py := py) (y := y) (l := pos.line) hk
        cases b with
        | false => exact ok_set hN (at_of L h1) h5 (E.ok e L h3) hb h6
        | true =>
          obtain ⟨vs, it, tt, o, a, rfl⟩ := lc_only h3
          unfold E.chk at h3
          split at h3 <;> first | (cases h3; done) | skip
          rename_i x elt' tg it' ifs asy scope' pos' heq
          cases heq
          simp only [Bool.and_eq_true] at h3
          obtain ⟨⟨⟨⟨⟨⟨⟨g1, g2⟩, g3⟩, g4⟩, g5⟩, g6⟩, g7⟩, g8⟩ := h3
          have e1 := beq_iff_eq.mp g1
          subst e1
          have B := blkB_ok g2
          have hk2 := B.kind
          rw [E.den_lc]
          have := ok_setLc (X0 := X0) (G := G) (own := ownOf N vs) (sl := tt.sl) (src := it.den cl) (g := tt.den) (t := o.den cl) (e := a.den cl) (pos := p) (spos := pos) (py := py) L.calm hN (at_of L h1) (hl rfl) hb (I.ok it L g3) (by rw [L.eN, L.eS]; exact B) (by rw [own_snd]; exact sl_mem g6)
            (fun s H C c fp => ⟨Tg.ok tt (L.blk hk2 s H C c fp) g5, OT.ok o (L.blk hk2 s H C c fp) g7, E.ok a (L.blk hk2 s H C c fp) g8⟩) (set_of g4)
          rw [own_snd] at this
          exact this
  · rename_i es kk p
    cases t with
    | nm i => cases h
    | tp ts =>
      unfold setB at h
      dsimp only at h
      simp only [Bool.and_eq_true] at h
      obtain ⟨⟨h1, h2⟩, h3⟩ := h
      have he := E.ok e L h1
      have ht := Tg.ok (.tp ts) L h2
      cases hv : isTup v with
      | false => exact ok_asg he ht rfl sw_tup (st_none hv)
      | true =>
        cases v <;> first | (cases hv; done) | skip
        rename_i vs k2 p2
        dsimp only at h3
        cases hs : swS sc es vs with
        | none => rw [hs] at h3; cases h3
        | some o =>
          rw [hs] at h3
          have hw : swappedStores [.Tuple es kk p] (.Tuple vs k2 p2) X0.env = pure o := swS_ok hk (by rw [L.eS]; exact hs)
          cases o with
          | none => exact ok_asg he ht rfl sw_tup hw
          | some names =>
            dsimp only at h3
            unfold parB at h3
            split at h3 <;> first | (cases h3; done) | skip
            · rename_i l i j x px y py a b
              simp only [Bool.and_eq_true] at h3
              obtain ⟨⟨⟨q1, q2⟩, q3⟩, q4⟩ := h3
              have e1 := beq_iff_eq.mp q1
              subst e1
              have hij : i ≠ j := fun e => by
                subst e
                simp at q2
              simp only [Tg.chk, Tgs.chk, Bool.and_eq_true] at h2
              exact ok_par2 L.calm hN (at_of L h2.2.1.1.1) (at_of L h2.2.2.1.1.1) hij (loc_of L q3) (loc_of L q4) (Dv.L.ok l L h1).1 hw
            · rename_i l i j m x px y py z pz a b c
              simp only [Bool.and_eq_true] at h3
              obtain ⟨⟨⟨⟨⟨⟨q1, q2⟩, q3⟩, q4⟩, q5⟩, q6⟩, q7⟩ := h3
              have e1 := beq_iff_eq.mp q1
              subst e1
              have d : ∀ {a b : Nat}, (!(a == b)) = true → a ≠ b := fun {a b} h e => by
                subst e
                simp at h
              simp only [Tg.chk, Tgs.chk, Bool.and_eq_true] at h2
              exact ok_par3 L.calm hN (at_of L h2.2.1.1.1) (at_of L h2.2.2.1.1.1) (at_of L h2.2.2.2.1.1.1) (d q2) (d q3) (d q4) (loc_of L q5) (loc_of L q6) (loc_of L q7) (Dv.L.ok l L h1).1 hw
mutual
theorem S.ok : ∀ (t : S) {x : Stmt}, Lay G tb cl k N sc raw X0 → t.chk tb N sc raw x = true → OkZ G noW X0 x (t.den cl)
  | .set e t, x, L, h => by
    unfold S.chk at h
    split at h <;> first | (cases h; done) | skip
    exact set_ok L h
  | .ret e, x, L, h => by
    unfold S.chk at h
    split at h <;> first | (cases h; done) | skip
    exact ok_ret (E.ok e L h)
  | .retN, x, L, h => by
    unfold S.chk at h
    split at h <;> first | (cases h; done) | skip
    exact ok_retN
  | .run e, x, L, h => by
    unfold S.chk at h
    split at h <;> first | (cases h; done) | skip
    obtain ⟨h1, h2⟩ := Bool.and_eq_true_iff.mp h
    exact ok_do (E.ok e L h2) (sw_no (not_of h1))
  | .pass, x, L, h => by
    unfold S.chk at h
    split at h <;> first | (cases h; done) | skip
    · exact ok_pass
    · exact ok_doc
  | .brk, x, L, h => by
    unfold S.chk at h
    split at h <;> first | (cases h; done) | skip
    exact ok_brk
  | .cnt, x, L, h => by
    unfold S.chk at h
    split at h <;> first | (cases h; done) | skip
    exact ok_cnt
  | .bad, x, L, h => ok_badZ
  | .ifs t a b, x, L, h => by
    unfold S.chk at h
    split at h <;> first | (cases h; done) | skip
    simp only [Bool.and_eq_true] at h
    obtain ⟨⟨h1, h2⟩, h3⟩ := h
    exact ok_ifS (T.ok t L h1) (Ss.ok a L h2) (Ss.ok b L h3)
  | .whl t b, x, L, h => by
    unfold S.chk at h
    split at h <;> first | (cases h; done) | skip
    obtain ⟨h1, h2⟩ := Bool.and_eq_true_iff.mp h
    exact ok_while (by rw [L.xe]; exact PassesOwn.never) (T.ok t L h1) (Ss.ok b L h2)
  | .fr i t b, x, L, h => by
    unfold S.chk at h
    split at h <;> first | (cases h; done) | skip
    simp only [Bool.and_eq_true] at h
    obtain ⟨⟨⟨h1, h2⟩, h3⟩, h4⟩ := h
    exact ok_for (by rw [L.xe]; exact PassesOwn.never) L.calm (I.ok i L h1) (Tg.ok t L h3) (Ss.ok b L h4) (set_of h2)
  | .aug i op e, x, L, h => by
    unfold S.chk at h
    split at h <;> first | (cases h; done) | skip
    simp only [Bool.and_eq_true, decide_eq_true_eq] at h
    obtain ⟨⟨⟨rfl, h1⟩, h2⟩, h3⟩ := h
    obtain ⟨h5, h6⟩ := tg_of L h2
    exact ok_aug (by rw [L.eN]; exact L.nd) (at_of L h1) h5 (E.ok e L h3) h6
  | .put a i e, x, L, h => by
    unfold S.chk at h
    split at h <;> first | (cases h; done) | skip
    simp only [Bool.and_eq_true] at h
    obtain ⟨⟨⟨h1, h2⟩, h3⟩, h4⟩ := h
    exact ok_put (by have := L.units; omega) h1 (E.ok a L h2) (E.ok i L h3) (E.ok e L h4)
theorem Ss.ok : ∀ (t : Ss) {es : List Stmt}, Lay G tb cl k N sc raw X0 → t.chk tb N sc raw es = true → OkZs G noW X0 es (t.den cl)
  | .nil, es, L, h => by
    cases es with
    | nil => exact ok_nilZ
    | cons _ _ => cases h
  | .one s, es, L, h => by
    unfold Ss.chk at h
    split at h <;> first | (cases h; done) | skip
    exact ok_oneZ (S.ok s L h)
  | .cons s r, es, L, h => by
    cases es with
    | nil => cases h
    | cons e es =>
      obtain ⟨h1, h2⟩ := Bool.and_eq_true_iff.mp h
      exact ok_consZ (S.ok s L h1) (Ss.ok r L h2)
end
end
end
end Dv
/-! Dv22: all functions of a text at once; a law's verdict from the evaluator's. -/
namespace Dv
noncomputable section
open PySem L2 PyProof.Rows
/-- a function: by its text (np parameters, ns names), or by what it does -/
inductive Ent where
  | df (np ns : Nat) (b : Ss) | sp (np : Nat) (f : List MV → MH → R MV)
/-- what the functions do, calls at most k deep -/
def clN (tab : List Ent) (k : Nat) : Cl := Nat.rec (motive := fun _ => Cl) (fun _ _ _ => .bad) (fun _ ih g xs m => match tab[g]? with
  | some (.df np ns b) => callD np ns (b.den ih) xs m
  | some (.sp _ f) => f xs m
  | none => .bad) k
theorem clN_succ (tab : List Ent) (k g : Nat) (xs : List MV) (m : MH) : clN tab (k + 1) g xs m = match tab[g]? with
  | some (.df np ns b) => callD np ns (b.den (clN tab k)) xs m
  | some (.sp _ f) => f xs m
  | none => .bad := rfl
/-- the function of number g keeps its promise -/
def FnAt0 (G : Gl) (f : List MV → MH → R MV) (k : Nat) (P : Program) (w : World) (mg : Str → Option Value) (base : Heap) (x : Str) (np : Nat) : Prop :=
  ∃ (a : Addr) (fd : FuncData) (ps : List Str), FnG P w G.K mg base CX0 k a fd ps (spE G np f) ∧ mg x = some (.ref a) ∧ PySem.W.keepIn G.K (.ref a) = true ∧ Binds G.K fd ps [] ∧ ∀ xs m, xs.length ≠ np → f xs m = .bad
/-- a def of the text, found at the head, beside its own text -/
def DefOk (K : PySem.W.Frag) (mg : Str → Option Value) (tb : Tb) (x : Str) (np ns : Nat) (b : Ss) : Prop :=
  ∃ (qual : Str) (params : Arguments) (body : List Stmt) (scope : Scope) (f : Addr) (fd : FuncData) (N ps : List Str), FunD K x qual params body scope [] [] f fd ∧ mg x = some (.ref f) ∧ FnScope N ps scope ∧ ps.length = np ∧ N.length = ns ∧ Binds K fd ps [] ∧ b.chk tb N scope none body = true
structure Prog (G : Gl) (P : Program) (w : World) (mg : Str → Option Value) (base : Heap) (tb : Tb) (tab : List Ent) (c0 : Nat) : Prop where
  one : ∀ (g : Nat) (x : Str) (np : Nat), tb.fns[g]? = some (x, np) → x ≠ ("" : Str) → (∃ (ns : Nat) (b : Ss), tab[g]? = some (Ent.df np ns b) ∧ DefOk G.K mg tb x np ns b) ∨ ∃ f : List MV → MH → R MV, tab[g]? = some (Ent.sp np f) ∧ FnAt0 G f c0 P w mg base x np
  gv : ∀ p ∈ tb.gv, ∃ (u : Value) (w : V), mg p.1 = some u ∧ RelV w u ∧ ∀ r n H, RV G r n H p.2 w
  fr : ∀ x ∈ tb.fr, mg x = none
theorem FnAt0.up {G : Gl} {f : List MV → MH → R MV} {k j : Nat} {P : Program} {w : World} {mg : Str → Option Value} {base : Heap} {x : Str} {np : Nat} (h : FnAt0 G f k P w mg base x np) (hk : k ≤ j) : FnAt0 G f j P w mg base x np := by
  obtain ⟨a, fd, ps, F, r⟩ := h
  exact ⟨a, fd, ps, F.up hk, r⟩
/-- nothing is promised -/
theorem FnG.none {P : Program} {w : World} {K : PySem.W.Frag} {mg : Str → Option Value} {base : Heap} {CX : CXT} {k : Nat} {f : Addr} {fd : FuncData} {ps : List Str} {G : Gl} {np : Nat} : FnG P w K mg base CX k f fd ps (spE G np fun _ _ => .bad) where
  len := fun vs H Q E h => by
    obtain ⟨_, r, m, xs, _, _, g⟩ := h
    exact g.elim
  go := fun A out st H args us vs Q E _ _ _ _ h => by
    obtain ⟨_, r, m, xs, _, _, g⟩ := h
    exact g.elim
theorem prog_ok {G : Gl} {P : Program} {w : World} {mg : Str → Option Value} {base : Heap} {tb : Tb} {tab : List Ent} {c0 : Nat} (R : Prog G P w mg base tb tab c0) : ∀ (k g : Nat) (x : Str) (np : Nat), tb.fns[g]? = some (x, np) → x ≠ ("" : Str) → FnAt0 G (clN tab k g) (c0 + k) P w mg base x np
  | 0, g, x, np, h, hx => by
    rcases R.one g x np h hx with ⟨ns, b, ht, qual, params, body, scope, f, fd, N, ps, F, hm, S, hp, hN, hb, hc⟩ | ⟨f, ht, a, fd, ps, F, hm, hk, hb, hl⟩
    · exact ⟨f, fd, ps, FnG.none, hm, F.kp, hb, fun _ _ _ => rfl⟩
    · exact ⟨a, fd, ps, FnG.none, hm, hk, hb, fun _ _ _ => rfl⟩
  | k + 1, g, x, np, h, hx => by
    rcases R.one g x np h hx with ⟨ns, b, ht, qual, params, body, scope, f, fd, N, ps, F, hm, S, hp, hN, hb, hc⟩ | ⟨f, ht, F⟩
    · have e : clN tab (k + 1) g = callD np ns (b.den (clN tab k)) := by
        funext xs m
        rw [clN_succ, ht]
      rw [e]
      refine ⟨f, fd, ps, ?_, hm, F.kp, hb, fun xs m h => callD_len h⟩
      refine fn_G (k := c0 + k) F S (fun vs H Q E h => h.1.trans hp.symm) fun cdv A out st H vs Q E hr h => ?_
      subst hN
      refine ⟨tZ G noW (b.den (clN tab k)), PSs.nox (Ss.ok b (G := G) (tb := tb) (k := c0 + k) (N := N) (sc := scope) (raw := Option.none) ?_ hc), body_at h⟩
      exact ⟨rfl, rfl, S.nd, rfl, S.kind, rfl, hr, fun _ _ => rfl, rfl, fun g x np h hx => prog_ok R k g x np h hx, R.gv, R.fr⟩
    · have e : clN tab (k + 1) g = f := by
        funext xs m
        rw [clN_succ, ht]
      rw [e]
      exact F.up (by omega)
/-! ### a function that is right at a pot, told to others by that alone -/
def m0 (sn : List Int) : MH := ⟨1, [], [.pot 0], sn⟩
/-- right: true at every pot -/
def rightV (xs : List MV) (m : MH) : R MV := match xs with
  | [.ref i] => match m.get i with
    | some (.pot 0) => .ok (.bl true) (m.wr i .gone .non)
    | _ => .bad
  | _ => .bad
theorem pot_at {G : Gl} {r : Nat → Addr} {n k : Nat} {H : Hp} {a : Addr} (h : RO G r n H (.pot k) a) : ∃ xs, H a = some (.lst xs) := by
  obtain ⟨x, y, z, e, _⟩ := h
  exact ⟨_, e⟩
/-- few draws have been made of a pot -/
def isPot (m : MH) : Bool := match m.get 0 with
  | some (.pot _) => true
  | _ => false
end
end Dv
/-! DvE: the evaluator's steps, one by one, as equations. -/
namespace Dv
noncomputable section
open PySem L2 PyProof.Rows
section
variable {α β : Type} {cl : Cl} {s s1 : St} {m m1 : MH} {v x y : MV}
theorem bind_ok {a : α} {f : α → MH → R β} : (R.ok a m).bind f = f a m := rfl
theorem bind_exc {c : Nat} {f : α → MH → R β} : (R.exc c v m : R α).bind f = .exc c v m := rfl
theorem bind_cho {n : Nat} {k : Nat → R α} {f : α → MH → R β} : (R.cho n k).bind f = .cho n fun i => (k i).bind f := rfl
theorem bind_bad {f : α → MH → R β} : (R.bad : R α).bind f = .bad := rfl
theorem bind_bind {γ : Type} {f : α → MH → R β} {g : β → MH → R γ} : ∀ {r : R α}, (r.bind f).bind g = r.bind fun a m => (f a m).bind g
  | .ok _ _ => rfl
  | .exc _ _ _ => rfl
  | .cho n k => by
    rw [bind_cho, bind_cho, bind_cho]
    congr 1
    funext i
    exact bind_bind
  | .bad => rfl
theorem xLoc_eq {i : Nat} (h : s[i]? = some (some v)) : xLoc i s m = .ok v m := by
  unfold xLoc
  rw [h]
theorem xLoc_0 : xLoc 0 (some v :: s) m = .ok v m := rfl
theorem xLoc_s {i : Nat} {a : Option MV} : xLoc (i + 1) (a :: s) m = xLoc i s m := rfl
theorem xC_eq : xC v s m = .ok v m := rfl
theorem xBin_eq {f : MV → MV → MH → R MV} {a b : X} : xBin f a b s m = (a s m).bind fun x m1 => (b s m1).bind fun y m2 => f x y m2 := rfl
theorem x1_eq {f : MV → MH → R MV} {a : X} : x1 f a s m = (a s m).bind f := rfl
theorem xA_eq {f : List MV → MH → R MV} {a : XS} : xA f a s m = (a s m).bind f := rfl
theorem xArg0_eq : xArg0 s m = .ok [] m := rfl
theorem xArgC_eq {f : X} {k : XS} : xArgC f k s m = (f s m).bind fun x m1 => (k s m1).bind fun xs m2 => .ok (x :: xs) m2 := rfl
theorem xChn_eq {f g : MV → MV → MH → R MV} {a b c : X} : xChn f g a b c s m = (a s m).bind fun x m1 => (b s m1).bind fun y m2 => (f x y m2).bind fun z m3 => (asB z m3).bind fun t m4 => match t with
  | true => (c s m4).bind fun u m5 => g y u m5
  | false => .ok (.bl false) m4 := rfl
theorem asB_eq {b : Bool} : asB (.bl b) m = .ok b m := rfl
theorem xB_eq {a : X} : xB a s m = (a s m).bind asB := rfl
theorem xTru_eq {a : X} : xTru a s m = (a s m).bind truV := rfl
theorem xNotT_eq {t : XB} : xNotT t s m = (t s m).bind fun b m1 => .ok (!b) m1 := rfl
theorem xNot_eq {a : X} : xNot a s m = (a s m).bind fun v m1 => (truV v m1).bind fun b m2 => .ok (.bl (!b)) m2 := rfl
theorem xIf_eq {t : XB} {a b : X} : xIf t a b s m = (t s m).bind fun c m1 => if c then a s m1 else b s m1 := rfl
theorem bopC_eq {w : Bool} {f k : X} : bopC w f k s m = (f s m).bind fun x m1 => (truV x m1).bind fun b m2 => match b == w with
  | true => k s m2
  | false => .ok x m2 := rfl
theorem bopTC_eq {w : Bool} {f k : XB} : bopTC w f k s m = (f s m).bind fun b m2 => match b == w with
  | true => k s m2
  | false => .ok b m2 := rfl
theorem xSl_eq {a : X} {lo hi : XO} : xSl a lo hi s m = (a s m).bind fun x m1 => (lo s m1).bind fun l m2 => (hi s m2).bind fun h m3 => slV x l h m3 := rfl
theorem xPart0_eq : xPart Option.none s m = .ok Option.none m := rfl
theorem xPart1_eq {f : X} : xPart (Option.some f) s m = (f s m).bind asI := rfl
theorem asI_eq {i : Int} : asI (.int i) m = .ok (some i) m := rfl
theorem xMeth_eq {ty : MV → MH → Bool} {f : MV → List MV → MH → R MV} {o : X} {a : XS} : xMeth ty f o a s m = (o s m).bind fun x m1 => if ty x m1 then (a s m1).bind fun xs m2 => f x xs m2 else .bad := rfl
theorem xSrc_eq {a : X} : xSrc a s m = (a s m).bind srcV := rfl
theorem xI_eq {f : List MV → MH → R Src} {a : XS} : xI f a s m = (a s m).bind f := rfl
theorem xSet_eq {e : X} {g : XG} : xSet e g s m = (e s m).bind fun v m1 => (g v s m1).bind fun s1 m2 => .ok (.nx s1) m2 := rfl
theorem xRet_eq {e : X} : xRet e s m = (e s m).bind fun v m1 => .ok (.rt v) m1 := rfl
theorem xRetN_eq : xRetN s m = .ok (.rt .non) m := rfl
theorem xDo_eq {e : X} : xDo e s m = (e s m).bind fun _ m1 => .ok (.nx s) m1 := rfl
theorem xPass_eq : xPass s m = .ok (.nx s) m := rfl
theorem xBadZ_eq : xBadZ s m = .bad := rfl
theorem xSeq_eq {a b : XZ} : xSeq a b s m = (a s m).bind fun fl m1 => match fl with
  | .nx s1 => b s1 m1
  | .rt v => .ok (.rt v) m1
  | .bk s1 => .ok (.bk s1) m1
  | .ct s1 => .ok (.ct s1) m1 := rfl
theorem xIfS_eq {t : XB} {a b : XZ} : xIfS t a b s m = (t s m).bind fun c m1 => match c with
  | true => a s m1
  | false => b s m1 := rfl
theorem xPr0_eq : xPr0 s m = .ok [] m := rfl
theorem xPrC_eq {f g : X} {k : XP} : xPrC f g k s m = (f s m).bind fun x m1 => (g s m1).bind fun y m2 => (k s m2).bind fun ps m3 => .ok ((x, y) :: ps) m3 := rfl
theorem xDct_eq {a : XP} : xDct a s m = (a s (m.push (.dct false []))).bind fun ps m1 => mkDct m.n ps m1 := rfl
theorem xPut_eq {a i e : X} : xPut a i e s m = (e s m).bind fun v m1 => (a s m1).bind fun o m2 => (i s m2).bind fun k m3 => (putV o k v m3).bind fun _ m4 => .ok (.nx s) m4 := rfl
theorem xFor_eq {src : XI} {g : XG} {b : XZ} : xFor src g b s m = (src s m).bind fun sr m1 => loopV g b (sr.size m1 + 1) sr s m1 := rfl
theorem gNm_eq {i : Nat} : gNm i v s m = .ok (s.set i (some v)) m := rfl
theorem gsNil_eq : gsNil [] s m = .ok s m := rfl
theorem gsCons_eq {f : XG} {k : XGs} {xs : List MV} : gsCons f k (x :: xs) s m = (f x s m).bind fun s1 m1 => k xs s1 m1 := rfl
theorem gTpT_eq {n : Nat} {k : XGs} {xs : List MV} (h : xs.length = n) : gTp n k (.tup xs) s m = k xs s m := by
  unfold gTp
  dsimp only
  rw [if_pos h]
theorem gTpL_eq {n i : Nat} {k : XGs} {xs : List MV} (e : m.get i = some (.lst xs)) (h : xs.length = n) : gTp n k (.ref i) s m = k xs s m := by
  unfold gTp
  dsimp only
  rw [e]
  dsimp only
  rw [if_pos h]
/-! ### operators -/
section
variable {i j : Int}
theorem addI : binV .Add (.int i) (.int j) m = .ok (.int (i + j)) m := rfl
theorem subI : binV .Sub (.int i) (.int j) m = .ok (.int (i - j)) m := rfl
theorem mulI (h : small i = true ∨ small j = true) : binV .Mult (.int i) (.int j) m = .ok (.int (i * j)) m := if_pos (Bool.or_eq_true_iff.mpr h)
theorem modI (h : 0 < j) : binV .Mod (.int i) (.int j) m = .ok (.int (i % j)) m := if_pos h
theorem divI (h : 0 < j ∧ j < 1073741824) : binV .FloorDiv (.int i) (.int j) m = .ok (.int (i / j)) m := if_pos h
theorem powI (h : 0 ≤ j ∧ j ≤ 10000 ∧ i.natAbs < wide) : binV .Pow (.int i) (.int j) m = .ok (.int (i ^ j.toNat)) m := if_pos ⟨h.1, h.2.1, Nat.ble_eq.mpr h.2.2⟩
theorem addS {a b : List Nat} (h : a.length + b.length ≤ big) : binV .Add (.str a) (.str b) m = .ok (.str (a ++ b)) m := if_pos (Nat.ble_eq.mpr h)
theorem addT {a b : List MV} (h : a.length + b.length ≤ big) : binV .Add (.tup a) (.tup b) m = .ok (.tup (a ++ b)) m := if_pos (Nat.ble_eq.mpr h)
theorem gtI : cmpV .Gt (.int i) (.int j) m = .ok (.bl (decide (j < i))) m := rfl
theorem ltI : cmpV .Lt (.int i) (.int j) m = .ok (.bl (decide (i < j))) m := rfl
theorem leI : cmpV .LtE (.int i) (.int j) m = .ok (.bl (decide (i ≤ j))) m := rfl
theorem geI : cmpV .GtE (.int i) (.int j) m = .ok (.bl (decide (j ≤ i))) m := rfl
theorem eqI : cmpV .Eq (.int i) (.int j) m = .ok (.bl (i == j)) m := rfl
theorem neI : cmpV .NotEq (.int i) (.int j) m = .ok (.bl (!(i == j))) m := rfl
theorem ixL {a k : Nat} {xs : List MV} (h : m.get a = some (.lst xs)) (h2 : ixOf xs.length i = some k) (h3 : xs[k]? = some v) : ixV (.ref a) (.int i) m = .ok v m := by
  unfold ixV
  dsimp only
  rw [h]
  dsimp only
  rw [h2, Option.bind_some, h3]
theorem ixT {k : Nat} {xs : List MV} (h2 : ixOf xs.length i = some k) (h3 : xs[k]? = some v) : ixV (.tup xs) (.int i) m = .ok v m := by
  unfold ixV
  dsimp only
  rw [h2, Option.bind_some, h3]
theorem intI : intV [.int i] m = .ok (.int i) m := rfl
theorem intB {b : Bool} : intV [.bl b] m = .ok (.int (if b then 1 else 0)) m := rfl
theorem mkLst_eq {xs : List MV} (h : xs.length ≤ big) : mkLst xs m = .ok (.ref m.n) (m.push (.lst xs)) := if_pos (Nat.ble_eq.mpr h)
theorem mkTup_eq {xs : List MV} (h : xs.length ≤ big) : mkTup xs m = .ok (.tup xs) m := if_pos (Nat.ble_eq.mpr h)
theorem putL {a k : Nat} {xs : List MV} (h : m.get a = some (.lst xs)) (h2 : ixOf xs.length i = some k) : putV (.ref a) (.int i) v m = .ok .non (m.wr a (.lst (xs.set k v)) v) := by
  unfold putV
  dsimp only
  rw [h]
  dsimp only
  rw [h2]
end
/-! ### calls -/
theorem callD_eq {np ns : Nat} {b : XZ} {xs : List MV} (h : xs.length = np) : callD np ns b xs m = callR m.n (b (frameV ns xs) m.enter) := by
  unfold callD
  rw [h, Nat.beq_refl]
theorem callR_rt {k : Nat} : callR k (.ok (.rt v) m) = fin k v m := rfl
theorem callR_nx {k : Nat} : callR k (.ok (.nx s) m) = fin k .non m := rfl
theorem callR_cho {k n : Nat} {f : Nat → R Fl} : callR k (.cho n f) = .cho n fun i => callR k (f i) := rfl
theorem callR_exc {k c : Nat} : callR k (.exc c v m) = .exc c v m.pop := rfl
theorem fin_in {k : Nat} {ls : List Nat} (h : m.lo = k :: ls) (hv : v.under k = true) : fin k v m = .ok v (m.cut k) := by
  unfold fin
  rw [h]
  dsimp only
  rw [Nat.beq_refl]
  dsimp only
  rw [hv]
theorem under_int {n : Nat} {i : Int} : MV.under n (.int i) = true := by
  rw [MV.under] <;> intros <;> contradiction
theorem under_bl {n : Nat} {b : Bool} : MV.under n (.bl b) = true := by
  rw [MV.under] <;> intros <;> contradiction
theorem under_str {n : Nat} {b : List Nat} : MV.under n (.str b) = true := by
  rw [MV.under] <;> intros <;> contradiction
theorem under_non {n : Nat} : MV.under n .non = true := by
  rw [MV.under] <;> intros <;> contradiction
end
end
end Dv
/-! Dv23: what a function does at one object alone, told of it in any heap; the draws. -/
namespace Dv
noncomputable section
open PySem L2 PyProof.Rows
section
variable {G : Gl} {r r' : Nat → Addr} {n' : Nat} {m : MH} {H H' : Hp}
/-- one object changed, nothing else of ours -/
theorem local_wd (w : Wd G r m H) {i : Nat} {o0 o : MO} (hi : m.get i = some o0) (up : Up (fun _ => r i) 1 H r' n' H') (ho : RO G r m.n H' o (r i)) (hu : ∀ l, o.under l = true) : Up r m.n H r m.n H' ∧ Wd G r (m.wr i o .non) H' := by
  have hl := get_lt hi
  have u2 : Up r m.n H r m.n H' := ⟨Nat.le_refl _, fun _ _ => rfl, up.tup, up.frz, up.xd, up.own, fun a x hr e hm => up.frm a x (fun _ _ => hr i hl) e hm, up.trk, fun j h1 h2 => absurd h2 (Nat.not_lt.mpr h1)⟩
  refine ⟨u2, ⟨?_, w.inj, fun j p e => ?_, lev_wr w.len w.lev hl hi fun l _ _ => hu l, u2.tp.scr w.scr, w.scE⟩⟩
  · show (m.os.set (m.n - 1 - i) _).length = m.n
    rw [List.length_set, w.len]
  · rw [get_wr m w.len hl] at e
    by_cases h : j = i
    · rw [if_pos h] at e
      cases e
      rw [h]
      exact ho
    · rw [if_neg h] at e
      exact (w.obj j p e).tp u2.tp fun x q hm => up.frm _ x (fun _ _ z => h (w.inj j i (get_lt e) hl z.symm)) q hm
/-- the heap of that object alone -/
theorem local_at (w : Wd G r m H) {i : Nat} {o : MO} (ho : RO G (fun _ => r i) 1 H o (r i)) : Wd G (fun _ => r i) ⟨1, [], [o], m.sc⟩ H where
  len := rfl
  inj := fun a b ha hb _ => by
    have ha : a < 1 := ha
    have hb : b < 1 := hb
    omega
  obj := fun a p e => by
    have ha : a < 1 := get_lt e
    have h0 : a = 0 := by omega
    subst h0
    have e : some o = some p := e
    cases e
    exact ho
  lev := fun l h => by cases h
  scr := w.scr
  scE := w.scE
end
theorem rvs_one {G : Gl} {r : Nat → Addr} {n : Nat} {H : Hp} {x : MV} {v : V} (h : RV G r n H x v) : RVs G r n H [x] [v] := RVs.cons h RVs.nil
/-- right, told of any heap -/
theorem right_ok {G : Gl} {f : List MV → MH → R MV} {k : Nat} {P : Program} {w : World} {mg : Str → Option Value} {base : Heap} {x : Str} (F : FnAt0 G f k P w mg base x 1)
    (ev : (f [.ref 0] (m0 G.sn)).All (fun v m => v = .bl true ∧ isPot m = true) fun _ _ _ => False) : FnAt0 G rightV k P w mg base x 1 := by
  obtain ⟨a, fd, ps, F, hm, hk, hb, hl⟩ := F
  refine ⟨a, fd, ps, F.imp fun vs H Q E h => ?_, hm, hk, hb, fun xs m h => ?_⟩
  · obtain ⟨h1, r, m, xs, w, p, g⟩ := h
    refine ⟨h1, ?_⟩
    match xs, p, g with
    | [.ref i], p, g =>
      obtain ⟨v, rfl, pv⟩ := rvs1 p
      rw [RV] at pv
      obtain ⟨hi, rfl⟩ := pv
      dsimp only [rightV] at g
      cases e : m.get i with
      | none => rw [e] at g; exact g.elim
      | some o =>
        rw [e] at g
        cases o <;> first | exact g.elim | skip
        rename_i c
        cases c with
        | succ c => exact g.elim
        | zero =>
          have ho : RO G (fun _ => r i) 1 H (.pot 0) (r i) := w.obj i _ e
          refine ⟨fun _ => r i, m0 G.sn, [.ref 0], by have := local_at w ho; rw [w.scE] at this; exact this, rvs_one (by rw [RV]; exact ⟨Nat.zero_lt_one, rfl⟩), ?_⟩
          refine ev.mono (fun v m' h r' H' up w' u pu => ?_) (fun _ _ _ h => h.elim)
          obtain ⟨rfl, hp⟩ := h
          have hg : ∃ l, H' (r i) = some (.lst l) := by
            unfold isPot at hp
            cases q : m'.get 0 with
            | none => rw [q] at hp; cases hp
            | some o =>
              rw [q] at hp
              cases o <;> first | (cases hp; done) | skip
              have := w'.obj 0 _ q
              rw [show r' 0 = r i from up.agr 0 (show 0 < (m0 G.sn).n from Nat.zero_lt_one)] at this
              exact pot_at this
          obtain ⟨u2, w2⟩ := local_wd w e up (show RO G r m.n H' .gone (r i) from hg) (fun _ => rfl)
          exact g r H' u2 w2 u pu
    | [], _, g => exact g.elim
    | [.non], _, g => exact g.elim
    | [.bl _], _, g => exact g.elim
    | [.int _], _, g => exact g.elim
    | [.str _], _, g => exact g.elim
    | [.tup _], _, g => exact g.elim
    | [.fn _], _, g => exact g.elim
    | [.scr], _, g => exact g.elim
    | x :: _ :: _, _, g => cases x <;> exact g.elim
  · match xs, h with
    | [], _ => rfl
    | [x], h => exact absurd rfl h
    | x :: _ :: _, _ => cases x <;> rfl
/-! ### the draws -/
/-- a draw of the numbers below n -/
def takeV (xs : List MV) (m : MH) : R MV := match xs with
  | [.ref i, .int n] => match m.get i with
    | some (.pot k) => match decide (0 < n) && decide (n < 1073741824) && Nat.blt k 1000000 with
      | true => .cho n.toNat fun j => .ok (.int (Int.ofNat j)) (m.wr i (.pot (k + 1)) .non)
      | false => .bad
    | _ => .bad
  | _ => .bad
def iE (i : Int) : E := .c (.int i)
def atE (i : Int) : E := .ix (.loc 0) (iE i)
def l1 (e : E) : L := .cons e .nil
/-- its text -/
def takeIR (c1 c2 c3 c4 c5 : Int) : Ss :=
  .cons (.ifs (.cmp .Gt (atE 0) (iE 0)) (.cons (.set (.bin .Mod (.blt .int (l1 (atE 0))) (.loc 1)) (.nm 2)) (.cons (.put (.loc 0) (iE 0) (.bin .FloorDiv (atE 0) (.loc 1))) (.one (.ret (.loc 2))))) .nil)
  (.cons (.put (.loc 0) (iE 2) (.bin .Add (atE 2) (iE 1)))
  (.cons (.set (.ix (.lst (.cons (iE 2147483647) (.cons (iE 2147483629) (.cons (iE 2147483587) (.cons (iE 2147483579) (.cons (iE 2147483563) .nil)))))) (.bin .Mod (.blt .int (l1 (atE 2))) (iE 5))) (.nm 3))
  (.cons (.set (.bin .Mod (.blt .int (l1 (.bin .Pow (.blt .int (l1 (.bin .Add (.bin .Add (atE 1) (.bin .Mult (.bin .Mult (iE c1) (atE 2)) (atE 2))) (iE c2)))) (iE 3)))) (.loc 3)) (.nm 4))
  (.one (.ret (.bin .Mod (.blt .int (l1 (.bin .FloorDiv (.bin .Mult (.loc 4) (.bin .Add (.bin .Mod (.blt .int (l1 (.loc 4))) (iE c3)) (.bin .Mult (iE c4) (atE 2)))) (iE c5)))) (.loc 1)))))))
def isInt01 (xs : List MV) : Bool := match xs with
  | [.int x, .int _, .int z] => decide (0 ≤ x) && decide (0 ≤ z)
  | _ => false
/-- what a draw leaves -/
structure Drew (n y z : Int) (v : MV) (m : MH) : Prop where
  ex : ∃ j x' z' : Int, 0 ≤ j ∧ j < n ∧ v = .int j ∧ m.get 0 = some (.lst [.int x', .int y, .int z']) ∧ 0 ≤ x' ∧ 0 ≤ z' ∧ z' ≤ z + 1
theorem small_of {i : Int} (h : -(2 ^ 63) ≤ i ∧ i < 2 ^ 63) : small i = true := by
  unfold small
  exact Nat.ble_eq.mpr (show i.natAbs + 1 ≤ 18446744073709551616 by omega)
theorem wide_of {i : Int} (h : -(2 ^ 63) ≤ i ∧ i < 2 ^ 63) : i.natAbs < wide := by
  refine (Nat.le_trans (show i.natAbs + 1 ≤ 2 ^ 64 by omega) (Nat.pow_le_pow_right (by decide) (by decide)))
section
variable {v a b c : MV} {lo : List Nat} {sn : List Int} {xs : List MV}
theorem r0 : ixV (.ref 0) (.int 0) ⟨1, lo, [.lst [a, b, c]], sn⟩ = .ok a ⟨1, lo, [.lst [a, b, c]], sn⟩ := rfl
theorem r1 : ixV (.ref 0) (.int 1) ⟨1, lo, [.lst [a, b, c]], sn⟩ = .ok b ⟨1, lo, [.lst [a, b, c]], sn⟩ := rfl
theorem r2 : ixV (.ref 0) (.int 2) ⟨1, lo, [.lst [a, b, c]], sn⟩ = .ok c ⟨1, lo, [.lst [a, b, c]], sn⟩ := rfl
theorem q0 : ixV (.ref 0) (.int 0) ⟨2, lo, [.lst xs, .lst [a, b, c]], sn⟩ = .ok a ⟨2, lo, [.lst xs, .lst [a, b, c]], sn⟩ := rfl
theorem q1 : ixV (.ref 0) (.int 1) ⟨2, lo, [.lst xs, .lst [a, b, c]], sn⟩ = .ok b ⟨2, lo, [.lst xs, .lst [a, b, c]], sn⟩ := rfl
theorem q2 : ixV (.ref 0) (.int 2) ⟨2, lo, [.lst xs, .lst [a, b, c]], sn⟩ = .ok c ⟨2, lo, [.lst xs, .lst [a, b, c]], sn⟩ := rfl
theorem p0 {i : Int} : putV (.ref 0) (.int 0) (.int i) ⟨1, [1], [.lst [a, b, c]], sn⟩ = .ok .non ⟨1, [1], [.lst [.int i, b, c]], sn⟩ := rfl
theorem p2 {i : Int} : putV (.ref 0) (.int 2) (.int i) ⟨1, [1], [.lst [a, b, c]], sn⟩ = .ok .non ⟨1, [1], [.lst [a, b, .int i]], sn⟩ := rfl
theorem z1 {i : Int} : fin 1 (.int i) ⟨1, [1], [.lst [a, b, c]], sn⟩ = .ok (.int i) ⟨1, [], [.lst [a, b, c]], sn⟩ := rfl
theorem z2 {i : Int} : fin 1 (.int i) ⟨2, [1], [.lst xs, .lst [a, b, c]], sn⟩ = .ok (.int i) ⟨1, [], [.lst [a, b, c]], sn⟩ := rfl
theorem l5 : mkLst [.int 2147483647, .int 2147483629, .int 2147483587, .int 2147483579, .int 2147483563] ⟨1, lo, [.lst [a, b, c]], sn⟩ = .ok (.ref 1) ⟨2, lo, [.lst [.int 2147483647, .int 2147483629, .int 2147483587, .int 2147483579, .int 2147483563], .lst [a, b, c]], sn⟩ := rfl
theorem l5x {i : Int} (h : i = 0 ∨ i = 1 ∨ i = 2 ∨ i = 3 ∨ i = 4) : ∃ p : Int, 0 < p ∧ p < 2147483648 ∧ ixV (.ref 1) (.int i) ⟨2, lo, [.lst [.int 2147483647, .int 2147483629, .int 2147483587, .int 2147483579, .int 2147483563], .lst [a, b, c]], sn⟩ = .ok (.int p) ⟨2, lo, [.lst [.int 2147483647, .int 2147483629, .int 2147483587, .int 2147483579, .int 2147483563], .lst [a, b, c]], sn⟩ := by
  rcases h with rfl | rfl | rfl | rfl | rfl
  · exact ⟨2147483647, by decide, by decide, rfl⟩
  · exact ⟨2147483629, by decide, by decide, rfl⟩
  · exact ⟨2147483587, by decide, by decide, rfl⟩
  · exact ⟨2147483579, by decide, by decide, rfl⟩
  · exact ⟨2147483563, by decide, by decide, rfl⟩
end
theorem take_ev {c1 c2 c3 c4 c5 : Int} (h1 : 0 ≤ c1 ∧ c1 < 1000000) (h2 : 0 ≤ c2 ∧ c2 < 1000000) (h3 : 0 < c3 ∧ c3 < 1000000) (h4 : 0 ≤ c4 ∧ c4 < 1000000) (h5 : 0 < c5 ∧ c5 < 1000000) {cl : Cl} {x y z n : Int} {sn : List Int} (hx : 0 ≤ x) (hy : 0 ≤ y ∧ y < 2305843009213693921) (hz : 0 ≤ z ∧ z < 1000000) (hn : 0 < n ∧ n < 1073741824) :
    (callD 2 5 ((takeIR c1 c2 c3 c4 c5).den cl) [.ref 0, .int n] ⟨1, [], [.lst [.int x, .int y, .int z]], sn⟩).All (Drew n y z) fun _ _ _ => False := by
  have mod : ∀ a : Int, 0 ≤ a % n ∧ a % n < n := fun a => ⟨Int.emod_nonneg a (by omega), Int.emod_lt_of_pos a hn.1⟩
  have fr : frameV 5 [.ref 0, .int n] = [some (.ref 0), some (.int n), none, none, none] := rfl
  have e0 : callD 2 5 ((takeIR c1 c2 c3 c4 c5).den cl) [.ref 0, .int n] ⟨1, [], [.lst [.int x, .int y, .int z]], sn⟩ = callR 1 ((takeIR c1 c2 c3 c4 c5).den cl (frameV 5 [.ref 0, .int n]) ⟨1, [1], [.lst [.int x, .int y, .int z]], sn⟩) := rfl
  by_cases hp : 0 < x
  · have hd : decide (0 < x) = true := decide_eq_true hp
    have e : callD 2 5 ((takeIR c1 c2 c3 c4 c5).den cl) [.ref 0, .int n] ⟨1, [], [.lst [.int x, .int y, .int z]], sn⟩ = .ok (.int (x % n)) ⟨1, [], [.lst [.int (x / n), .int y, .int z]], sn⟩ := by
      rw [e0]
      simp only [takeIR, Ss.den_cons, Ss.den_one, Ss.den_nil, S.den_set, S.den_ret, S.den_put, S.den_ifs, T.den_cmp, E.den_loc, E.den_c, E.den_bin, E.den_ix, E.den_blt, E.den_lst, L.den_nil, L.den_cons, Tg.den_nm, atE, iE, l1, xSeq_eq, xIfS_eq, xB_eq, xBin_eq, xA_eq, xArg0_eq, xArgC_eq, xC_eq, xSet_eq, xRet_eq, xPut_eq, gNm_eq, xPass_eq, bind_ok, Bf.f, intI, gtI, asB_eq, addI, fr, xLoc_0, xLoc_s, List.set_cons_zero, List.set_cons_succ, r0, r1, r2, q0, q1, q2, p0, p2, hd, modI, divI, mulI, powI, hn.1, hn.2, and_self, callR_rt, z1]
    rw [e]
    exact ⟨x % n, x / n, z, (mod x).1, (mod x).2, rfl, rfl, Int.ediv_nonneg hx (by omega), hz.1, by omega⟩
  · have hd : decide (0 < x) = false := decide_eq_false hp
    have zz : (z + 1) * (z + 1) ≤ 1000000 * 1000000 := Int.mul_le_mul (by omega) (by omega) (by omega) (by omega)
    have zz0 : 0 ≤ (z + 1) * (z + 1) := Int.mul_nonneg (by omega) (by omega)
    have czz : c1 * ((z + 1) * (z + 1)) ≤ 1000000 * (1000000 * 1000000) := Int.mul_le_mul (by omega) zz zz0 (by omega)
    have czz0 : 0 ≤ c1 * ((z + 1) * (z + 1)) := Int.mul_nonneg h1.1 zz0
    have as : c1 * (z + 1) * (z + 1) = c1 * ((z + 1) * (z + 1)) := Int.mul_assoc _ _ _
    have s1 : small c1 = true := small_of (by omega)
    have s2 : small (z + 1) = true := small_of (by omega)
    have s4 : small c4 = true := small_of (by omega)
    have w1 : (y + c1 * (z + 1) * (z + 1) + c2).natAbs < wide := wide_of (by rw [as]; omega)
    have c5' : c5 < 1073741824 := by omega
    have k5 : (0 : Int) < 5 := by decide
    have k3 : (0 : Int) ≤ 3 := by decide
    have k30 : (3 : Int) ≤ 10000 := by decide
    obtain ⟨p, hp1, hp2, hpx⟩ := l5x (a := .int x) (b := .int y) (c := .int (z + 1)) (lo := [1]) (sn := sn) (i := (z + 1) % 5) (by omega)
    have s3 : small ((y + c1 * (z + 1) * (z + 1) + c2) ^ Int.toNat 3 % p) = true := small_of ⟨by have := Int.emod_nonneg ((y + c1 * (z + 1) * (z + 1) + c2) ^ Int.toNat 3) (show p ≠ 0 by omega); omega, by have := Int.emod_lt_of_pos ((y + c1 * (z + 1) * (z + 1) + c2) ^ Int.toNat 3) hp1; omega⟩
    have e : callD 2 5 ((takeIR c1 c2 c3 c4 c5).den cl) [.ref 0, .int n] ⟨1, [], [.lst [.int x, .int y, .int z]], sn⟩ = .ok (.int ((y + c1 * (z + 1) * (z + 1) + c2) ^ Int.toNat 3 % p * ((y + c1 * (z + 1) * (z + 1) + c2) ^ Int.toNat 3 % p % c3 + c4 * (z + 1)) / c5 % n)) ⟨1, [], [.lst [.int x, .int y, .int (z + 1)]], sn⟩ := by
      rw [e0]
      simp only [takeIR, Ss.den_cons, Ss.den_one, Ss.den_nil, S.den_set, S.den_ret, S.den_put, S.den_ifs, T.den_cmp, E.den_loc, E.den_c, E.den_bin, E.den_ix, E.den_blt, E.den_lst, L.den_nil, L.den_cons, Tg.den_nm, atE, iE, l1, xSeq_eq, xIfS_eq, xB_eq, xBin_eq, xA_eq, xArg0_eq, xArgC_eq, xC_eq, xSet_eq, xRet_eq, xPut_eq, gNm_eq, xPass_eq, bind_ok, Bf.f, intI, gtI, asB_eq, addI, fr, xLoc_0, xLoc_s, List.set_cons_zero, List.set_cons_succ, r0, r1, r2, q0, q1, q2, p0, p2, hd, modI, divI, mulI, powI, hn.1, hn.2, and_self, callR_rt, s1, s2, s3, s4, w1, h3.1, h5.1, c5', k5, k3, k30, l5, hpx, hp1, z2, true_or, or_true]
    rw [e]
    exact ⟨_, x, z + 1, (mod _).1, (mod _).2, rfl, rfl, hx, by omega, by omega⟩
theorem rv_intE {G : Gl} {r : Nat → Addr} {n : Nat} {H : Hp} {i : Int} {v : V} (h : RV G r n H (.int i) v) : v = .int i := by
  rw [RV] at h
  exact h
/-- draws, told of any heap -/
theorem take_ok {c1 c2 c3 c4 c5 : Int} (h1 : 0 ≤ c1 ∧ c1 < 1000000) (h2 : 0 ≤ c2 ∧ c2 < 1000000) (h3 : 0 < c3 ∧ c3 < 1000000) (h4 : 0 ≤ c4 ∧ c4 < 1000000) (h5 : 0 < c5 ∧ c5 < 1000000) {cl : Cl} {G : Gl} {k : Nat} {P : Program} {w : World} {mg : Str → Option Value} {base : Heap} {x : Str}
    (F : FnAt0 G (callD 2 5 ((takeIR c1 c2 c3 c4 c5).den cl)) k P w mg base x 2) : FnAt0 G takeV k P w mg base x 2 := by
  obtain ⟨a, fd, ps, F, hm, hk, hb, hl⟩ := F
  refine ⟨a, fd, ps, F.imp fun vs H Q E h => ?_, hm, hk, hb, fun xs m h => ?_⟩
  · obtain ⟨hv, r, m, xs, w, pp, g⟩ := h
    refine ⟨hv, ?_⟩
    unfold takeV at g
    split at g <;> first | exact g.elim | skip
    rename_i xs' m' i n
    obtain ⟨u, nv, rfl, pv, pn⟩ := rvs2 pp
    rw [RV] at pv
    obtain ⟨hi, rfl⟩ := pv
    have en := rv_intE pn
    subst en
    split at g <;> first | exact g.elim | skip
    rename_i c e
    split at g <;> first | exact g.elim | skip
    rename_i hc
    rw [Bool.and_eq_true, Bool.and_eq_true, decide_eq_true_eq, decide_eq_true_eq] at hc
    obtain ⟨⟨n1, n2⟩, n3⟩ := hc
    have n3 := Nat.le_of_ble_eq_true n3
    obtain ⟨x, y, z, hH, hx, hy, hy2, hz, hz2⟩ := w.obj i _ e
    have ev := take_ev h1 h2 h3 h4 h5 (cl := cl) (sn := G.sn) hx ⟨hy, hy2⟩ (show 0 ≤ z ∧ z < 1000000 by omega) ⟨n1, n2⟩
    have ho : RO G (fun _ => r i) 1 H (.lst [.int x, .int y, .int z]) (r i) := ⟨_, hH, RVs.cons rv_int (RVs.cons rv_int (RVs.cons rv_int RVs.nil))⟩
    refine ⟨fun _ => r i, ⟨1, [], [.lst [.int x, .int y, .int z]], G.sn⟩, [.ref 0, .int n], by have := local_at w ho; rw [w.scE] at this; exact this, RVs.cons (by rw [RV]; exact ⟨Nat.zero_lt_one, rfl⟩) (rvs_one rv_int), ?_⟩
    refine ev.mono (fun v m2 h r' H' up w' u pu => ?_) (fun _ _ _ h => h.elim)
    obtain ⟨j, x', z', j1, j2, rfl, q, qx, qz, qz2⟩ := h
    have hg : RO G r m.n H' (.pot (c + 1)) (r i) := by
      have := w'.obj 0 _ q
      rw [show r' 0 = r i from up.agr 0 Nat.zero_lt_one] at this
      obtain ⟨ws, hw, pw⟩ := this
      rw [RVs] at pw
      obtain ⟨a1, w1, rfl, b1, pw⟩ := pw
      obtain ⟨a2, a3, rfl, b2, b3⟩ := rvs2 pw
      rw [rv_intE b1, rv_intE b2, rv_intE b3] at hw
      exact ⟨x', y, z', hw, qx, hy, hy2, qz, by omega⟩
    obtain ⟨u2, w2⟩ := local_wd w e up hg (fun _ => rfl)
    have gj := g j.toNat (by omega)
    refine gj r H' u2 w2 u ?_
    rw [show (Int.ofNat j.toNat) = j from Int.toNat_of_nonneg j1]
    rw [rv_intE pu]
    exact rv_int
  · unfold takeV
    split <;> first | rfl | skip
    exact absurd rfl h
end
end Dv
/-! Dv24: a law's pots and cells. -/
namespace Dv
noncomputable section
open PySem L2 PyProof.Rows
section
variable {G : Gl} {r r0 r' : Nat → Addr} {n' : Nat} {m : MH} {H H' : Hp}
/-- nothing of ours -/
theorem empty_wd (w : Wd G r m H) : Wd G r ⟨0, [], [], G.sn⟩ H where
  len := rfl
  inj := fun i j hi _ _ => absurd hi (Nat.not_lt_zero _)
  obj := fun i o e => absurd (get_lt e) (Nat.not_lt_zero _)
  lev := fun l h => by cases h
  scr := w.scr
  scE := rfl
/-- one new object -/
theorem fresh_wd (w : Wd G r m H) {o : MO} (up : Up r0 0 H r' 1 H') (ho : RO G (ext r m.n (r' 0)) (m.n + 1) H' o (r' 0)) : Up r m.n H (ext r m.n (r' 0)) (m.n + 1) H' ∧ Wd G (ext r m.n (r' 0)) (m.push o) H' := by
  have ne : ∀ j, j < m.n → r j ≠ r' 0 := fun j hj e => by
    obtain ⟨u, hu⟩ := w.there hj
    have z := (up.new 0 (Nat.le_refl 0) Nat.zero_lt_one).2
    rw [← e, hu] at z
    cases z
  have u2 : Up r m.n H (ext r m.n (r' 0)) (m.n + 1) H' := ⟨Nat.le_succ _, fun i hi => ext_ne (Nat.ne_of_lt hi), up.tup, up.frz, up.xd, up.own, fun a x hr e hm => up.frm a x (fun _ h => absurd h (Nat.not_lt_zero _)) e hm, up.trk, fun i h1 h2 => by
    have e : i = m.n := by omega
    subst e
    rw [ext_eq]
    exact ⟨fun j hj e => ne j hj e.symm, (up.new 0 (Nat.le_refl 0) Nat.zero_lt_one).2⟩⟩
  refine ⟨u2, ⟨?_, fun i j hi hj e => ?_, fun i p e => ?_, lev_push w.len w.lev o, u2.tp.scr w.scr, w.scE⟩⟩
  · show m.os.length + 1 = m.n + 1
    rw [w.len]
  · have hi : i < m.n + 1 := hi
    have hj : j < m.n + 1 := hj
    by_cases h1 : i = m.n <;> by_cases h2 : j = m.n
    · rw [h1, h2]
    · rw [h1, ext_eq, ext_ne h2] at e
      exact absurd e.symm (ne j (by omega))
    · rw [h2, ext_eq, ext_ne h1] at e
      exact absurd e (ne i (by omega))
    · rw [ext_ne h1, ext_ne h2] at e
      exact w.inj i j (by omega) (by omega) e
  · rw [get_push m w.len] at e
    by_cases h1 : i = m.n
    · rw [if_pos h1] at e
      cases e
      rw [h1, ext_eq]
      exact ho
    · rw [if_neg h1] at e
      rw [ext_ne h1]
      exact (w.obj i p e).tp u2.tp fun x q hm => up.frm _ x (fun _ h => absurd h (Nat.not_lt_zero _)) q hm
end
/-! ### pots -/
def potV (xs : List MV) (m : MH) : R MV := match xs with
  | [.scr, .int p] => match decide (0 ≤ p) && decide (p < 64) with
    | true => .ok (.ref m.n) (m.push (.pot 0))
    | false => .bad
  | _ => .bad
def l2 (a b : E) : L := .cons a (.cons b .nil)
def potIR (c0 d0 c1 c2 c3 : Int) : Ss :=
  .cons (.set (.ife (.cmp .Lt (.loc 1) (.blt .len (l1 (.loc 0)))) (.ix (.loc 0) (.loc 1)) (.bin .Add (.bin .Mult (iE c0) (.loc 1)) (iE d0))) (.nm 2))
  (.cons (.set (.bin .Mult (.bin .Mod (.blt .int (l1 (.blt .abs (l1 (.loc 2))))) (.bin .Pow (.bin .Pow (iE 10) (iE 60)) (iE 5))) (.blt .int (l1 (.cmp .GtE (.blt .abs (l1 (.loc 2))) (.bin .Pow (iE 10) (iE 18)))))) (.nm 3))
  (.cons (.set (.bin .Mod (.blt .int (l1 (.loc 2))) (iE 2305843009213693951)) (.nm 4))
  (.one (.ret (.lst (.cons (.loc 3) (.cons (.bin .Mod (.blt .int (l1 (.bin .Add (.bin .Add (.bin .Mult (.loc 4) (iE c1)) (.bin .Mult (.bin .Mult (iE c2) (.loc 1)) (.loc 1))) (iE c3)))) (iE 2305843009213693921)) (.cons (iE 0) .nil))))))))
structure Potted (v : MV) (m : MH) : Prop where
  ex : ∃ x y : Int, v = .ref 0 ∧ m.n = 1 ∧ m.get 0 = some (.lst [.int x, .int y, .int 0]) ∧ 0 ≤ x ∧ 0 ≤ y ∧ y < 2305843009213693921
theorem pot_ev {c0 d0 c1 c2 c3 : Int} (h0 : 0 ≤ c0 ∧ c0 < 1000000) (h1 : 0 ≤ c1 ∧ c1 < 1000000) (h2 : 0 ≤ c2 ∧ c2 < 1000000) {cl : Cl} {p : Int} {sn : List Int} (hp : 0 ≤ p ∧ p < 64) :
    (callD 2 5 ((potIR c0 d0 c1 c2 c3).den cl) [.scr, .int p] ⟨0, [], [], sn⟩).All Potted fun _ _ _ => False := by
  have fr : frameV 5 [.scr, .int p] = [some .scr, some (.int p), none, none, none] := rfl
  have e0 : callD 2 5 ((potIR c0 d0 c1 c2 c3).den cl) [.scr, .int p] ⟨0, [], [], sn⟩ = callR 0 ((potIR c0 d0 c1 c2 c3).den cl (frameV 5 [.scr, .int p]) ⟨0, [0], [], sn⟩) := rfl
  have ln : lenV [.scr] ⟨0, [0], [], sn⟩ = .ok (.int sn.length) ⟨0, [0], [], sn⟩ := rfl
  have s0 : small c0 = true := small_of (by omega)
  have s1 : small c1 = true := small_of (by omega)
  have s2 : small c2 = true := small_of (by omega)
  have s3 : small p = true := small_of (by omega)
  have s5 : ∀ b : Bool, small (if b then 1 else 0) = true := fun b => by cases b <;> rfl
  have k1 : (0 : Int) < 2305843009213693951 := by decide
  have k2 : (0 : Int) < 2305843009213693921 := by decide
  have e1 : ∀ m, binV .Pow (.int 10) (.int 60) m = .ok (.int (10 ^ 60)) m := fun m => powI ⟨by decide, by decide, by decide +kernel⟩
  have e2 : ∀ m, binV .Pow (.int (10 ^ 60)) (.int 5) m = .ok (.int ((10 ^ 60) ^ 5)) m := fun m => powI ⟨by decide, by decide, by decide +kernel⟩
  have e3 : ∀ m, binV .Pow (.int 10) (.int 18) m = .ok (.int (10 ^ 18)) m := fun m => powI ⟨by decide, by decide, by decide +kernel⟩
  have e4 : ∀ {a : Int} {m}, binV .Mod (.int a) (.int ((10 ^ 60) ^ 5)) m = .ok (.int (a % (10 ^ 60) ^ 5)) m := fun {a m} => modI (by decide +kernel)
  have ab : ∀ {i : Int} {m : MH}, absV [.int i] m = .ok (.int (if i < 0 then -i else i)) m := rfl
  have z3 : ∀ {a b c : MV}, mkLst [a, b, c] ⟨0, [0], [], sn⟩ = .ok (.ref 0) ⟨1, [0], [.lst [a, b, c]], sn⟩ := rfl
  have cell : ∃ c : Int, ((E.ife (.cmp .Lt (.loc 1) (.blt .len (l1 (.loc 0)))) (.ix (.loc 0) (.loc 1)) (.bin .Add (.bin .Mult (iE c0) (.loc 1)) (iE d0))).den cl [some .scr, some (.int p), none, none, none] ⟨0, [0], [], sn⟩) = .ok (.int c) ⟨0, [0], [], sn⟩ := by
    by_cases h : p < (sn.length : Int)
    · have hd : decide (p < (sn.length : Int)) = true := decide_eq_true h
      have hx : ixOf sn.length p = some p.toNat := by
        unfold ixOf
        rw [if_pos hp.1, if_pos h]
      obtain ⟨c, hc⟩ : ∃ c, sn[p.toNat]? = some c := ⟨_, List.getElem?_eq_getElem (by omega)⟩
      have hr : ixV .scr (.int p) ⟨0, [0], [], sn⟩ = .ok (.int c) ⟨0, [0], [], sn⟩ := by
        unfold ixV
        dsimp only
        rw [hx, Option.bind_some, hc]
      refine ⟨c, ?_⟩
      simp only [E.den_ife, T.den_cmp, E.den_loc, E.den_blt, E.den_ix, L.den_nil, L.den_cons, l1, xIf_eq, xB_eq, xBin_eq, xA_eq, xArg0_eq, xArgC_eq, xLoc_0, xLoc_s, bind_ok, Bf.f, ln, ltI, hd, asB_eq, hr, if_true]
    · have hd : decide (p < (sn.length : Int)) = false := decide_eq_false h
      refine ⟨c0 * p + d0, ?_⟩
      simp only [E.den_ife, T.den_cmp, E.den_loc, E.den_blt, E.den_bin, E.den_c, iE, L.den_nil, L.den_cons, l1, xIf_eq, xB_eq, xBin_eq, xA_eq, xArg0_eq, xArgC_eq, xLoc_0, xLoc_s, xC_eq, bind_ok, Bf.f, ln, ltI, hd, asB_eq, if_false, Bool.false_eq_true, mulI, addI, s0, true_or]
  obtain ⟨c, hc⟩ := cell
  have e : ∃ x y : Int, 0 ≤ x ∧ 0 ≤ y ∧ y < 2305843009213693921 ∧ callR 0 ((potIR c0 d0 c1 c2 c3).den cl (frameV 5 [.scr, .int p]) ⟨0, [0], [], sn⟩) = fin 0 (.ref 0) ⟨1, [0], [.lst [.int x, .int y, .int 0]], sn⟩ := by
    refine ⟨(if c < 0 then -c else c) % (10 ^ 60) ^ 5 * (if decide ((10 : Int) ^ 18 ≤ if c < 0 then -c else c) then 1 else 0), (c % 2305843009213693951 * c1 + c2 * p * p + c3) % 2305843009213693921, ?_, Int.emod_nonneg _ (by decide), Int.emod_lt_of_pos _ k2, ?_⟩
    · have : ∀ b : Bool, (0 : Int) ≤ if b then 1 else 0 := fun b => by cases b <;> decide
      exact Int.mul_nonneg (Int.emod_nonneg _ (by decide +kernel)) (this _)
    · rw [fr]
      unfold potIR
      rw [Ss.den_cons, xSeq_eq, S.den_set, xSet_eq, hc]
      simp only [Ss.den_cons, Ss.den_one, S.den_set, S.den_ret, E.den_loc, E.den_c, E.den_bin, E.den_cmp, E.den_blt, E.den_lst, L.den_nil, L.den_cons, Tg.den_nm, iE, l1, xSeq_eq, xBin_eq, xA_eq, xArg0_eq, xArgC_eq, xC_eq, xSet_eq, xRet_eq, gNm_eq, bind_ok, Bf.f, intI, intB, geI, addI, xLoc_0, xLoc_s, List.set_cons_zero, List.set_cons_succ, e1, e2, e3, e4, ab, mulI, modI, s1, s2, s3, s5, true_or, or_true, k1, k2, z3, callR_rt]
  obtain ⟨x, y, hx, hy, hy2, e⟩ := e
  rw [e0, e]
  exact ⟨x, y, rfl, rfl, rfl, hx, hy, hy2⟩
theorem pot_ok {c0 d0 c1 c2 c3 : Int} (h0 : 0 ≤ c0 ∧ c0 < 1000000) (h1 : 0 ≤ c1 ∧ c1 < 1000000) (h2 : 0 ≤ c2 ∧ c2 < 1000000) {cl : Cl} {G : Gl} {k : Nat} {P : Program} {w : World} {mg : Str → Option Value} {base : Heap} {x : Str}
    (F : FnAt0 G (callD 2 5 ((potIR c0 d0 c1 c2 c3).den cl)) k P w mg base x 2) : FnAt0 G potV k P w mg base x 2 := by
  obtain ⟨a, fd, ps, F, hm, hk, hb, hl⟩ := F
  refine ⟨a, fd, ps, F.imp fun vs H Q E h => ?_, hm, hk, hb, fun xs m h => ?_⟩
  · obtain ⟨hv, r, m, xs, w, pp, g⟩ := h
    refine ⟨hv, ?_⟩
    unfold potV at g
    split at g <;> first | exact g.elim | skip
    rename_i xs' m' p
    split at g <;> first | exact g.elim | skip
    rename_i hc
    rw [Bool.and_eq_true, decide_eq_true_eq, decide_eq_true_eq] at hc
    obtain ⟨u, pv, rfl, pu, pp⟩ := rvs2 pp
    have ep := rv_intE pp
    subst ep
    rw [RV] at pu
    subst pu
    have ev := pot_ev h0 h1 h2 (d0 := d0) (c3 := c3) (cl := cl) (sn := G.sn) hc
    refine ⟨r, _, [.scr, .int p], empty_wd w, RVs.cons (by rw [RV]) (rvs_one rv_int), ?_⟩
    refine ev.mono (fun v m2 h r' H' up w' u pu => ?_) (fun _ _ _ h => h.elim)
    obtain ⟨x, y, rfl, hn, q, hx, hy, hy2⟩ := h
    have w0 := w'.obj 0 _ q
    have hg : ∀ r2 n2, RO G r2 n2 H' (.pot 0) (r' 0) := fun r2 n2 => by
      obtain ⟨ws, hw, pw⟩ := w0
      rw [RVs] at pw
      obtain ⟨a1, w1, rfl, b1, pw⟩ := pw
      obtain ⟨a2, a3, rfl, b2, b3⟩ := rvs2 pw
      rw [rv_intE b1, rv_intE b2, rv_intE b3] at hw
      exact ⟨x, y, 0, hw, hx, hy, hy2, Int.le_refl _, Int.le_refl _⟩
    rw [hn] at up
    obtain ⟨u2, w2⟩ := fresh_wd w up (o := .pot 0) (hg _ _)
    refine g _ H' u2 w2 u ?_
    rw [RV] at pu ⊢
    refine ⟨Nat.lt_succ_self _, ?_⟩
    rw [ext_eq]
    exact pu.2
  · unfold potV
    split <;> first | rfl | skip
    exact absurd rfl h
/-! ### cells -/
def cellsV (xs : List MV) (m : MH) : R MV := match xs with
  | [.scr, .int k] => match decide (0 < k) && decide (k < 64) with
    | true => .cho k.toNat fun j => newL (rngL 0 (j + 1)) m
    | false => .bad
  | _ => .bad
def cellsIR : Ss := .one (.ret (.lr1 (.blt .max (l2 (iE 1) (.blt .min (l2 (.loc 1) (.blt .len (l1 (.loc 0)))))))))
theorem unders_rng {n : Nat} : ∀ (k : Nat) (a : Int), MV.unders n (rngL a k) = true
  | 0, a => by rw [rngL, MV.unders]
  | k + 1, a => by rw [rngL, MV.unders, under_int, unders_rng k] <;> rfl
theorem cells_ev {cl : Cl} {k : Int} {sn : List Int} (hk : 0 < k ∧ k < 64) : ∃ j : Nat, j < k.toNat ∧ callD 2 2 (cellsIR.den cl) [.scr, .int k] ⟨0, [], [], sn⟩ = .ok (.ref 0) ⟨1, [], [.lst (rngL 0 (j + 1))], sn⟩ := by
  have fr : frameV 2 [.scr, .int k] = [some .scr, some (.int k)] := rfl
  have e0 : callD 2 2 (cellsIR.den cl) [.scr, .int k] ⟨0, [], [], sn⟩ = callR 0 (cellsIR.den cl (frameV 2 [.scr, .int k]) ⟨0, [0], [], sn⟩) := rfl
  have ln : lenV [.scr] ⟨0, [0], [], sn⟩ = .ok (.int sn.length) ⟨0, [0], [], sn⟩ := rfl
  have mx : ∀ {i j : Int} {m : MH}, maxV [.int i, .int j] m = .ok (.int (if j > i then j else i)) m := rfl
  have mn : ∀ {i j : Int} {m : MH}, minV [.int i, .int j] m = .ok (.int (if j < i then j else i)) m := rfl
  have lr : ∀ {j : Int} {m : MH}, lr1V (.int j) m = lrgV 0 j m := rfl
  let q : Int := if (if (sn.length : Int) < k then (sn.length : Int) else k) > 1 then (if (sn.length : Int) < k then (sn.length : Int) else k) else 1
  have hq : 1 ≤ q ∧ q ≤ k := by
    show 1 ≤ (if (if (sn.length : Int) < k then (sn.length : Int) else k) > 1 then (if (sn.length : Int) < k then (sn.length : Int) else k) else 1) ∧ (if (if (sn.length : Int) < k then (sn.length : Int) else k) > 1 then (if (sn.length : Int) < k then (sn.length : Int) else k) else 1) ≤ k
    split <;> split <;> omega
  have hl : lrgV 0 q ⟨0, [0], [], sn⟩ = .ok (.ref 0) ⟨1, [0], [.lst (rngL 0 q.toNat)], sn⟩ := by
    unfold lrgV
    have o1 : okR 0 = true := rfl
    have o2 : okR q = true := by
      unfold okR
      rw [decide_eq_true (by omega), decide_eq_true (by omega)] <;> rfl
    have o3 : Nat.ble (q - 0).toNat big = true := Nat.ble_eq.mpr (Nat.le_trans (show (q - 0).toNat ≤ 64 by omega) (by decide))
    rw [o1, o2, o3, Int.sub_zero]
    rfl
  refine ⟨q.toNat - 1, by omega, ?_⟩
  rw [e0, fr]
  have e : cellsIR.den cl [some .scr, some (.int k)] ⟨0, [0], [], sn⟩ = (lrgV 0 q ⟨0, [0], [], sn⟩).bind fun v m1 => .ok (.rt v) m1 := by
    simp only [cellsIR, Ss.den_one, S.den_ret, E.den_lr1, E.den_blt, E.den_loc, E.den_c, l2, l1, iE, L.den_nil, L.den_cons, xRet_eq, x1_eq, xA_eq, xArg0_eq, xArgC_eq, xC_eq, xLoc_0, xLoc_s, bind_ok, Bf.f, ln, mx, mn, lr]
    rfl
  rw [e, hl, bind_ok, callR_rt, show q.toNat - 1 + 1 = q.toNat by omega]
  unfold fin
  dsimp only
  rw [show MV.under 0 (.ref 0) = false by rw [MV.under]; rfl]
  dsimp only
  rw [show MH.get ⟨1, [0], [.lst (rngL 0 q.toNat)], sn⟩ 0 = some (.lst (rngL 0 q.toNat)) from rfl]
  dsimp only
  rw [show MO.under 0 (.lst (rngL 0 q.toNat)) = true from unders_rng _ _]
  rfl
theorem cells_ok {cl : Cl} {G : Gl} {k : Nat} {P : Program} {w : World} {mg : Str → Option Value} {base : Heap} {x : Str} (F : FnAt0 G (callD 2 2 (cellsIR.den cl)) k P w mg base x 2) : FnAt0 G cellsV k P w mg base x 2 := by
  obtain ⟨a, fd, ps, F, hm, hk, hb, hl⟩ := F
  refine ⟨a, fd, ps, F.imp fun vs H Q E h => ?_, hm, hk, hb, fun xs m h => ?_⟩
  · obtain ⟨hv, r, m, xs, w, pp, g⟩ := h
    refine ⟨hv, ?_⟩
    unfold cellsV at g
    split at g <;> first | exact g.elim | skip
    rename_i xs' m' p
    split at g <;> first | exact g.elim | skip
    rename_i hc
    rw [Bool.and_eq_true, decide_eq_true_eq, decide_eq_true_eq] at hc
    obtain ⟨u, pv, rfl, pu, pp⟩ := rvs2 pp
    have ep := rv_intE pp
    subst ep
    rw [RV] at pu
    subst pu
    obtain ⟨j, hj, ev⟩ := cells_ev (cl := cl) (sn := G.sn) hc
    refine ⟨r, _, [.scr, .int p], empty_wd w, RVs.cons (by rw [RV]) (rvs_one rv_int), ?_⟩
    rw [ev]
    intro r' H' up w' u pu
    have w0 : RO G r' 1 H' (.lst (rngL 0 (j + 1))) (r' 0) := w'.obj 0 _ rfl
    have hg : ∀ r2 n2, RO G r2 n2 H' (.lst (rngL 0 (j + 1))) (r' 0) := fun r2 n2 => by
      obtain ⟨ws, hw, pw⟩ := w0
      refine ⟨ws, hw, ?_⟩
      have : ∀ (k : Nat) (a : Int) (ws : List V), RVs G r' 1 H' (rngL a k) ws → RVs G r2 n2 H' (rngL a k) ws := by
        intro k
        induction k with
        | zero => intro a ws h; rw [rngL, RVs] at h ⊢; exact h
        | succ k ih =>
          intro a ws h
          rw [rngL, RVs] at h
          obtain ⟨v, us, rfl, p1, p2⟩ := h
          rw [rv_intE p1]
          exact RVs.cons rv_int (ih _ _ p2)
      exact this _ _ _ pw
    obtain ⟨u2, w2⟩ := fresh_wd w up (o := .lst (rngL 0 (j + 1))) (hg _ _)
    refine (g j hj) _ H' u2 w2 u ?_
    rw [RV] at pu ⊢
    refine ⟨Nat.lt_succ_self _, ?_⟩
    rw [ext_eq]
    exact pu.2
  · unfold cellsV
    split <;> first | rfl | skip
    exact absurd rfl h
end
end Dv
/-! Dv25: a law's head: what stands behind the module's names. -/
namespace Dv
noncomputable section
open PySem L2 PyProof.Rows
/-! ### constants of the module -/
mutual
def valB (K : PySem.W.Frag) : MV → Value → Bool
  | .non, u => match u with
    | .none => true
    | _ => false
  | .bl b, u => match u with
    | .bool c => b == c
    | _ => false
  | .int i, u => match u with
    | .int j _ => i == j
    | _ => false
  | .str s, u => match u with
    | .str z _ => z.cps.toList == s
    | _ => false
  | .tup xs, u => match u with
    | .ref a => match K.lookup a with
      | some ⟨.type c, _, .seq its _, _⟩ => c == "tuple" && Nat.ble its.size big && valsB K xs its.toList
      | _ => false
    | _ => false
  | _, _ => false
def valsB (K : PySem.W.Frag) : List MV → List Value → Bool
  | [], us => match us with
    | [] => true
    | _ => false
  | x :: xs, us => match us with
    | u :: us => valB K x u && valsB K xs us
    | [] => false
end
mutual
theorem valB_ok {G : Gl} : ∀ (x : MV) (u : Value), valB G.K x u = true → ∃ w, RelV w u ∧ ∀ r n H, RV G r n H x w
  | .non, u, h => by
    cases u <;> first | (cases h; done) | skip
    exact ⟨.non, rfl, fun _ _ _ => rv_non⟩
  | .bl b, u, h => by
    cases u <;> first | (cases h; done) | skip
    have e := beq_iff_eq.mp (show (_ == _) = true from h)
    exact ⟨.bl b, by rw [e] <;> rfl, fun _ _ _ => rv_bl⟩
  | .int i, u, h => by
    cases u <;> first | (cases h; done) | skip
    have e := beq_iff_eq.mp (show (_ == _) = true from h)
    exact ⟨.int i, ⟨_, by rw [e]⟩, fun _ _ _ => rv_int⟩
  | .str s, u, h => by
    cases u <;> first | (cases h; done) | skip
    rename_i z t
    have e := beq_iff_eq.mp (show (z.cps.toList == s) = true from h)
    exact ⟨.str ⟨s.toArray⟩, ⟨t, by rw [← e, Array.toArray_toList]⟩, fun _ _ _ => rv_str⟩
  | .tup xs, u, h => by
    cases u <;> first | (cases h; done) | skip
    rename_i a
    unfold valB at h
    dsimp only at h
    split at h <;> first | (cases h; done) | skip
    rename_i c d its n sl e
    rw [Bool.and_eq_true, Bool.and_eq_true] at h
    obtain ⟨⟨h1, h2⟩, h3⟩ := h
    obtain ⟨ws, rv, q⟩ := valsB_ok xs _ h3
    refine ⟨.ref a, rfl, fun r n H => rv_tup (.inr ⟨_, its, _, e, ?_, rfl, big_le h2, rv⟩) (q r n H)⟩
    rw [beq_iff_eq.mp h1]
  | .ref _, u, h => by cases u <;> cases h
  | .fn _, u, h => by cases u <;> cases h
  | .scr, u, h => by cases u <;> cases h
theorem valsB_ok {G : Gl} : ∀ (xs : List MV) (us : List Value), valsB G.K xs us = true → ∃ ws, Vals ws us ∧ ∀ r n H, RVs G r n H xs ws
  | [], us, h => by
    cases us with
    | nil => exact ⟨[], .nil, fun _ _ _ => RVs.nil⟩
    | cons _ _ => cases h
  | x :: xs, us, h => by
    cases us with
    | nil => cases h
    | cons u us =>
      obtain ⟨h1, h2⟩ := Bool.and_eq_true_iff.mp (show (valB G.K x u && valsB G.K xs us) = true from h)
      obtain ⟨w, r1, q1⟩ := valB_ok x u h1
      obtain ⟨ws, r2, q2⟩ := valsB_ok xs us h2
      exact ⟨w :: ws, .cons r1 r2, fun r n H => RVs.cons (q1 r n H) (q2 r n H)⟩
end
def gvK (K : PySem.W.Frag) (p : Str × MV) : Bool := match PySem.W.nsIn K mainGlobals p.1 with
  | some (some u) => valB K p.2 u
  | _ => false
theorem gvK_ok {G : Gl} {h : Heap} {mg : Str → Option Value} (X : G.K.In h) (N : h.Ns mainGlobals mg) {p : Str × MV} (c : gvK G.K p = true) : ∃ (u : Value) (w : V), mg p.1 = some u ∧ RelV w u ∧ ∀ r n H, RV G r n H p.2 w := by
  unfold gvK at c
  cases e : PySem.W.nsIn G.K mainGlobals p.1 with
  | none => rw [e] at c; cases c
  | some o =>
    rw [e] at c
    cases o with
    | none => cases c
    | some u =>
      obtain ⟨w, r, q⟩ := valB_ok p.2 u c
      exact ⟨u, w, PySem.W.mg_of X N e, r, q⟩
/-! ### the Hook: facts, defs, constants -/
def obsX (fa : List He.Fa) (gv : List (Str × MV)) (fn : List He.DefD) (K : PySem.W.Frag) : He.AlD := ((fa.all fun f => f.ok K) && (gv.all (gvK K) && fn.all fun d => d.ok K), fn.map fun d => He.fnW K d.at_)
def SaysX (fa : List He.Fa) (gv : List (Str × MV)) (fn : List He.DefD) (K : PySem.W.Frag) : Prop := obsX fa gv fn K = He.valD fn
def obsXG (n : Nat) (fa : List He.Fa) (gv : List (Str × MV)) (fn : List He.DefD) (g : Addr → Option Obj) : He.AlD := obsX fa gv fn (He.frG g (He.asD g n))
def hookX (n : Nat) (fa : List He.Fa) (gv : List (Str × MV)) (fn : List He.DefD) : PySem.W.Hook where
  α := He.AlD
  obs := fun s => obsXG n fa gv fn s.heap.get?
  val := fun _ => He.valD fn
  says := fun _ h => ∃ K : PySem.W.Frag, K.In h ∧ SaysX fa gv fn K
  of := fun _ _ e => ⟨_, He.frG_in, e⟩
  keeps := fun _ _ _ ⟨K, hK, c⟩ k => ⟨K, PySem.W.Frag.In.keeps hK k, c⟩
theorem obsXG_eq {n : Nat} {fa : List He.Fa} {gv : List (Str × MV)} {fn : List He.DefD} {g : Addr → Option Obj} {s : Shared} (h : ∀ a, g a = s.heap.get? a) : obsXG n fa gv fn g = (hookX n fa gv fn).obs s := by
  have e : g = s.heap.get? := funext h
  rw [e] <;> rfl
section
variable {fa : List He.Fa} {gv : List (Str × MV)} {fn : List He.DefD} {K : PySem.W.Frag}
theorem SaysX.all (c : SaysX fa gv fn K) : (fa.all fun f => f.ok K) = true ∧ gv.all (gvK K) = true ∧ (fn.all fun d => d.ok K) = true := by
  have h : ((fa.all fun f => f.ok K) && (gv.all (gvK K) && fn.all fun d => d.ok K)) = true := congrArg (fun z : He.AlD => z.1) c
  rw [Bool.and_eq_true, Bool.and_eq_true] at h
  exact h
theorem SaysX.fact (c : SaysX fa gv fn K) (i : Nat) {f : He.Fa} (h : fa[i]? = some f) : f.ok K = true := List.all_eq_true.mp c.all.1 f (List.mem_of_getElem? h)
theorem SaysX.gvs (c : SaysX fa gv fn K) {p : Str × MV} (h : p ∈ gv) : gvK K p = true := List.all_eq_true.mp c.all.2.1 p h
theorem SaysX.def_ (c : SaysX fa gv fn K) (i : Nat) {d : He.DefD} (h : fn[i]? = some d) : ∃ fd, FunD K d.name d.qual d.params d.body d.scope (d.dvs K) (d.kws K) (He.fAd K d.at_) fd := by
  have e : fn.map (fun d => He.fnW K d.at_) = fn.map He.DefD.val := congrArg (fun z : He.AlD => z.2) c
  have e2 : (fn.map fun d => He.fnW K d.at_)[i]? = (fn.map He.DefD.val)[i]? := by rw [e]
  rw [List.getElem?_map, List.getElem?_map, h] at e2
  exact He.DefD.funD (Option.some.inj e2) (List.all_eq_true.mp c.all.2.2 d (List.mem_of_getElem? h))
end
/-! ### a def of the module, by its statement -/
def stD : Stmt → He.DefD
  | .FunctionDef n a b _ _ _ sc _ _ _ => ⟨(n, none), n, n, a, b, sc, [], []⟩
  | _ => ⟨("", none), "", "", ⟨[], [], none, [], [], none, []⟩, [], ⟨.function, [], false, false, []⟩, [], []⟩
/-- its scope and names are fine, its text does what b does -/
def fxB (tb : Tb) (d : He.DefD) (N ps : List Str) (b : Ss) : Bool :=
  decide (d.scope.kind = .function) && !d.scope.isCoroutine && !d.scope.isGenerator && decide N.Nodup && decide (N.take ps.length = ps) && ps.all (fun x => tgB d.scope none x) && d.scope.names.all (fun y => decide (y.2 ≠ .free)) && b.chk tb N d.scope none d.body
theorem fxB_ok {tb : Tb} {d : He.DefD} {N ps : List Str} {b : Ss} (h : fxB tb d N ps b = true) : FnScope N ps d.scope ∧ b.chk tb N d.scope none d.body = true := by
  unfold fxB at h
  simp only [Bool.and_eq_true] at h
  obtain ⟨⟨⟨⟨⟨⟨⟨h1, h2⟩, h3⟩, h4⟩, h5⟩, h6⟩, h7⟩, h8⟩ := h
  refine ⟨⟨of_decide_eq_true h1, not_of h2, not_of h3, of_decide_eq_true h4, of_decide_eq_true h5, fun x hx => ?_, fun y hy => of_decide_eq_true (List.all_eq_true.mp h7 y hy)⟩, h8⟩
  have := List.all_eq_true.mp h6 x hx
  unfold tgB at this
  cases e : d.scope.names.lookup x with
  | none => rw [e] at this; cases this
  | some n =>
    rw [e] at this
    cases n <;> first | exact .inl rfl | exact .inr rfl | cases this
/-- the def of number i at the head, as the evaluator wants it -/
theorem def_of {tb : Tb} {fa : List He.Fa} {gv : List (Str × MV)} {fn : List He.DefD} {K : PySem.W.Frag} {h : Heap} {mg : Str → Option Value} (X : K.In h) (Ng : h.Ns mainGlobals mg) (c : SaysX fa gv fn K) (i j : Nat) {d : He.DefD} {x : Str} {N ps : List Str} {b : Ss} {np ns : Nat}
    (hd : fn[i]? = some d) (hf : fa[j]? = some (.glo x)) (e1 : d.name = x) (e2 : d.at_ = (x, none)) (e3 : d.dfl = []) (e4 : d.kwd = []) (hx : fxB tb d N ps b = true) (hp : ps.length = np) (hN : N.length = ns)
    (hb : ∀ (f : Addr) (fd : FuncData), FunD K x d.qual d.params d.body d.scope [] [] f fd → Binds K fd ps []) : DefOk K mg tb x np ns b := by
  obtain ⟨fd, F⟩ := c.def_ i hd
  obtain ⟨S, hc⟩ := fxB_ok hx
  have k1 : d.dvs K = [] := by
    unfold He.DefD.dvs
    rw [e3] <;> rfl
  have k2 : d.kws K = [] := by
    unfold He.DefD.kws
    rw [e4] <;> rfl
  rw [k1, k2, e1] at F
  have hm := He.glo_ok X Ng (c.fact j hf)
  have ha : He.fAd K d.at_ = He.ga K x := by rw [e2] <;> rfl
  rw [ha] at F
  exact ⟨d.qual, d.params, d.body, d.scope, He.ga K x, fd, N, ps, F, hm, S, hp, hN, hb _ fd F, hc⟩
/-! ### the draws, pots, cells of a text -/
section
variable {G : Gl} {P : Program} {w : World} {mg : Str → Option Value} {base : Heap} {x : Str}
theorem one_fn {np ns : Nat} {b : Ss} {fr : List Str} (D : DefOk G.K mg ⟨[(x, np)], [], fr⟩ x np ns b) (hf : ∀ y ∈ fr, mg y = none) (hx : x ≠ ("" : Str) := by decide) : FnAt0 G (callD np ns (b.den (clN [.df np ns b] 0))) 1 P w mg base x np := by
  have R : Prog G P w mg base ⟨[(x, np)], [], fr⟩ [.df np ns b] 0 := by
    refine ⟨fun g y n h _ => ?_, fun p hp => (by cases hp), hf⟩
    cases g with
    | zero =>
      cases h
      exact .inl ⟨ns, b, rfl, D⟩
    | succ g => cases h
  exact prog_ok R 1 0 x np rfl hx
end
def isFree (y : Str) : He.Fa → Bool
  | .free z => z == y
  | _ => false
theorem free_all {fa : List He.Fa} {gv : List (Str × MV)} {fn : List He.DefD} {K : PySem.W.Frag} {h : Heap} {mg : Str → Option Value} (X : K.In h) (Ng : h.Ns mainGlobals mg) (c : SaysX fa gv fn K) {l : List Str} (hl : l.all (fun y => fa.any (isFree y)) = true) : ∀ x ∈ l, mg x = none := fun x hx => by
  obtain ⟨f, hf, e⟩ := List.any_eq_true.mp (List.all_eq_true.mp hl x hx)
  cases f <;> first | (cases e; done) | skip
  rename_i z
  have e := beq_iff_eq.mp (show (z == x) = true from e)
  subst e
  exact He.free_ok X Ng (List.all_eq_true.mp c.all.1 _ hf)
/-! ### a table, entry by entry -/
abbrev En := Str × Nat × Ent
def EnOk (G : Gl) (P : Program) (w : World) (mg : Str → Option Value) (base : Heap) (tb : Tb) (c0 : Nat) (e : En) : Prop := e.1 = ("" : Str) ∨ match e.2.2 with
  | .df np ns b => np = e.2.1 ∧ DefOk G.K mg tb e.1 np ns b
  | .sp np f => np = e.2.1 ∧ FnAt0 G f c0 P w mg base e.1 np
inductive Each {α : Type} (P : α → Prop) : List α → Prop where
  | nil : Each P []
  | cons {a : α} {l : List α} : P a → Each P l → Each P (a :: l)
theorem Each.at {α : Type} {P : α → Prop} : ∀ {l : List α} {i : Nat} {a : α}, Each P l → l[i]? = some a → P a
  | [], _, _, _, h => by cases h
  | _ :: _, 0, _, .cons h _, e => by cases e; exact h
  | _ :: _, i + 1, _, .cons _ h, e => Each.at (i := i) h (by simpa using e)
def nmE (l : List En) : List (Str × Nat) := l.map fun e => (e.1, e.2.1)
def enE (l : List En) : List Ent := l.map fun e => e.2.2
theorem prog_of {G : Gl} {P : Program} {w : World} {mg : Str → Option Value} {base : Heap} {l : List En} {gv : List (Str × MV)} {fr : List Str} {c0 : Nat} (h : Each (EnOk G P w mg base ⟨nmE l, gv, fr⟩ c0) l)
    (hg : ∀ p ∈ gv, ∃ (u : Value) (w : V), mg p.1 = some u ∧ RelV w u ∧ ∀ r n H, RV G r n H p.2 w) (hf : ∀ x ∈ fr, mg x = none) : Prog G P w mg base ⟨nmE l, gv, fr⟩ (enE l) c0 where
  one := fun g x np e hx => by
    have e : (l.map fun e => (e.1, e.2.1))[g]? = some (x, np) := e
    rw [List.getElem?_map] at e
    cases q : l[g]? with
    | none => rw [q] at e; cases e
    | some en =>
      rw [q] at e
      obtain ⟨y, n, t⟩ := en
      cases e
      have ok := (h.at q).resolve_left hx
      have ht : (enE l)[g]? = some t := by
        show (l.map fun e => e.2.2)[g]? = some t
        rw [List.getElem?_map, q] <;> rfl
      cases t with
      | df a b c =>
        obtain ⟨e1, e2⟩ := (show a = n ∧ DefOk G.K mg _ y a b c from ok)
        subst e1
        exact .inl ⟨_, _, ht, e2⟩
      | sp a f =>
        obtain ⟨e1, e2⟩ := (show a = n ∧ FnAt0 G f c0 P w mg base y a from ok)
        subst e1
        exact .inr ⟨_, ht, e2⟩
  gv := hg
  fr := hf
/-! ### verdicts -/
def isT : MV → Bool
  | .bl b => b
  | _ => false
theorem isT_ok {v : MV} (h : isT v = true) : v = .bl true := by
  cases v <;> first | (cases h; done) | skip
  rename_i b
  have h : b = true := h
  rw [h]
theorem all_true {x : R MV} {E : Nat → MV → MH → Prop} (h : x.all (fun v _ => isT v) = true) : x.All (fun v _ => v = .bl true) E := (R.all_All h).mono (fun _ _ h => isT_ok h) (fun _ _ _ h => h)
theorem all_right {x : R MV} {E : Nat → MV → MH → Prop} (h : x.all (fun v m => isT v && isPot m) = true) : x.All (fun v m => v = .bl true ∧ isPot m = true) E :=
  (R.all_All h).mono (fun _ _ h => (Bool.and_eq_true_iff.mp h).imp isT_ok id) (fun _ _ _ h => h)
/-- a verdict, told so that nobody reckons it by chance -/
structure Yes (x : R MV) : Prop where
  all : x.All (fun v _ => v = .bl true) fun _ _ _ => False
structure Yes2 (x : R MV) : Prop where
  all : x.All (fun v m => v = .bl true ∧ isPot m = true) fun _ _ _ => False
theorem Yes.of {x : R MV} (h : x.all (fun v _ => isT v) = true) : Yes x := ⟨all_true h⟩
theorem Yes2.of {x : R MV} (h : x.all (fun v m => isT v && isPot m) = true) : Yes2 x := ⟨all_right h⟩
/-- the law's def, at the head -/
theorem law_facts {P : Program} {w : World} {K : PySem.W.Frag} {h : Heap} {mg : Str → Option Value} {f : Addr} {fa : List He.Fa} {gv : List (Str × MV)} {fn : List He.DefD} {k : Nat} {x y : Str} {cl : List MV → MH → R MV}
    (ca : Nat → Addr) (X : K.In h) (Ng : h.Ns mainGlobals mg) (hfa : mg x = some (.ref f)) (c : SaysX fa gv fn K) (i j : Nat) {d : He.DefD} (hd : fn[i]? = some d) (hf : fa[j]? = some (.glo x)) (e1 : d.name = x) (e2 : d.at_ = (x, none)) (e3 : d.dfl = []) (e4 : d.kwd = [])
    (hb : ∀ (f : Addr) (fd : FuncData), FunD K x d.qual d.params d.body d.scope [] [] f fd → ∀ (s : Shared) (us : List Value), us.length = [y].length → BindsTo s fd ⟨us, []⟩ ([y].zip us))
    (F : ∀ (a : Addr) (ns : List Int) (base : Heap), K.In base → base.Ns mainGlobals mg → ∀ (f : Addr) (fd : FuncData), FunD K x d.qual d.params d.body d.scope [] [] f fd → mg x = some (.ref f) → FnG P w K mg base CX0 k f fd [y] (spE ⟨K, fun _ => 0, ca, a, ns⟩ 1 cl)) :
    ∃ fd : FuncData, (∀ (s : Shared) (v : Value), BindsTo s fd ⟨[v], []⟩ [(y, v)]) ∧ ∀ (a : Addr) (ns : List Int) (base : Heap), K.In base → base.Ns mainGlobals mg → FnG P w K mg base CX0 k f fd [y] (spE ⟨K, fun _ => 0, ca, a, ns⟩ 1 cl) := by
  obtain ⟨fd, F0⟩ := c.def_ i hd
  have k1 : d.dvs K = [] := by
    unfold He.DefD.dvs
    rw [e3] <;> rfl
  have k2 : d.kws K = [] := by
    unfold He.DefD.kws
    rw [e4] <;> rfl
  rw [k1, k2, e1] at F0
  have hm := He.glo_ok X Ng (c.fact j hf)
  have ha : He.fAd K d.at_ = He.ga K x := by rw [e2] <;> rfl
  rw [ha] at F0
  have e := hfa.symm.trans hm
  cases e
  exact ⟨fd, fun s v => hb _ fd F0 s [v] rfl, fun a ns base kin bns => F a ns base kin bns _ fd F0 hm⟩
/-- the law's def keeps its promise -/
theorem law_fn {G : Gl} {P : Program} {w : World} {mg : Str → Option Value} {base : Heap} {tb : Tb} {tab : List Ent} {c0 : Nat} (R : Prog G P w mg base tb tab c0) {x : Str} {d : He.DefD} {N ps : List Str} {b : Ss} (hx : fxB tb d N ps b = true) {f : Addr} {fd : FuncData} (F : FunD G.K x d.qual d.params d.body d.scope [] [] f fd) (k g : Nat)
    (ht : tab[g]? = some (.df ps.length N.length b)) : FnG P w G.K mg base CX0 (c0 + (k + 1)) f fd ps (spE G ps.length (clN tab (k + 1) g)) := by
  obtain ⟨S, hc⟩ := fxB_ok hx
  have e : clN tab (k + 1) g = callD ps.length N.length (b.den (clN tab k)) := by
    funext xs m
    rw [clN_succ, ht]
  rw [e]
  refine fn_G (k := c0 + k) F S (fun vs H Q E h => h.1) fun cdv A out st H vs Q E hr h => ?_
  refine ⟨tZ G noW (b.den (clN tab k)), PSs.nox (Ss.ok b (G := G) (tb := tb) (k := c0 + k) (N := N) (sc := d.scope) (raw := Option.none) ?_ hc), body_at h⟩
  exact ⟨rfl, rfl, S.nd, rfl, S.kind, rfl, hr, fun _ _ => rfl, rfl, fun g x np h hx => prog_ok R k g x np h hx, R.gv, R.fr⟩
def mS (sn : List Int) : MH := ⟨0, [], [], sn⟩
/-- the law's start -/
theorem law_start {K : PySem.W.Frag} {ca : Nat → Addr} {a : Addr} {ns : List Int} {H : Hp} {cl : List MV → MH → R MV}
    (hH : ((∀ b, H b = none) ∧ (∃ (o : Obj) (its : Array Value) (m : Nat), K.lookup a = some o ∧ o.cls = .type "list" ∧ o.dict = none ∧ o.data = .seq its m ∧ its.size ≤ sizeLine ∧ Vals (ns.map V.int) its.toList)) ∨ ((∃ o, H a = some (.frz o (.lst (ns.map V.int)))) ∧ ∀ b, b ≠ a → H b = none))
    (ev : (cl [.scr] (mS ns)).All (fun v _ => v = .bl true) fun _ _ _ => False) : spE ⟨K, fun _ => 0, ca, a, ns⟩ 1 cl [.ref a] H (fun v _ => v = .bl true) fun _ _ _ => False := by
  have scr : ScrOk ⟨K, fun _ => 0, ca, a, ns⟩ H := by
    rcases hH with ⟨_, h⟩ | ⟨h, _⟩
    · exact .inr h
    · exact .inl h
  refine ⟨rfl, fun _ => 0, mS ns, [.scr], ⟨rfl, fun i j hi _ _ => absurd hi (Nat.not_lt_zero _), fun i o e => absurd (get_lt e) (Nat.not_lt_zero _), fun l h => (by cases h), scr, rfl⟩, rvs_one (by rw [RV]), ?_⟩
  refine ev.mono (fun v m h r' H' up w' u pu => ?_) (fun _ _ _ h => h.elim)
  subst h
  rw [RV] at pu
  exact pu
/-- .. by a verdict that nobody reckons by chance -/
theorem law_startY {K : PySem.W.Frag} {ca : Nat → Addr} {a : Addr} {ns : List Int} {H : Hp} {cl : List MV → MH → R MV}
    (hH : ((∀ b, H b = none) ∧ (∃ (o : Obj) (its : Array Value) (m : Nat), K.lookup a = some o ∧ o.cls = .type "list" ∧ o.dict = none ∧ o.data = .seq its m ∧ its.size ≤ sizeLine ∧ Vals (ns.map V.int) its.toList)) ∨ ((∃ o, H a = some (.frz o (.lst (ns.map V.int)))) ∧ ∀ b, b ≠ a → H b = none))
    (ev : Yes (cl [.scr] (mS ns))) : spE ⟨K, fun _ => 0, ca, a, ns⟩ 1 cl [.ref a] H (fun v _ => v = .bl true) fun _ _ _ => False := law_start hH ev.all
/-- right, by a verdict that nobody reckons by chance -/
theorem right_okY {G : Gl} {f : List MV → MH → R MV} {k : Nat} {P : Program} {w : World} {mg : Str → Option Value} {base : Heap} {x : Str} (F : FnAt0 G f k P w mg base x 1) (ev : Yes2 (f [.ref 0] (m0 G.sn))) : FnAt0 G rightV k P w mg base x 1 := right_ok F ev.all
end
end Dv
/-! C0: tools for what functions of a text compute, as equations. -/
namespace Dv
noncomputable section
open PySem L2 PyProof.Rows
/-! ### heaps that grow -/
structure Gd (m : MH) : Prop where
  lo : ∀ l ∈ m.lo, l ≤ m.n
  len : m.os.length = m.n
inductive Grow (m : MH) : MH → Prop where
  | refl : Grow m m
  | push {m' : MH} {o : MO} : Grow m m' → Grow m (m'.push o)
theorem Grow.gd {m m' : MH} (g : Grow m m') (h : Gd m) : Gd m' := by
  induction g with
  | refl => exact h
  | push _ ih => exact ⟨fun l hl => Nat.le_succ_of_le (ih.lo l hl), congrArg Nat.succ ih.len⟩
theorem Gd.push {m : MH} (h : Gd m) {o : MO} : Gd (m.push o) := Grow.gd (.push .refl) h
theorem Gd.enter {m : MH} (h : Gd m) : Gd m.enter := ⟨fun l hl => by
  rcases List.mem_cons.mp hl with rfl | hl
  · exact Nat.le_refl _
  · exact h.lo l hl, h.len⟩
theorem capL_eq {k : Nat} : ∀ {ls : List Nat}, (∀ l ∈ ls, l ≤ k) → capL k ls = ls
  | [], _ => rfl
  | l :: ls, h => by
    show (match Nat.ble l k with
      | true => l
      | false => 0) :: capL k ls = _
    rw [Nat.ble_eq_true_of_le (h l (List.mem_cons_self ..)), capL_eq fun x hx => h x (List.mem_cons_of_mem _ hx)]
theorem Grow.form {m m' : MH} (g : Grow m m') : ∃ xs : List MO, m' = ⟨m.n + xs.length, m.lo, xs ++ m.os, m.sc⟩ := by
  induction g with
  | refl => exact ⟨[], rfl⟩
  | @push m' o g ih =>
    obtain ⟨xs, rfl⟩ := ih
    exact ⟨o :: xs, rfl⟩
/-- a call that made new objects alone, and hands back none of them, leaves all as it was -/
theorem fin_grow {m m' : MH} {v : MV} (h : Gd m) (g : Grow m.enter m') (hv : v.under m.n = true) : fin m.n v m' = .ok v m := by
  obtain ⟨xs, rfl⟩ := g.form
  rw [fin_in (ls := m.lo) rfl hv]
  obtain ⟨n, lo, os, sc⟩ := m
  show R.ok v (⟨n, capL n lo, (xs ++ os).drop (n + xs.length - n), sc⟩ : MH) = _
  rw [show n + xs.length - n = xs.length by omega, List.drop_left' rfl, capL_eq h.lo]
theorem call_rt {m m' : MH} {np ns : Nat} {b : XZ} {xs : List MV} {v : MV} (hl : xs.length = np) (h : Gd m) (e : b (frameV ns xs) m.enter = .ok (.rt v) m') (g : Grow m.enter m') (hv : v.under m.n = true) : callD np ns b xs m = .ok v m := by
  rw [callD_eq hl, e, callR_rt, fin_grow h g hv]
theorem call_nx {m m' : MH} {np ns : Nat} {b : XZ} {xs : List MV} {s : St} (hl : xs.length = np) (h : Gd m) (e : b (frameV ns xs) m.enter = .ok (.nx s) m') (g : Grow m.enter m') : callD np ns b xs m = .ok .non m := by
  rw [callD_eq hl, e, callR_nx, fin_grow h g (by rw [MV.under] <;> intros <;> contradiction)]
/-! ### objects read -/
theorem get_push_same {m : MH} {o : MO} : (m.push o).get m.n = some o := by
  unfold MH.get MH.push
  rw [if_pos (Nat.lt_succ_self _)]
  show (o :: m.os)[m.n + 1 - 1 - m.n]? = some o
  rw [show m.n + 1 - 1 - m.n = 0 by omega]
  rfl
theorem get_push_old {m : MH} {o : MO} {i : Nat} (h : i < m.n) : (m.push o).get i = m.get i := by
  unfold MH.get MH.push
  rw [if_pos (Nat.lt_succ_of_lt h), if_pos h]
  show (o :: m.os)[m.n + 1 - 1 - i]? = _
  rw [show m.n + 1 - 1 - i = (m.n - 1 - i) + 1 by omega]
  rfl
theorem get_enter {m : MH} {i : Nat} : m.enter.get i = m.get i := rfl
theorem n_push {m : MH} {o : MO} : (m.push o).n = m.n + 1 := rfl
theorem n_enter {m : MH} : m.enter.n = m.n := rfl
/-! ### walks -/
/-- the items of a source while the heap stands -/
inductive Its (m : MH) : Src → List MV → Prop where
  | nil {s : Src} : s.step m = .done → Its m s []
  | cons {s s' : Src} {x : MV} {xs : List MV} : s.step m = .it x s' → Its m s' xs → Its m s (x :: xs)
theorem its_imm (m : MH) : ∀ xs : List MV, Its m (.imm xs) xs
  | [] => .nil rfl
  | x :: xs => .cons rfl (its_imm m xs)
theorem its_liv {m : MH} {a : Nat} {xs : List MV} (h : m.get a = some (.lst xs)) : ∀ (k : Nat), k ≤ xs.length → Its m (.liv a (xs.length - k)) (xs.drop (xs.length - k))
  | 0, _ => by
    rw [Nat.sub_zero, List.drop_length]
    refine .nil ?_
    unfold Src.step
    rw [h]
    simp
  | k + 1, hk => by
    have h1 : xs.length - (k + 1) < xs.length := by omega
    rw [List.drop_eq_getElem_cons h1]
    refine .cons (s' := .liv a (xs.length - (k + 1) + 1)) ?_ ?_
    · unfold Src.step
      rw [h]
      dsimp only
      rw [List.getElem?_eq_getElem h1]
    · rw [show xs.length - (k + 1) + 1 = xs.length - k by omega]
      exact its_liv h k (by omega)
theorem its_list {m : MH} {a : Nat} {xs : List MV} (h : m.get a = some (.lst xs)) : Its m (.liv a 0) xs := by
  have := its_liv h xs.length (Nat.le_refl _)
  rwa [Nat.sub_self, List.drop_zero] at this
theorem its_zip {m : MH} : ∀ {xs ys : List MV} {p q : Src}, Its m p xs → Its m q ys → Its m (.zip p q) (List.zipWith (fun x y => MV.tup [x, y]) xs ys)
  | [], [], p, q, .nil h, .nil k => .nil (by unfold Src.step; rw [h, k])
  | [], _ :: _, p, q, .nil h, .cons k _ => .nil (by unfold Src.step; rw [h, k])
  | _ :: _, [], p, q, .cons h _, .nil k => .nil (by unfold Src.step; rw [h, k])
  | _ :: _, _ :: _, p, q, .cons h hs, .cons k ks => .cons (by unfold Src.step; rw [h, k]) (its_zip hs ks)
/-- an item of a comprehension whose parts change nothing: kept as y, or not -/
def ItemDoes (g : XG) (t : XB) (e : X) (s : St) (m : MH) (x : MV) : Option MV → Prop
  | some y => ∃ s1, g x s m = .ok s1 m ∧ t s1 m = .ok true m ∧ e s1 m = .ok y m
  | none => ∃ s1, g x s m = .ok s1 m ∧ t s1 m = .ok false m
theorem lcV_pure {g : XG} {t : XB} {e : X} {s : St} {m : MH} {f : MV → Option MV} : ∀ {xs : List MV} {src : Src} {k : Nat}, Its m src xs → xs.length < k → (∀ x ∈ xs, ItemDoes g t e s m x (f x)) → lcV g t e s k src m = .ok (xs.filterMap f) m
  | [], src, 0, _, hk, _ => absurd hk (Nat.not_lt_zero _)
  | [], src, k + 1, .nil h, _, _ => by
    rw [lcV_succ, h]
    rfl
  | x :: xs, src, 0, _, hk, _ => absurd hk (Nat.not_lt_zero _)
  | x :: xs, src, k + 1, .cons h hs, hk, hf => by
    rw [lcV_succ, h]
    dsimp only
    have h1 := hf x (List.mem_cons_self ..)
    have ih := lcV_pure hs (Nat.lt_of_succ_lt_succ hk) (fun y hy => hf y (List.mem_cons_of_mem _ hy))
    cases q : f x with
    | none =>
      rw [q] at h1
      obtain ⟨s1, e1, e2⟩ := h1
      rw [e1, bind_ok, e2, bind_ok]
      dsimp only
      rw [ih, List.filterMap_cons, q]
    | some y =>
      rw [q] at h1
      obtain ⟨s1, e1, e2, e3⟩ := h1
      rw [e1, bind_ok, e2, bind_ok]
      dsimp only
      rw [e3, bind_ok, ih, bind_ok, List.filterMap_cons, q]
theorem lc_pure {vs : List Nat} {src : XI} {g : XG} {t : Option XB} {e : X} {s : St} {m m1 : MH} {sr : Src} {xs : List MV} (f : MV → Option MV) (hs : src s m = .ok sr m1) (hz : sr.size m1 + 1 ≤ big) (hi : Its m1 sr xs) (hl : xs.length ≤ sr.size m1) (hf : ∀ x ∈ xs, ItemDoes g (tstV t) e (wipeM s vs) m1 x (f x)) :
    xLc vs src g t e s m = .ok (.ref m1.n) (m1.push (.lst (xs.filterMap f))) := by
  unfold xLc
  rw [hs, bind_ok, Nat.ble_eq_true_of_le hz]
  dsimp only
  rw [lcV_pure hi (Nat.lt_succ_of_le hl) hf, bind_ok]
  rfl
end
end Dv
/-! PIR: the program's functions as the evaluator reads them (printed by gen2.py prog). -/
namespace Dv
noncomputable section
open PySem L2 PyProof.Rows
/-- basics.is_integer -/
def pg0 : Ss := (.one (.ret (.bop true (.cons (.isi .int (.loc 0)) (.one (.nt (.isi .bl (.loc 0))))))))
abbrev e0 : Ent := .df 1 1 pg0
/-- basics.is_between -/
def pg1 : Ss := (.one (.ret (.bop true (.cons (.call 0 (.cons (.loc 0) .nil)) (.one (.chn .LtE .LtE (.loc 1) (.loc 0) (.loc 2)))))))
abbrev e1 : Ent := .df 3 3 pg1
/-- basics.is_tuple -/
def pg2 : Ss := (.one (.ret (.bop true (.cons (.isi .tup (.loc 0)) (.one (.chn .LtE .LtE (.loc 1) (.blt .len (.cons (.loc 0) .nil)) (.loc 2)))))))
abbrev e2 : Ent := .df 3 3 pg2
/-- basics.is_one_of -/
def pg3 : Ss := (.one (.ret (.bop true (.cons (.isi .str (.loc 0)) (.one (.cmp .In (.loc 0) (.loc 1)))))))
abbrev e3 : Ent := .df 2 2 pg3
/-- basics.do_ascend -/
def pg4 : Ss := (.one (.ret (.blt .all (.cons (.lc [1, 2] (.zip (.cons (.loc 0) (.cons (.sl (.loc 0) (.on (.c (.int 1))) .no) .nil))) (.tp (.cons (.nm 1) (.cons (.nm 2) .nil))) .no (.cmp .Lt (.loc 1) (.loc 2))) .nil))))
abbrev e4 : Ent := .df 1 3 pg4
/-- basics.are_bits -/
def pg5 : Ss := (.one (.ret (.bop true (.cons (.call 2 (.cons (.loc 0) (.cons (.loc 1) (.cons (.loc 1) .nil)))) (.one (.blt .all (.cons (.lc [2] (.src (.loc 0)) (.nm 2) .no (.call 1 (.cons (.loc 2) (.cons (.c (.int 0)) (.cons (.c (.int 1)) .nil))))) .nil)))))))
abbrev e5 : Ent := .df 2 3 pg5
/-- errors.FaultError.__init__ -/
def pg6 : Ss := (.one .bad)
abbrev e6 : Ent := .df 2 2 pg6
/-- words.is_letters -/
def pg7 : Ss := (.one (.ret (.bop true (.cons (.isi .str (.loc 0)) (.cons (.chn .LtE .LtE (.c (.int 1)) (.blt .len (.cons (.loc 0) .nil)) (.gc (.int 4))) (.one (.blt .all (.cons (.lc [1] (.src (.loc 0)) (.nm 1) .no (.cmp .In (.loc 1) (.gc (.str [73, 88, 89, 90])))) .nil))))))))
abbrev e7 : Ent := .df 1 2 pg7
/-- words.is_word -/
def pg8 : Ss := (.one (.ret (.bop true (.cons (.isi .str (.loc 0)) (.one (.call 7 (.cons (.mth .rmp (.loc 0) (.cons (.gc (.str [45])) .nil)) .nil)))))))
abbrev e8 : Ent := .df 1 1 pg8
/-- words.bare -/
def pg9 : Ss := (.one (.ret (.mth .rmp (.loc 0) (.cons (.gc (.str [45])) .nil))))
abbrev e9 : Ent := .df 1 1 pg9
/-- words.sign_in -/
def pg10 : Ss := (.one (.ret (.ife (.cmp .Eq (.sl (.loc 0) .no (.on (.c (.int 1)))) (.gc (.str [45]))) (.neg (.c (.int 1))) (.c (.int 1)))))
abbrev e10 : Ent := .df 1 1 pg10
/-- words.word_of -/
def pg11 : Ss := (.one (.ret (.ife (.cmp .Gt (.loc 0) (.c (.int 0))) (.loc 1) (.bin .Add (.gc (.str [45])) (.loc 1)))))
abbrev e11 : Ent := .df 2 2 pg11
/-- words.check_two -/
def pg12 : Ss := (.cons (.fr (.src (.tup (.cons (.loc 0) (.cons (.loc 1) .nil)))) (.nm 2) (.one (.ifs (.nt (.tru (.call 8 (.cons (.loc 2) .nil)))) (.one .bad) .nil))) (.one (.ifs (.cmp .NotEq (.blt .len (.cons (.call 9 (.cons (.loc 0) .nil)) .nil)) (.blt .len (.cons (.call 9 (.cons (.loc 1) .nil)) .nil))) (.one .bad) .nil)))
abbrev e12 : Ent := .df 2 3 pg12
/-- words.nothing -/
def pg13 : Ss := (.one (.ret (.bin .Mult (.gc (.str [73])) (.loc 0))))
abbrev e13 : Ent := .df 1 1 pg13
/-- words.at_wire -/
def pg14 : Ss := (.one (.ret (.bin .Add (.bin .Add (.bin .Mult (.gc (.str [73])) (.loc 1)) (.loc 2)) (.bin .Mult (.gc (.str [73])) (.bin .Sub (.bin .Sub (.loc 0) (.loc 1)) (.c (.int 1)))))))
abbrev e14 : Ent := .df 3 3 pg14
/-- words.do_pass -/
def pg15 : Ss := (.cons (.set (.lc [3, 4] (.zip (.cons (.loc 0) (.cons (.loc 1) .nil))) (.tp (.cons (.nm 3) (.cons (.nm 4) .nil))) (.on (.bop true (.cons (.cmp .NotEq (.loc 3) (.loc 4)) (.one (.cmp .NotIn (.gc (.str [73])) (.tup (.cons (.loc 3) (.cons (.loc 4) .nil)))))))) (.loc 3)) (.nm 2)) (.one (.ret (.cmp .Eq (.bin .Mod (.blt .len (.cons (.loc 2) .nil)) (.gc (.int 2))) (.c (.int 0))))))
abbrev e15 : Ent := .df 2 5 pg15
/-- words.made_letter -/
def pg16 : Ss := (.cons (.ifs (.cmp .Eq (.loc 0) (.loc 1)) (.one (.ret (.gc (.str [73])))) .nil) (.cons (.ifs (.cmp .In (.gc (.str [73])) (.tup (.cons (.loc 0) (.cons (.loc 1) .nil)))) (.one (.ret (.ife (.cmp .Eq (.loc 0) (.gc (.str [73]))) (.loc 1) (.loc 0)))) .nil) (.one (.ret (.ix (.lc [2] (.src (.sl (.gc (.str [73, 88, 89, 90])) (.on (.c (.int 1))) .no)) (.nm 2) (.on (.cmp .NotIn (.loc 2) (.tup (.cons (.loc 0) (.cons (.loc 1) .nil))))) (.loc 2)) (.c (.int 0)))))))
abbrev e16 : Ent := .df 2 3 pg16
/-- words.made -/
def pg17 : Ss := (.one (.ret (.mth .join (.c (.str [])) (.cons (.lc [2, 3] (.zip (.cons (.loc 0) (.cons (.loc 1) .nil))) (.tp (.cons (.nm 2) (.cons (.nm 3) .nil))) .no (.call 16 (.cons (.loc 2) (.cons (.loc 3) .nil)))) .nil))))
abbrev e17 : Ent := .df 2 4 pg17
/-- words.quarters -/
def pg18 : Ss := (.cons (.set (.lc [4, 5] (.zip (.cons (.loc 0) (.cons (.loc 1) .nil))) (.tp (.cons (.nm 4) (.cons (.nm 5) .nil))) (.on (.cmp .In (.bin .Add (.loc 4) (.loc 5)) (.gc (.tup [.str [88, 89], .str [89, 90], .str [90, 88]])))) (.c (.int 1))) (.nm 2)) (.cons (.set (.lc [4, 5] (.zip (.cons (.loc 0) (.cons (.loc 1) .nil))) (.tp (.cons (.nm 4) (.cons (.nm 5) .nil))) (.on (.cmp .In (.bin .Add (.loc 5) (.loc 4)) (.gc (.tup [.str [88, 89], .str [89, 90], .str [90, 88]])))) (.c (.int 1))) (.nm 3)) (.one (.ret (.bin .Sub (.blt .len (.cons (.loc 2) .nil)) (.blt .len (.cons (.loc 3) .nil)))))))
abbrev e18 : Ent := .df 2 6 pg18
/-- words.made_sign -/
def pg19 : Ss := (.one (.ret (.ife (.cmp .Eq (.bin .Mod (.call 18 (.cons (.loc 0) (.cons (.loc 1) .nil))) (.gc (.int 4))) (.c (.int 0))) (.c (.int 1)) (.neg (.c (.int 1))))))
abbrev e19 : Ent := .df 2 2 pg19
/-- words.every -/
def pg20 : Ss := (.cons (.set (.lst (.cons (.c (.str [])) .nil)) (.nm 1)) (.cons (.fr (.rg1 (.cons (.loc 0) .nil)) (.nm 2) (.cons (.set (.lst .nil) (.nm 3)) (.cons (.fr (.src (.loc 1)) (.nm 4) (.one (.run (.mth .ext (.loc 3) (.cons (.lc [5] (.src (.gc (.str [73, 88, 89, 90]))) (.nm 5) .no (.bin .Add (.loc 4) (.loc 5))) .nil))))) (.one (.set (.loc 3) (.nm 1)))))) (.one (.ret (.loc 1)))))
abbrev e20 : Ent := .df 1 6 pg20
/-- words.product_letters -/
def pg21 : Ss := (.cons (.set (.lst (.cons (.call 13 (.cons (.loc 1) .nil)) .nil)) (.nm 2)) (.cons (.fr (.src (.loc 0)) (.nm 3) (.one (.set (.bin .Add (.loc 2) (.lc [4] (.src (.loc 2)) (.nm 4) .no (.call 17 (.cons (.loc 4) (.cons (.call 9 (.cons (.loc 3) .nil)) .nil))))) (.nm 2)))) (.one (.ret (.loc 2)))))
abbrev e21 : Ent := .df 2 5 pg21
/-- words.passes -/
def pg22 : Ss := (.cons (.run (.call 12 (.cons (.loc 0) (.cons (.loc 1) .nil)))) (.one (.ret (.call 15 (.cons (.call 9 (.cons (.loc 0) .nil)) (.cons (.call 9 (.cons (.loc 1) .nil)) .nil))))))
abbrev e22 : Ent := .df 2 2 pg22
/-- words.times -/
def pg23 : Ss := (.cons (.run (.call 12 (.cons (.loc 0) (.cons (.loc 1) .nil)))) (.cons (.set (.tup (.cons (.call 9 (.cons (.loc 0) .nil)) (.cons (.call 9 (.cons (.loc 1) .nil)) .nil))) (.tp (.cons (.nm 2) (.cons (.nm 3) .nil)))) (.cons (.ifs (.nt (.tru (.call 15 (.cons (.loc 2) (.cons (.loc 3) .nil))))) (.one .bad) .nil) (.one (.ret (.call 11 (.cons (.bin .Mult (.bin .Mult (.call 10 (.cons (.loc 0) .nil)) (.call 10 (.cons (.loc 1) .nil))) (.call 19 (.cons (.loc 2) (.cons (.loc 3) .nil)))) (.cons (.call 17 (.cons (.loc 2) (.cons (.loc 3) .nil))) .nil))))))))
abbrev e23 : Ent := .df 2 4 pg23
/-- words.all_letters -/
def pg24 : Ss := (.cons (.ifs (.nt (.tru (.call 1 (.cons (.loc 0) (.cons (.c (.int 1)) (.cons (.gc (.int 4)) .nil)))))) (.one .bad) .nil) (.one (.ret (.blt .tuple (.cons (.call 20 (.cons (.loc 0) .nil)) .nil)))))
abbrev e24 : Ent := .df 1 1 pg24
/-- rigs.wires_in -/
def pg25 : Ss := (.cons .bad (.cons .bad (.one (.ret (.blt .tuple (.cons (.lc [4] (.src (.loc 0)) (.nm 4) .no (.blt .int (.cons (.loc 4) .nil))) .nil))))))
abbrev e25 : Ent := .df 2 5 pg25
/-- rigs.are_spelt -/
def pg26 : Ss := (.one (.ret (.bop true (.cons (.call 7 (.cons (.loc 0) .nil)) (.cons (.cmp .Eq (.blt .len (.cons (.loc 0) .nil)) (.loc 1)) (.one (.cmp .NotEq (.loc 0) (.call 13 (.cons (.loc 1) .nil)))))))))
abbrev e26 : Ent := .df 2 2 pg26
/-- rigs.row_in -/
def pg27 : Ss := (.cons .bad (.cons (.set (.cmp .Eq (.ix (.loc 2) (.c (.int 0))) (.gc (.str [115, 117, 114, 101]))) (.nm 3)) (.cons (.set (.tup (.cons (.ife (.tru (.loc 3)) (.ix (.bin .Add (.sl (.loc 2) (.on (.c (.int 1))) .no) (.lst (.cons (.c (.str [])) .nil))) (.c (.int 0))) (.ix (.loc 2) (.c (.int 0)))) (.cons (.ife (.tru (.loc 3)) (.sl (.loc 2) (.on (.gc (.int 2))) .no) (.sl (.loc 2) (.on (.c (.int 1))) .no)) .nil))) (.tp (.cons (.nm 5) (.cons (.nm 6) .nil)))) (.cons (.ifs (.cmp .In (.loc 5) (.gc (.tup [.str [102, 108, 105, 112], .str [108, 111, 111, 107]]))) (.cons (.set (.bop true (.cons (.cmp .Eq (.blt .len (.cons (.loc 6) .nil)) (.c (.int 1))) (.cons (.call 26 (.cons (.ix (.loc 6) (.c (.int 0))) (.cons (.loc 0) .nil))) (.one (.nt (.bop true (.cons (.loc 3) (.one (.cmp .Eq (.loc 5) (.gc (.str [102, 108, 105, 112]))))))))))) (.nm 7)) (.one (.ret (.ife (.tru (.loc 7)) (.tup (.cons (.loc 5) (.cons (.tup .nil) (.cons (.ix (.loc 6) (.c (.int 0))) (.cons (.bop false (.cons (.loc 3) (.one (.cmp .Eq (.loc 5) (.gc (.str [102, 108, 105, 112])))))) .nil))))) (.c (.non)))))) .nil) (.cons (.set (.call 25 (.cons (.loc 6) (.cons (.loc 0) .nil))) (.nm 4)) (.cons (.ifs (.bop false (.cons (.cmp .Is (.loc 4) (.c (.non))) (.one (.nt (.bop false (.cons (.bop true (.cons (.cmp .In (.loc 5) (.gc (.tup [.str [104], .str [115], .str [114, 101, 115, 101, 116], .str [119, 97, 105, 116]]))) (.one (.cmp .Eq (.blt .len (.cons (.loc 4) .nil)) (.c (.int 1)))))) (.one (.bop true (.cons (.cmp .In (.loc 5) (.gc (.tup [.str [99, 122], .str [99, 120], .str [115, 119, 97, 112]]))) (.one (.cmp .Eq (.blt .len (.cons (.loc 4) .nil)) (.gc (.int 2))))))))))))) (.one (.ret (.c (.non)))) .nil) (.one (.ret (.tup (.cons (.loc 5) (.cons (.loc 4) (.cons (.c (.str [])) (.cons (.loc 3) .nil)))))))))))))
abbrev e27 : Ent := .df 2 8 pg27
/-- rigs.line_of -/
def pg28 : Ss := (.cons (.set (.loc 0) (.tp (.cons (.nm 3) (.cons (.nm 4) (.cons (.nm 5) (.cons (.nm 6) .nil)))))) (.cons (.set (.ife (.bop true (.cons (.tru (.loc 6)) (.one (.cmp .NotEq (.loc 3) (.gc (.str [102, 108, 105, 112])))))) (.lst (.cons (.gc (.str [115, 117, 114, 101])) .nil)) (.lst .nil)) (.nm 1)) (.cons .bad (.one .bad))))
abbrev e28 : Ent := .df 1 8 pg28
/-- rigs.are_started -/
def pg29 : Ss := (.cons (.ifs (.bop false (.cons (.cmp .NotEq (.blt .len (.cons (.loc 0) .nil)) (.loc 1)) (.one (.nt (.tru (.blt .all (.cons (.lc [4] (.src (.loc 0)) (.nm 4) .no (.bop true (.cons (.call 8 (.cons (.loc 4) .nil)) (.one (.cmp .Eq (.blt .len (.cons (.call 9 (.cons (.loc 4) .nil)) .nil)) (.loc 1)))))) .nil))))))) (.one (.ret (.c (.bl false)))) .nil) (.cons .bad (.one (.ret (.cmp .NotIn (.call 13 (.cons (.loc 1) .nil)) (.sl (.call 21 (.cons (.loc 0) (.cons (.loc 1) .nil))) (.on (.c (.int 1))) .no))))))
abbrev e29 : Ent := .df 2 5 pg29
/-- rigs.Reading.__init__ -/
def pg30 : Ss := (.one .bad)
abbrev e30 : Ent := .df 1 2 pg30
/-- rigs.Reading.take -/
def pg31 : Ss := (.one .bad)
abbrev e31 : Ent := .df 2 3 pg31
/-- rigs.Reading.take_wires -/
def pg32 : Ss := (.one .bad)
abbrev e32 : Ent := .df 2 4 pg32
/-- rigs.Reading.take_start -/
def pg33 : Ss := (.one .bad)
abbrev e33 : Ent := .df 2 2 pg33
/-- rigs.Reading.take_part -/
def pg34 : Ss := (.one .bad)
abbrev e34 : Ent := .df 2 4 pg34
/-- rigs.Reading.take_kept -/
def pg35 : Ss := (.one .bad)
abbrev e35 : Ent := .df 2 4 pg35
/-- rigs.Reading.take_row -/
def pg36 : Ss := (.one .bad)
abbrev e36 : Ent := .df 2 3 pg36
/-- rigs.read -/
def pg37 : Ss := (.cons (.ifs (.nt (.tru (.isi .str (.loc 0)))) (.one .bad) .nil) (.cons .bad (.cons .bad (.cons .bad (.one (.ret (.loc 2)))))))
abbrev e37 : Ent := .df 1 5 pg37
/-- rigs.Rig.__init__ -/
def pg38 : Ss := (.one .bad)
abbrev e38 : Ent := .df 2 5 pg38
/-- rigs.Rig.text -/
def pg39 : Ss := (.one .bad)
abbrev e39 : Ent := .df 1 1 pg39
/-- rigs.Rig.wires -/
def pg40 : Ss := (.one .bad)
abbrev e40 : Ent := .df 1 1 pg40
/-- rigs.Rig.start -/
def pg41 : Ss := (.one .bad)
abbrev e41 : Ent := .df 1 1 pg41
/-- rigs.Rig.kept -/
def pg42 : Ss := (.one .bad)
abbrev e42 : Ent := .df 1 1 pg42
/-- rigs.Rig.rows -/
def pg43 : Ss := (.one .bad)
abbrev e43 : Ent := .df 2 2 pg43
/-- rigs.Rig.lines -/
def pg44 : Ss := (.one .bad)
abbrev e44 : Ent := .df 2 3 pg44
/-- rigs.Rig.looks -/
def pg45 : Ss := (.one .bad)
abbrev e45 : Ent := .df 2 6 pg45
/-- rigs.Rig.put -/
def pg46 : Ss := (.one .bad)
abbrev e46 : Ent := .df 4 6 pg46
/-- rigs.Rig.without -/
def pg47 : Ss := (.one .bad)
abbrev e47 : Ent := .df 3 4 pg47
/-- rigs.Rig.sure -/
def pg48 : Ss := (.one .bad)
abbrev e48 : Ent := .df 3 8 pg48
/-- rigs.Rig.__len__ -/
def pg49 : Ss := (.one .bad)
abbrev e49 : Ent := .df 1 1 pg49
/-- rigs.Rig.__eq__ -/
def pg50 : Ss := (.one .bad)
abbrev e50 : Ent := .df 2 2 pg50
/-- rigs.check_part -/
def pg51 : Ss := (.one (.ifs (.nt (.tru (.call 3 (.cons (.loc 0) (.cons (.gc (.tup [.str [98, 101, 103, 105, 110], .str [114, 111, 117, 110, 100], .str [101, 110, 100]])) .nil))))) (.one .bad) .nil))
abbrev e51 : Ent := .df 1 1 pg51
/-- rigs.check_line -/
def pg52 : Ss := (.cons (.run (.call 51 (.cons (.loc 1) .nil))) (.one .bad))
abbrev e52 : Ent := .df 3 3 pg52
/-- rigs.check_rounds -/
def pg53 : Ss := (.one (.ifs (.nt (.tru (.call 1 (.cons (.loc 0) (.cons (.c (.int 0)) (.cons (.gc (.int 6)) .nil)))))) (.one .bad) .nil))
abbrev e53 : Ent := .df 1 1 pg53
/-- rigs.rig_with -/
def pg54 : Ss := (.cons .bad (.cons (.fr (.src (.gc (.tup [.str [98, 101, 103, 105, 110], .str [114, 111, 117, 110, 100], .str [101, 110, 100]]))) (.nm 4) (.cons (.run (.mth .app (.loc 3) (.cons (.loc 4) .nil))) (.one .bad))) (.one .bad)))
abbrev e54 : Ent := .df 3 6 pg54
/-- rigs.run_of -/
def pg55 : Ss := (.cons .bad (.cons (.fr (.rg1 (.cons (.loc 1) .nil)) (.nm 3) (.one .bad)) (.one .bad)))
abbrev e55 : Ent := .df 2 6 pg55
/-- frames.number_of -/
def pg56 : Ss := (.cons (.set (.c (.int 0)) (.nm 1)) (.cons (.fr (.src (.loc 0)) (.nm 2) (.one .bad)) (.one (.ret (.loc 1)))))
abbrev e56 : Ent := .df 1 3 pg56
/-- frames.letters_of -/
def pg57 : Ss := (.cons (.set (.c (.str [])) (.nm 2)) (.cons (.fr (.rg1 (.cons (.loc 0) .nil)) (.nm 3) (.cons (.set (.bin .Add (.ix (.gc (.str [73, 88, 89, 90])) (.bin .Mod (.loc 1) (.gc (.int 4)))) (.loc 2)) (.nm 2)) (.one (.set (.bin .FloorDiv (.loc 1) (.gc (.int 4))) (.nm 1))))) (.one (.ret (.loc 2)))))
abbrev e57 : Ent := .df 2 4 pg57
/-- frames.numbers_at -/
def pg58 : Ss := (.cons (.set (.lst (.cons (.c (.int 0)) .nil)) (.nm 2)) (.cons (.fr (.src (.loc 1)) (.nm 3) (.one .bad)) (.one (.ret (.lc [4] (.src (.loc 2)) (.nm 4) (.on (.cmp .Gt (.loc 4) (.c (.int 0)))) (.loc 4))))))
abbrev e58 : Ent := .df 2 6 pg58
/-- frames.changed -/
def pg59 : Ss := (.one .bad)
abbrev e59 : Ent := .df 3 3 pg59
/-- frames.is_bent -/
def pg60 : Ss := (.one (.ret (.cmp .In (.loc 0) (.tup (.cons (.gc (.str [88])) (.cons (.ix (.gc (.str [73, 88, 89, 90])) (.gc (.int 2))) .nil))))))
abbrev e60 : Ent := .df 1 1 pg60
/-- frames.led_phase -/
def pg61 : Ss := (.cons (.set (.ife (.tru (.call 60 (.cons (.ix (.loc 0) (.loc 1)) .nil))) (.call 59 (.cons (.loc 0) (.cons (.loc 2) (.cons (.c (.str [90, 89, 88, 73])) .nil)))) (.loc 0)) (.nm 3)) (.one (.ret (.ife (.tru (.call 60 (.cons (.ix (.loc 0) (.loc 2)) .nil))) (.call 59 (.cons (.loc 3) (.cons (.loc 1) (.cons (.c (.str [90, 89, 88, 73])) .nil)))) (.loc 3)))))
abbrev e61 : Ent := .df 3 4 pg61
/-- frames.led_swap -/
def pg62 : Ss := (.cons (.set (.blt .list (.cons (.loc 0) .nil)) (.nm 3)) (.cons .bad (.one (.ret (.mth .join (.c (.str [])) (.cons (.loc 3) .nil))))))
abbrev e62 : Ent := .df 3 4 pg62
/-- frames.led_letters -/
def pg63 : Ss := (.cons (.set (.sl (.loc 0) .no (.on (.gc (.int 2)))) (.tp (.cons (.nm 2) (.cons (.nm 3) .nil)))) (.cons .bad (.one (.ret (.loc 1)))))
abbrev e63 : Ent := .df 2 5 pg63
/-- frames.is_flipped -/
def pg64 : Ss := (.one (.ret (.bop true (.cons (.cmp .Eq (.ix (.loc 0) (.c (.int 0))) (.gc (.str [108, 111, 111, 107]))) (.one (.nt (.call 15 (.cons (.ix (.loc 0) (.gc (.int 2))) (.cons (.loc 1) .nil)))))))))
abbrev e64 : Ent := .df 2 2 pg64
/-- frames.steps_from -/
def pg65 : Ss := (.cons (.set (.loc 0) (.tp (.cons (.nm 6) (.cons (.nm 7) (.cons (.nm 8) (.cons (.nm 9) .nil)))))) (.cons (.set (.call 56 (.cons (.call 63 (.cons (.loc 0) (.cons (.loc 2) .nil))) .nil)) (.nm 3)) (.cons (.ifs (.cmp .Eq (.loc 6) (.gc (.str [108, 111, 111, 107]))) (.cons (.set (.ife (.tru (.call 15 (.cons (.loc 8) (.cons (.loc 2) .nil)))) (.c (.int 0)) (.c (.int 1))) (.nm 10)) (.cons (.ifs (.bop true (.cons (.cmp .Gt (.loc 10) (.c (.int 0))) (.one (.tru (.loc 9))))) (.one (.ret (.dct .nil))) .nil) (.one (.ret (.dct (.cons (.loc 3) (.loc 10) (.cons (.bin .BitXor (.loc 3) (.call 56 (.cons (.loc 8) .nil))) (.loc 10) .nil))))))) .nil) (.cons (.set (.dct (.cons (.loc 3) (.c (.int 0)) .nil)) (.nm 4)) (.cons (.ifs (.cmp .Eq (.loc 6) (.gc (.str [114, 101, 115, 101, 116]))) (.one (.put (.loc 4) (.bin .BitXor (.loc 3) (.call 56 (.cons (.call 14 (.cons (.loc 1) (.cons (.ix (.loc 7) (.c (.int 0))) (.cons (.gc (.str [90])) .nil)))) .nil))) (.c (.int 0)))) .nil) (.cons (.fr (.src (.ife (.nt (.tru (.loc 9))) (.call 58 (.cons (.loc 1) (.cons (.loc 7) .nil))) (.lst .nil))) (.nm 5) (.one (.ifs (.cmp .NotIn (.bin .BitXor (.loc 3) (.loc 5)) (.loc 4)) (.one (.put (.loc 4) (.bin .BitXor (.loc 3) (.loc 5)) (.c (.int 1)))) .nil))) (.one (.ret (.loc 4)))))))))
abbrev e65 : Ent := .df 3 11 pg65
/-- frames.step_table -/
def pg66 : Ss := (.one .bad)
abbrev e66 : Ent := .df 2 3 pg66
/-- frames.check_frame -/
def pg67 : Ss := (.one .bad)
abbrev e67 : Ent := .df 2 2 pg67
/-- frames.led -/
def pg68 : Ss := (.cons (.run (.call 51 (.cons (.loc 1) .nil))) (.cons (.run (.call 67 (.cons (.loc 0) (.cons (.loc 2) .nil)))) (.cons (.set (.lst .nil) (.nm 3)) (.cons .bad (.one (.ret (.tup (.cons (.loc 2) (.cons (.blt .tuple (.cons (.loc 3) .nil)) .nil)))))))))
abbrev e68 : Ent := .df 3 5 pg68
/-- frames.steps -/
def pg69 : Ss := (.cons (.run (.call 52 (.cons (.loc 0) (.cons (.loc 1) (.cons (.loc 2) .nil))))) (.cons (.run (.call 67 (.cons (.loc 0) (.cons (.loc 3) .nil)))) (.cons .bad (.one .bad))))
abbrev e69 : Ent := .df 4 6 pg69
/-- runs.turns_sign -/
def pg70 : Ss := (.cons (.set (.loc 0) (.tp (.cons (.nm 3) (.cons (.nm 4) (.cons (.nm 5) (.cons (.nm 6) .nil)))))) (.cons (.ifs (.cmp .Eq (.loc 3) (.gc (.str [102, 108, 105, 112]))) (.one (.ret (.blt .int (.cons (.nt (.call 15 (.cons (.loc 5) (.cons (.loc 1) .nil)))) .nil)))) .nil) (.cons (.set (.lc [7] (.src (.loc 4)) (.nm 7) .no (.ix (.loc 1) (.loc 7))) (.nm 2)) (.cons .bad (.one (.ret (.c (.int 0))))))))
abbrev e70 : Ent := .df 2 8 pg70
/-- runs.turned_by_three -/
def pg71 : Ss := (.cons (.set (.c (.int 0)) (.nm 2)) (.cons (.fr (.src (.tup (.cons (.tup (.cons (.c (.str [104])) (.cons (.sl (.loc 0) (.on (.c (.int 1))) .no) (.cons (.c (.str [])) (.cons (.c (.bl true)) .nil))))) (.cons (.tup (.cons (.c (.str [99, 122])) (.cons (.loc 0) (.cons (.c (.str [])) (.cons (.c (.bl true)) .nil))))) (.cons (.tup (.cons (.c (.str [104])) (.cons (.sl (.loc 0) (.on (.c (.int 1))) .no) (.cons (.c (.str [])) (.cons (.c (.bl true)) .nil))))) .nil))))) (.nm 3) (.cons (.set (.bin .BitXor (.loc 2) (.call 70 (.cons (.loc 3) (.cons (.loc 1) .nil)))) (.nm 2)) (.one (.set (.call 63 (.cons (.loc 3) (.cons (.loc 1) .nil))) (.nm 1))))) (.one (.ret (.loc 2)))))
abbrev e71 : Ent := .df 2 4 pg71
/-- runs.both -/
def pg72 : Ss := (.one (.ret (.tup (.cons (.bin .BitXor (.ix (.loc 0) (.c (.int 0))) (.ix (.loc 1) (.c (.int 0)))) (.cons (.bin .BitXor (.ix (.loc 0) (.c (.int 1))) (.ix (.loc 1) (.c (.int 1)))) .nil)))))
abbrev e72 : Ent := .df 2 2 pg72
/-- runs.with_word -/
def pg73 : Ss := (.cons .bad (.cons .bad (.one (.ret (.loc 3)))))
abbrev e73 : Ent := .df 3 7 pg73
/-- runs.first_stand -/
def pg74 : Ss := (.cons .bad (.cons .bad (.one (.ret (.loc 1)))))
abbrev e74 : Ent := .df 1 3 pg74
/-- runs.led_stand -/
def pg75 : Ss := (.one .bad)
abbrev e75 : Ent := .df 2 4 pg75
/-- runs.reset_stand -/
def pg76 : Ss := (.cons (.set (.tup (.cons (.ix (.ix (.loc 0) (.c (.int 1))) (.c (.int 0))) (.cons (.blt .len (.cons (.ix (.blt .list (.cons (.loc 1) .nil)) (.c (.int 0))) .nil)) .nil))) (.tp (.cons (.nm 3) (.cons (.nm 4) .nil)))) (.cons .bad (.one (.ret (.call 73 (.cons (.loc 2) (.cons (.call 14 (.cons (.loc 4) (.cons (.loc 3) (.cons (.gc (.str [90])) .nil)))) (.cons (.tup (.cons (.c (.int 0)) (.cons (.c (.int 0)) .nil))) .nil))))))))
abbrev e76 : Ent := .df 2 7 pg76
/-- runs.looked_stand -/
def pg77 : Ss := (.one .bad)
abbrev e77 : Ent := .df 3 5 pg77
/-- runs.Telling.__init__ -/
def pg78 : Ss := (.one .bad)
abbrev e78 : Ent := .df 3 9 pg78
/-- runs.Telling.look -/
def pg79 : Ss := (.one .bad)
abbrev e79 : Ent := .df 3 4 pg79
/-- runs.Telling.tells -/
def pg80 : Ss := (.one .bad)
abbrev e80 : Ent := .df 2 3 pg80
/-- runs.Telling.mask_of -/
def pg81 : Ss := (.one .bad)
abbrev e81 : Ent := .df 2 4 pg81
/-- runs.Telling.can_tell -/
def pg82 : Ss := (.one .bad)
abbrev e82 : Ent := .df 2 2 pg82
/-- runs.Telling.kept_by -/
def pg83 : Ss := (.one .bad)
abbrev e83 : Ent := .df 2 4 pg83
/-- runs.Telling.corners -/
def pg84 : Ss := (.one .bad)
abbrev e84 : Ent := .df 1 2 pg84
/-- runs.value_by -/
def pg85 : Ss := (.cons (.set (.tup (.cons (.ix (.loc 0) (.c (.int 0))) (.cons (.bin .BitAnd (.ix (.loc 0) (.c (.int 1))) (.loc 1)) .nil))) (.tp (.cons (.nm 2) (.cons (.nm 3) .nil)))) (.cons (.whl (.cmp .Gt (.loc 3) (.c (.int 0))) (.one (.set (.tup (.cons (.bin .BitXor (.loc 2) (.bin .BitAnd (.loc 3) (.c (.int 1)))) (.cons (.bin .RShift (.loc 3) (.c (.int 1))) .nil))) (.tp (.cons (.nm 2) (.cons (.nm 3) .nil)))))) (.one (.ret (.loc 2)))))
abbrev e85 : Ent := .df 2 4 pg85
/-- runs.first -/
def pg86 : Ss := (.cons (.run (.call 53 (.cons (.loc 1) .nil))) (.one .bad))
abbrev e86 : Ent := .df 2 2 pg86
/-- runs.many -/
def pg87 : Ss := (.cons (.run (.call 53 (.cons (.loc 1) .nil))) (.one .bad))
abbrev e87 : Ent := .df 2 2 pg87
/-- runs.steady_rows -/
def pg88 : Ss := (.cons (.set (.lst .nil) (.nm 1)) (.cons .bad (.cons (.set (.lst .nil) (.nm 2)) (.cons .bad (.one (.ret (.loc 2)))))))
abbrev e88 : Ent := .df 1 12 pg88
/-- runs.cleared -/
def pg89 : Ss := (.one (.ret (.ife (.cmp .Eq (.bin .BitAnd (.bin .RShift (.ix (.loc 0) (.c (.int 0))) (.loc 2)) (.c (.int 1))) (.c (.int 1))) (.tup (.cons (.bin .BitXor (.ix (.loc 0) (.c (.int 0))) (.ix (.loc 1) (.c (.int 0)))) (.cons (.bin .BitXor (.ix (.loc 0) (.c (.int 1))) (.ix (.loc 1) (.c (.int 1)))) .nil))) (.loc 0))))
abbrev e89 : Ent := .df 3 3 pg89
/-- runs.numbers_in -/
def pg90 : Ss := (.cons (.set (.tup (.cons (.lst .nil) (.cons (.c (.int 0)) .nil))) (.tp (.cons (.nm 1) (.cons (.nm 2) .nil)))) (.cons (.whl (.cmp .Gt (.bin .RShift (.loc 0) (.loc 2)) (.c (.int 0))) (.cons (.run (.mth .ext (.loc 1) (.cons (.ife (.cmp .Eq (.bin .BitAnd (.bin .RShift (.loc 0) (.loc 2)) (.c (.int 1))) (.c (.int 1))) (.lst (.cons (.loc 2) .nil)) (.lst .nil)) .nil))) (.one (.aug 2 .Add (.c (.int 1)))))) (.one (.ret (.blt .tuple (.cons (.loc 1) .nil))))))
abbrev e90 : Ent := .df 1 3 pg90
/-- runs.steady -/
def pg91 : Ss := (.cons (.run (.call 53 (.cons (.loc 1) .nil))) (.one .bad))
abbrev e91 : Ent := .df 2 4 pg91
/-- runs.values -/
def pg92 : Ss := (.cons (.run (.call 53 (.cons (.loc 1) .nil))) (.cons .bad (.cons .bad (.one .bad))))
abbrev e92 : Ent := .df 3 4 pg92
/-- runs.both_told -/
def pg93 : Ss := (.cons .bad (.cons (.run (.call 53 (.cons (.loc 2) .nil))) (.cons .bad (.one .bad))))
abbrev e93 : Ent := .df 3 3 pg93
/-- runs.do_part -/
def pg94 : Ss := (.cons .bad (.one .bad))
abbrev e94 : Ent := .df 3 3 pg94
/-- runs.parting -/
def pg95 : Ss := (.cons .bad (.one (.ret (.ife (.cmp .NotEq (.loc 2) (.lst .nil)) (.ix (.loc 2) (.c (.int 0))) (.c (.non))))))
abbrev e95 : Ent := .df 2 4 pg95
/-- runs.same -/
def pg96 : Ss := (.cons (.set (.call 93 (.cons (.loc 0) (.cons (.loc 1) (.cons (.loc 2) .nil)))) (.tp (.cons (.nm 4) (.cons (.nm 5) .nil)))) (.cons (.set (.call 95 (.cons (.loc 4) (.cons (.loc 5) .nil))) (.nm 3)) (.one (.ret (.ife (.cmp .Is (.loc 3) (.c (.non))) (.tup (.cons (.gc (.str [115, 97, 109, 101])) .nil)) (.tup (.cons (.gc (.str [97, 112, 97, 114, 116])) (.cons (.loc 3) .nil))))))))
abbrev e96 : Ent := .df 3 6 pg96
/-- runs.shows_same -/
def pg97 : Ss := (.cons (.set (.call 93 (.cons (.loc 0) (.cons (.loc 1) (.cons (.loc 2) .nil)))) (.tp (.cons (.nm 4) (.cons (.nm 5) .nil)))) (.cons (.ifs (.bop false (.cons (.nt (.tru (.isi .tup (.loc 3)))) (.cons (.cmp .Eq (.loc 3) (.tup .nil)) (.one (.nt (.tru (.isi .str (.ix (.loc 3) (.c (.int 0)))))))))) (.one (.ret (.c (.bl false)))) .nil) (.cons (.ifs (.cmp .Eq (.ix (.loc 3) (.c (.int 0))) (.gc (.str [115, 97, 109, 101]))) (.one (.ret (.bop true (.cons (.cmp .Eq (.blt .len (.cons (.loc 3) .nil)) (.c (.int 1))) (.one (.cmp .Is (.call 95 (.cons (.loc 4) (.cons (.loc 5) .nil))) (.c (.non)))))))) .nil) (.cons .bad (.one (.ret (.call 94 (.cons (.loc 4) (.cons (.loc 5) (.cons (.ix (.loc 3) (.c (.int 1))) .nil))))))))))
abbrev e97 : Ent := .df 4 6 pg97
/-- faults.spoilings -/
def pg98 : Ss := (.cons (.ifs (.tru (.ix (.loc 1) (.neg (.c (.int 1))))) (.one (.ret (.lst .nil))) .nil) (.cons (.ifs (.cmp .Eq (.ix (.loc 1) (.c (.int 0))) (.gc (.str [108, 111, 111, 107]))) (.one (.ret (.lst (.cons (.gc (.str [119, 114, 111, 110, 103])) .nil)))) .nil) (.one .bad)))
abbrev e98 : Ent := .df 2 3 pg98
/-- faults.faults -/
def pg99 : Ss := (.cons (.run (.call 53 (.cons (.loc 1) .nil))) (.cons (.set (.lst .nil) (.nm 2)) (.cons (.fr (.src (.call 55 (.cons (.loc 0) (.cons (.loc 1) .nil)))) (.tp (.cons (.nm 3) (.cons (.nm 4) (.cons (.nm 5) (.cons (.nm 6) .nil))))) (.one (.run (.mth .ext (.loc 2) (.cons (.lc [7] (.src (.call 98 (.cons (.loc 0) (.cons (.loc 6) .nil)))) (.nm 7) .no (.tup (.cons (.loc 3) (.cons (.loc 4) (.cons (.loc 5) (.cons (.loc 7) .nil)))))) .nil))))) (.one .bad))))
abbrev e99 : Ent := .df 2 8 pg99
/-- faults.is_fault -/
def pg100 : Ss := (.cons (.ifs (.bop false (.cons (.nt (.tru (.call 2 (.cons (.loc 2) (.cons (.gc (.int 4)) (.cons (.gc (.int 4)) .nil)))))) (.one (.nt (.tru (.call 3 (.cons (.ix (.loc 2) (.c (.int 0))) (.cons (.gc (.tup [.str [98, 101, 103, 105, 110], .str [114, 111, 117, 110, 100], .str [101, 110, 100]])) .nil)))))))) (.one (.ret (.c (.bl false)))) .nil) (.cons (.set (.loc 2) (.tp (.cons (.nm 4) (.cons (.nm 5) (.cons (.nm 6) (.cons (.nm 7) .nil)))))) (.cons .bad (.cons (.ifs (.bop false (.cons (.nt (.tru (.call 1 (.cons (.loc 5) (.cons (.c (.int 0)) (.cons (.ife (.cmp .Eq (.loc 4) (.gc (.str [114, 111, 117, 110, 100]))) (.bin .Sub (.loc 1) (.c (.int 1))) (.c (.int 0))) .nil)))))) (.one (.nt (.tru (.call 1 (.cons (.loc 6) (.cons (.c (.int 0)) (.cons (.bin .Sub (.blt .len (.cons (.loc 3) .nil)) (.c (.int 1))) .nil))))))))) (.one (.ret (.c (.bl false)))) .nil) (.one (.ret (.call 3 (.cons (.loc 7) (.cons (.call 98 (.cons (.loc 0) (.cons (.ix (.loc 3) (.loc 6)) .nil))) .nil)))))))))
abbrev e100 : Ent := .df 3 8 pg100
/-- faults.is_lot -/
def pg101 : Ss := (.cons (.ifs (.bop false (.cons (.nt (.tru (.isi .tup (.loc 2)))) (.one (.nt (.tru (.blt .all (.cons (.lc [3] (.src (.loc 2)) (.nm 3) .no (.call 100 (.cons (.loc 0) (.cons (.loc 1) (.cons (.loc 3) .nil))))) .nil))))))) (.one (.ret (.c (.bl false)))) .nil) (.one (.ret (.bop true (.cons (.call 4 (.cons (.loc 2) .nil)) (.one (.nt (.blt .any (.cons (.lc [3, 4] (.zip (.cons (.loc 2) (.cons (.sl (.loc 2) (.on (.c (.int 1))) .no) .nil))) (.tp (.cons (.nm 3) (.cons (.nm 4) .nil))) .no (.cmp .Eq (.sl (.loc 3) .no (.on (.gc (.int 3)))) (.sl (.loc 4) .no (.on (.gc (.int 3)))))) .nil)))))))))
abbrev e101 : Ent := .df 3 5 pg101
/-- faults.check_lot -/
def pg102 : Ss := (.one (.ifs (.nt (.tru (.call 101 (.cons (.loc 0) (.cons (.loc 1) (.cons (.loc 2) .nil)))))) (.one .bad) .nil))
abbrev e102 : Ent := .df 3 3 pg102
/-- faults.flipped_by -/
def pg103 : Ss := (.cons .bad (.cons .bad (.cons (.fr (.src (.call 55 (.cons (.loc 0) (.cons (.loc 1) .nil)))) (.tp (.cons (.nm 6) (.cons (.nm 7) (.cons (.nm 8) (.cons (.nm 9) .nil))))) (.cons (.set (.mth .get (.loc 3) (.cons (.tup (.cons (.loc 6) (.cons (.loc 7) (.cons (.loc 8) .nil)))) (.cons (.c (.str [])) .nil))) (.nm 10)) (.cons (.ifs (.cmp .Eq (.ix (.loc 9) (.c (.int 0))) (.gc (.str [108, 111, 111, 107]))) (.one (.run (.mth .app (.loc 5) (.cons (.blt .int (.cons (.cmp .NotEq (.call 64 (.cons (.loc 9) (.cons (.loc 4) .nil))) (.cmp .Eq (.loc 10) (.gc (.str [119, 114, 111, 110, 103])))) .nil)) .nil)))) .nil) (.cons (.set (.call 63 (.cons (.loc 9) (.cons (.loc 4) .nil))) (.nm 4)) (.one (.ifs (.cmp .NotIn (.loc 10) (.tup (.cons (.c (.str [])) (.cons (.gc (.str [119, 114, 111, 110, 103])) .nil)))) (.one (.set (.call 17 (.cons (.loc 4) (.cons (.loc 10) .nil))) (.nm 4))) .nil)))))) (.one .bad))))
abbrev e103 : Ent := .df 3 13 pg103
/-- faults.flips -/
def pg104 : Ss := (.cons (.run (.call 53 (.cons (.loc 1) .nil))) (.cons (.run (.call 102 (.cons (.loc 0) (.cons (.loc 1) (.cons (.loc 2) .nil))))) (.one (.ret (.call 103 (.cons (.loc 0) (.cons (.loc 1) (.cons (.loc 2) .nil))))))))
abbrev e104 : Ent := .df 3 3 pg104
/-- faults.count_of -/
def pg105 : Ss := (.one .bad)
abbrev e105 : Ent := .df 1 1 pg105
/-- faults.Leading.__init__ -/
def pg106 : Ss := (.one .bad)
abbrev e106 : Ent := .df 2 7 pg106
/-- faults.Leading.led -/
def pg107 : Ss := (.one .bad)
abbrev e107 : Ent := .df 2 2 pg107
/-- faults.Leading.is_flipped -/
def pg108 : Ss := (.one .bad)
abbrev e108 : Ent := .df 2 2 pg108
/-- faults.Leading.idle -/
def pg109 : Ss := (.one .bad)
abbrev e109 : Ent := .df 2 2 pg109
/-- faults.first_frames -/
def pg110 : Ss := (.one .bad)
abbrev e110 : Ent := .df 1 2 pg110
/-- faults.unseen -/
def pg111 : Ss := (.cons .bad (.cons (.set (.call 110 (.cons (.loc 0) .nil)) (.nm 3)) (.cons (.fr (.src (.call 55 (.cons (.loc 0) (.cons (.loc 1) .nil)))) (.tp (.cons (.nm 6) (.cons (.nm 7) (.cons (.nm 8) (.cons (.nm 9) .nil))))) (.cons (.set (.lc [16] (.src (.loc 5)) (.nm 16) .no (.mth .get (.loc 16) (.cons (.tup (.cons (.loc 6) (.cons (.loc 7) (.cons (.loc 8) .nil)))) (.cons (.c (.str [])) .nil)))) (.nm 10)) (.cons (.ifs (.cmp .Eq (.ix (.loc 9) (.c (.int 0))) (.gc (.str [108, 111, 111, 107]))) (.cons .bad (.one (.set (.lc [20] (.src (.loc 3)) (.nm 20) (.on (.cmp .Eq (.ix (.loc 18) (.loc 20)) (.loc 17))) (.loc 20)) (.nm 3)))) .nil) (.cons .bad (.cons (.fr (.src (.loc 10)) (.nm 11) (.one (.set (.bin .BitXor (.loc 14) (.ife (.cmp .NotIn (.loc 11) (.tup (.cons (.c (.str [])) (.cons (.gc (.str [119, 114, 111, 110, 103])) .nil)))) (.call 56 (.cons (.loc 11) .nil)) (.c (.int 0)))) (.nm 14)))) (.cons .bad (.one .bad))))))) (.one (.ret (.loc 3))))))
abbrev e111 : Ent := .df 3 22 pg111
/-- faults.kept_flips -/
def pg112 : Ss := (.cons (.set (.lst .nil) (.nm 2)) (.cons .bad (.one (.ret (.blt .tuple (.cons (.loc 2) .nil))))))
abbrev e112 : Ent := .df 2 6 pg112
/-- faults.mixed_by -/
def pg113 : Ss := (.cons (.set (.call 111 (.cons (.loc 0) (.cons (.loc 1) (.cons (.tup (.cons (.loc 2) (.cons (.loc 3) .nil))) .nil)))) (.nm 4)) (.one (.ret (.ife (.cmp .NotEq (.loc 4) (.lst .nil)) (.call 112 (.cons (.loc 0) (.cons (.loc 4) .nil))) (.c (.non))))))
abbrev e113 : Ent := .df 4 5 pg113
/-- faults.harms -/
def pg114 : Ss := (.cons (.set (.call 113 (.cons (.loc 0) (.cons (.loc 1) (.cons (.loc 2) (.cons (.tup .nil) .nil))))) (.nm 3)) (.one (.ret (.bop true (.cons (.cmp .IsNot (.loc 3) (.c (.non))) (.one (.blt .any (.cons (.lc [4] (.src (.loc 3)) (.nm 4) .no (.cmp .NotEq (.loc 4) (.c (.int 0)))) .nil))))))))
abbrev e114 : Ent := .df 3 5 pg114
/-- faults.is_odd -/
def pg115 : Ss := (.one (.ret (.cmp .Eq (.bin .Mod (.blt .len (.cons (.call 90 (.cons (.loc 0) .nil)) .nil)) (.gc (.int 2))) (.c (.int 1)))))
abbrev e115 : Ent := .df 1 1 pg115
/-- faults.flipped_mask -/
def pg116 : Ss := (.cons (.set (.tup (.cons (.ix (.call 103 (.cons (.loc 0) (.cons (.loc 1) (.cons (.loc 2) .nil)))) (.c (.int 0))) (.cons (.ix (.call 103 (.cons (.loc 0) (.cons (.loc 1) (.cons (.loc 3) .nil)))) (.c (.int 0))) .nil))) (.tp (.cons (.nm 4) (.cons (.nm 5) .nil)))) (.one .bad))
abbrev e116 : Ent := .df 4 8 pg116
/-- faults.apart_of -/
def pg117 : Ss := (.cons (.set (.call 116 (.cons (.loc 0) (.cons (.loc 1) (.cons (.loc 2) (.cons (.loc 3) .nil))))) (.nm 4)) (.cons .bad (.one (.ret (.tup (.cons (.gc (.str [109, 105, 120, 101, 100])) (.cons (.call 113 (.cons (.loc 0) (.cons (.loc 1) (.cons (.loc 2) (.cons (.loc 3) .nil))))) .nil)))))))
abbrev e117 : Ent := .df 4 7 pg117
/-- faults.apart -/
def pg118 : Ss := (.cons (.run (.call 53 (.cons (.loc 1) .nil))) (.cons (.run (.call 102 (.cons (.loc 0) (.cons (.loc 1) (.cons (.loc 2) .nil))))) (.cons (.run (.call 102 (.cons (.loc 0) (.cons (.loc 1) (.cons (.loc 3) .nil))))) (.one (.ret (.call 117 (.cons (.loc 0) (.cons (.loc 1) (.cons (.loc 2) (.cons (.loc 3) .nil))))))))))
abbrev e118 : Ent := .df 4 4 pg118
/-- faults.is_steady -/
def pg119 : Ss := (.cons .bad (.one (.ret (.cmp .Eq (.loc 2) (.c (.int 0))))))
abbrev e119 : Ent := .df 3 5 pg119
/-- faults.is_sum -/
def pg120 : Ss := (.cons .bad (.cons (.ifs (.bop false (.cons (.nt (.tru (.call 2 (.cons (.loc 2) (.cons (.c (.int 1)) (.cons (.loc 3) .nil)))))) (.one (.nt (.tru (.blt .all (.cons (.lc [4] (.src (.loc 2)) (.nm 4) .no (.call 1 (.cons (.loc 4) (.cons (.c (.int 0)) (.cons (.bin .Sub (.loc 3) (.c (.int 1))) .nil))))) .nil))))))) (.one (.ret (.c (.bl false)))) .nil) (.one (.ret (.call 4 (.cons (.loc 2) .nil))))))
abbrev e120 : Ent := .df 3 5 pg120
/-- faults.are_flips -/
def pg121 : Ss := (.cons (.ifs (.nt (.tru (.call 2 (.cons (.loc 0) (.cons (.blt .len (.cons (.loc 1) .nil)) (.cons (.blt .len (.cons (.loc 1) .nil)) .nil)))))) (.one (.ret (.c (.bl false)))) .nil) (.cons (.fr (.zip (.cons (.loc 0) (.cons (.loc 1) .nil))) (.tp (.cons (.nm 2) (.cons (.nm 3) .nil))) (.one (.ifs (.bop false (.cons (.cmp .NotEq (.cmp .Is (.loc 2) (.c (.non))) (.cmp .Is (.loc 3) (.c (.non)))) (.one (.bop true (.cons (.cmp .IsNot (.loc 2) (.c (.non))) (.one (.nt (.tru (.call 1 (.cons (.loc 2) (.cons (.loc 3) (.cons (.loc 3) .nil)))))))))))) (.one (.ret (.c (.bl false)))) .nil))) (.one (.ret (.c (.bl true))))))
abbrev e121 : Ent := .df 2 4 pg121
/-- faults.shows_apart -/
def pg122 : Ss := (.cons (.set (.call 118 (.cons (.loc 0) (.cons (.loc 1) (.cons (.loc 2) (.cons (.loc 3) .nil))))) (.nm 5)) (.cons (.ifs (.bop false (.cons (.nt (.tru (.call 2 (.cons (.loc 4) (.cons (.gc (.int 2)) (.cons (.gc (.int 2)) .nil)))))) (.one (.nt (.tru (.call 3 (.cons (.ix (.loc 4) (.c (.int 0))) (.cons (.tup (.cons (.ix (.loc 5) (.c (.int 0))) .nil)) .nil)))))))) (.one (.ret (.c (.bl false)))) .nil) (.cons (.ifs (.cmp .Eq (.ix (.loc 5) (.c (.int 0))) (.gc (.str [109, 105, 120, 101, 100]))) (.one (.ret (.call 121 (.cons (.ix (.loc 4) (.c (.int 1))) (.cons (.ix (.loc 5) (.c (.int 1))) .nil))))) .nil) (.cons (.ifs (.nt (.tru (.call 120 (.cons (.loc 0) (.cons (.loc 1) (.cons (.ix (.loc 4) (.c (.int 1))) .nil)))))) (.one (.ret (.c (.bl false)))) .nil) (.cons .bad (.one (.ret (.bop true (.cons (.call 119 (.cons (.loc 0) (.cons (.loc 1) (.cons (.loc 6) .nil)))) (.one (.call 115 (.cons (.bin .BitAnd (.loc 6) (.call 116 (.cons (.loc 0) (.cons (.loc 1) (.cons (.loc 2) (.cons (.loc 3) .nil)))))) .nil))))))))))))
abbrev e122 : Ent := .df 5 8 pg122
/-- fewest.check_least -/
def pg123 : Ss := (.one (.ifs (.nt (.tru (.call 1 (.cons (.loc 0) (.cons (.c (.int 0)) (.cons (.gc (.int 6)) .nil)))))) (.one .bad) .nil))
abbrev e123 : Ent := .df 1 1 pg123
/-- fewest.Walks.__init__ -/
def pg124 : Ss := (.one .bad)
abbrev e124 : Ent := .df 2 2 pg124
/-- fewest.Walks.lots -/
def pg125 : Ss := (.one .bad)
abbrev e125 : Ent := .df 2 7 pg125
/-- fewest.Walks.spoilt -/
def pg126 : Ss := (.one .bad)
abbrev e126 : Ent := .df 4 8 pg126
/-- fewest.Walks.looked -/
def pg127 : Ss := (.one .bad)
abbrev e127 : Ent := .df 5 10 pg127
/-- fewest.Walks.idled -/
def pg128 : Ss := (.one .bad)
abbrev e128 : Ent := .df 3 5 pg128
/-- fewest.Walks.behind -/
def pg129 : Ss := (.one .bad)
abbrev e129 : Ent := .df 5 8 pg129
/-- fewest.Walks.ahead -/
def pg130 : Ss := (.one .bad)
abbrev e130 : Ent := .df 5 7 pg130
/-- fewest.Walks.paper -/
def pg131 : Ss := (.one .bad)
abbrev e131 : Ent := .df 3 5 pg131
/-- fewest.Walks.paper_back -/
def pg132 : Ss := (.one .bad)
abbrev e132 : Ent := .df 3 5 pg132
/-- fewest.Walks.first_row -/
def pg133 : Ss := (.one .bad)
abbrev e133 : Ent := .df 1 3 pg133
/-- fewest.Walks.harmed -/
def pg134 : Ss := (.one .bad)
abbrev e134 : Ent := .df 1 4 pg134
/-- fewest.Walks.number_at -/
def pg135 : Ss := (.one .bad)
abbrev e135 : Ent := .df 2 4 pg135
/-- fewest.Walks.papers -/
def pg136 : Ss := (.one .bad)
abbrev e136 : Ent := .df 2 8 pg136
/-- fewest.Walks.papers_back -/
def pg137 : Ss := (.one .bad)
abbrev e137 : Ent := .df 2 9 pg137
/-- fewest.Walks.least_of -/
def pg138 : Ss := (.one .bad)
abbrev e138 : Ent := .df 2 2 pg138
/-- fewest.Walks.lines_done -/
def pg139 : Ss := (.one .bad)
abbrev e139 : Ent := .df 2 9 pg139
/-- fewest.Walks.least_rounds -/
def pg140 : Ss := (.one .bad)
abbrev e140 : Ent := .df 3 5 pg140
/-- fewest.Walks.source -/
def pg141 : Ss := (.one .bad)
abbrev e141 : Ent := .df 5 12 pg141
/-- fewest.Walks.lot_of -/
def pg142 : Ss := (.one .bad)
abbrev e142 : Ent := .df 3 15 pg142
/-- fewest.Walks.does_meet -/
def pg143 : Ss := (.one .bad)
abbrev e143 : Ent := .df 5 13 pg143
/-- fewest.Walks.lines_met -/
def pg144 : Ss := (.one .bad)
abbrev e144 : Ent := .df 3 12 pg144
/-- fewest.lesser -/
def pg145 : Ss := (.one (.ret (.lc [2, 3] (.zip (.cons (.loc 0) (.cons (.loc 1) .nil))) (.tp (.cons (.nm 2) (.cons (.nm 3) .nil))) .no (.blt .min (.cons (.loc 2) (.cons (.loc 3) .nil))))))
abbrev e145 : Ent := .df 2 4 pg145
/-- fewest.cut_papers -/
def pg146 : Ss := (.cons (.set (.blt .tuple (.cons (.lc [3] (.src (.ix (.loc 0) (.c (.int 1)))) (.nm 3) .no (.call 147 (.cons (.loc 3) (.cons (.loc 1) .nil)))) .nil)) (.nm 2)) (.one (.ret (.tup (.cons (.call 147 (.cons (.ix (.loc 0) (.c (.int 0))) (.cons (.loc 1) .nil))) (.cons (.loc 2) (.cons (.call 147 (.cons (.ix (.loc 0) (.neg (.c (.int 1)))) (.cons (.loc 1) .nil))) .nil)))))))
abbrev e146 : Ent := .df 2 4 pg146
/-- fewest.cut_paper -/
def pg147 : Ss := (.cons (.ifs (.cmp .Is (.loc 1) (.c (.non))) (.one (.ret (.blt .tuple (.cons (.lc [2] (.src (.loc 0)) (.nm 2) .no (.blt .tuple (.cons (.lc [3] (.src (.loc 2)) (.nm 3) .no (.blt .int (.cons (.cmp .GtE (.loc 3) (.gc (.int 1000000000))) .nil))) .nil))) .nil)))) .nil) (.one (.ret (.blt .tuple (.cons (.lc [2] (.src (.loc 0)) (.nm 2) .no (.blt .tuple (.cons (.lc [3] (.src (.loc 2)) (.nm 3) .no (.blt .min (.cons (.loc 3) (.cons (.loc 1) .nil)))) .nil))) .nil)))))
abbrev e147 : Ent := .df 2 4 pg147
/-- fewest.is_paper -/
def pg148 : Ss := (.cons .bad (.cons (.ifs (.bop false (.cons (.nt (.tru (.call 2 (.cons (.loc 2) (.cons (.loc 3) (.cons (.loc 3) .nil)))))) (.one (.nt (.tru (.blt .all (.cons (.lc [5] (.src (.loc 2)) (.nm 5) .no (.call 2 (.cons (.loc 5) (.cons (.loc 4) (.cons (.loc 4) .nil))))) .nil))))))) (.one (.ret (.c (.bl false)))) .nil) (.one .bad)))
abbrev e148 : Ent := .df 3 7 pg148
/-- fewest.do_join -/
def pg149 : Ss := (.one (.ret (.blt .all (.cons (.lc [2, 3] (.zip (.cons (.ix (.loc 0) (.c (.int 0))) (.cons (.ix (.loc 1) (.neg (.c (.int 1)))) .nil))) (.tp (.cons (.nm 2) (.cons (.nm 3) .nil))) .no (.cmp .LtE (.loc 2) (.loc 3))) .nil))))
abbrev e149 : Ent := .df 2 4 pg149
/-- fewest.does_keep -/
def pg150 : Ss := (.cons (.set (.bin .Add (.blt .max (.cons (.lc [5] (.src (.loc 2)) (.nm 5) .no (.blt .max (.cons (.loc 5) .nil))) .nil)) (.gc (.int 2))) (.nm 4)) (.cons .bad (.one (.ret (.c (.bl true))))))
abbrev e150 : Ent := .df 4 11 pg150
/-- fewest.are_heights -/
def pg151 : Ss := (.cons (.ifs (.bop false (.cons (.nt (.tru (.call 2 (.cons (.loc 2) (.cons (.gc (.int 3)) (.cons (.gc (.int 3)) .nil)))))) (.one (.nt (.tru (.call 2 (.cons (.ix (.loc 2) (.c (.int 1))) (.cons (.bin .Add (.loc 1) (.c (.int 1))) (.cons (.bin .Add (.loc 1) (.c (.int 1))) .nil))))))))) (.one (.ret (.c (.bl false)))) .nil) (.cons (.set (.bin .Add (.bin .Add (.lst (.cons (.tup (.cons (.gc (.str [98, 101, 103, 105, 110])) (.cons (.ix (.loc 2) (.c (.int 0))) .nil))) .nil)) (.lc [12] (.src (.ix (.loc 2) (.c (.int 1)))) (.nm 12) .no (.tup (.cons (.gc (.str [114, 111, 117, 110, 100])) (.cons (.loc 12) .nil))))) (.lst (.cons (.tup (.cons (.gc (.str [101, 110, 100])) (.cons (.ix (.loc 2) (.neg (.c (.int 1)))) .nil))) .nil))) (.nm 5)) (.cons .bad (.cons (.ifs (.nt (.tru (.blt .all (.cons (.lc [10, 11] (.src (.loc 5)) (.tp (.cons (.nm 10) (.cons (.nm 11) .nil))) .no (.bop true (.cons (.call 148 (.cons (.loc 0) (.cons (.loc 10) (.cons (.loc 11) .nil)))) (.one (.call 150 (.cons (.loc 6) (.cons (.loc 10) (.cons (.loc 11) (.cons (.loc 4) .nil))))))))) .nil)))) (.one (.ret (.c (.bl false)))) .nil) (.cons (.ifs (.tru (.blt .any (.cons (.lc [9] (.src (.call 110 (.cons (.loc 0) .nil))) (.nm 9) .no (.cmp .NotEq (.ix (.ix (.ix (.loc 2) (.c (.int 0))) (.c (.int 0))) (.loc 9)) (.c (.int 0)))) .nil))) (.one (.ret (.c (.bl false)))) .nil) (.cons (.set (.lc [10, 11] (.src (.sl (.loc 5) .no (.on (.neg (.c (.int 1)))))) (.tp (.cons (.nm 10) (.cons (.nm 11) .nil))) .no (.loc 11)) (.nm 7)) (.cons .bad (.one .bad))))))))
abbrev e151 : Ent := .df 5 15 pg151
/-- fewest.least_number -/
def pg152 : Ss := (.cons .bad (.one (.ret (.ife (.cmp .Lt (.loc 2) (.gc (.int 1000000000))) (.loc 2) (.c (.non))))))
abbrev e152 : Ent := .df 2 3 pg152
/-- fewest.least_lot -/
def pg153 : Ss := (.cons (.set (.call 152 (.cons (.loc 0) (.cons (.loc 1) .nil))) (.nm 2)) (.cons (.ifs (.cmp .Is (.loc 2) (.c (.non))) (.one (.ret (.c (.non)))) .nil) (.cons .bad (.cons .bad (.one .bad)))))
abbrev e153 : Ent := .df 2 5 pg153
/-- fewest.fewest -/
def pg154 : Ss := (.one .bad)
abbrev e154 : Ent := .df 2 6 pg154
/-- fewest.shows_fewest -/
def pg155 : Ss := (.one .bad)
abbrev e155 : Ent := .df 3 7 pg155
/-- fewest.fewest_in -/
def pg156 : Ss := (.cons (.ifs (.nt (.tru (.call 1 (.cons (.loc 1) (.cons (.c (.int 0)) (.cons (.gc (.int 40)) .nil)))))) (.one .bad) .nil) (.cons .bad (.cons .bad (.one (.ret (.ife (.cmp .Lt (.loc 3) (.gc (.int 1000000000))) (.loc 3) (.c (.non))))))))
abbrev e156 : Ent := .df 2 4 pg156
/-- fewest.thin -/
def pg157 : Ss := (.one .bad)
abbrev e157 : Ent := .df 2 7 pg157
/-- mending.check_most -/
def pg158 : Ss := (.one (.ifs (.nt (.tru (.call 1 (.cons (.loc 0) (.cons (.c (.int 0)) (.cons (.gc (.int 20)) .nil)))))) (.one .bad) .nil))
abbrev e158 : Ent := .df 1 1 pg158
/-- mending.mends -/
def pg159 : Ss := (.one .bad)
abbrev e159 : Ent := .df 3 7 pg159
/-- mending.is_mixed -/
def pg160 : Ss := (.cons (.ifs (.bop false (.cons (.nt (.tru (.call 1 (.cons (.loc 3) (.cons (.loc 2) (.cons (.gc (.int 999)) .nil)))))) (.one (.nt (.tru (.blt .all (.cons (.lc [6] (.src (.loc 4)) (.nm 6) .no (.call 101 (.cons (.loc 0) (.cons (.loc 3) (.cons (.loc 6) .nil))))) .nil))))))) (.one (.ret (.c (.bl false)))) .nil) (.cons (.ifs (.nt (.tru (.blt .all (.cons (.lc [6] (.src (.loc 4)) (.nm 6) .no (.cmp .LtE (.blt .len (.cons (.loc 6) .nil)) (.loc 1))) .nil)))) (.one (.ret (.c (.bl false)))) .nil) (.cons (.set (.call 113 (.cons (.loc 0) (.cons (.loc 3) (.cons (.ix (.loc 4) (.c (.int 0))) (.cons (.ix (.loc 4) (.c (.int 1))) .nil))))) (.nm 5)) (.one (.ret (.bop true (.cons (.cmp .IsNot (.loc 5) (.c (.non))) (.one (.blt .any (.cons (.lc [7] (.src (.loc 5)) (.nm 7) .no (.bop false (.cons (.cmp .Is (.loc 7) (.c (.non))) (.one (.cmp .Gt (.loc 7) (.c (.int 0))))))) .nil))))))))))
abbrev e160 : Ent := .df 5 8 pg160
/-- mending.shows_mends -/
def pg161 : Ss := (.one .bad)
abbrev e161 : Ent := .df 4 5 pg161
/-- guessing.passed_by -/
def pg162 : Ss := (.cons .bad (.one (.ret (.lc [3] (.rg1 (.cons (.bin .LShift (.c (.int 1)) (.bin .Mult (.gc (.int 2)) (.loc 2))) .nil)) (.nm 3) .no (.blt .int (.cons (.nt (.call 15 (.cons (.loc 1) (.cons (.call 57 (.cons (.loc 2) (.cons (.loc 3) .nil))) .nil)))) .nil))))))
abbrev e162 : Ent := .df 2 4 pg162
/-- guessing.Walk.__init__ -/
def pg163 : Ss := (.one .bad)
abbrev e163 : Ent := .df 4 10 pg163
/-- guessing.Walk.table -/
def pg164 : Ss := (.one .bad)
abbrev e164 : Ent := .df 2 3 pg164
/-- guessing.Walk.behind -/
def pg165 : Ss := (.one .bad)
abbrev e165 : Ent := .df 3 12 pg165
/-- guessing.Walk.steps -/
def pg166 : Ss := (.one .bad)
abbrev e166 : Ent := .df 5 11 pg166
/-- guessing.Walk.ends -/
def pg167 : Ss := (.one .bad)
abbrev e167 : Ent := .df 1 7 pg167
/-- guessing.Walk.lot_behind -/
def pg168 : Ss := (.one .bad)
abbrev e168 : Ent := .df 2 8 pg168
/-- guessing.check_told -/
def pg169 : Ss := (.one .bad)
abbrev e169 : Ent := .df 3 3 pg169
/-- guessing.closed_telling -/
def pg170 : Ss := (.cons .bad (.cons .bad (.one (.ret (.loc 2)))))
abbrev e170 : Ent := .df 2 5 pg170
/-- guessing.unlike -/
def pg171 : Ss := (.one (.ret (.blt .tuple (.cons (.lc [2, 3] (.zip (.cons (.loc 0) (.cons (.loc 1) .nil))) (.tp (.cons (.nm 2) (.cons (.nm 3) .nil))) .no (.bin .BitXor (.loc 2) (.loc 3))) .nil))))
abbrev e171 : Ent := .df 2 4 pg171
/-- guessing.explained -/
def pg172 : Ss := (.cons (.set (.call 170 (.cons (.loc 0) (.cons (.loc 1) .nil))) (.nm 3)) (.cons .bad (.cons .bad (.cons .bad (.cons (.ifs (.cmp .Is (.loc 6) (.c (.non))) (.one (.ret (.tup (.cons (.c (.non)) (.cons (.tup .nil) (.cons (.tup .nil) .nil)))))) .nil) (.cons .bad (.cons .bad (.cons (.set (.lc [11] (.src (.ix (.loc 6) (.c (.int 1)))) (.nm 11) .no (.call 171 (.cons (.loc 7) (.cons (.blt .tuple (.cons (.lc [12] (.src (.loc 8)) (.nm 12) .no (.ix (.loc 12) (.loc 11))) .nil)) .nil)))) (.nm 9)) (.one .bad)))))))))
abbrev e172 : Ent := .df 3 13 pg172
/-- guessing.guess -/
def pg173 : Ss := (.cons (.run (.call 53 (.cons (.loc 1) .nil))) (.cons (.run (.call 169 (.cons (.loc 0) (.cons (.loc 1) (.cons (.loc 2) .nil))))) (.one (.ret (.call 172 (.cons (.loc 0) (.cons (.loc 1) (.cons (.loc 2) .nil))))))))
abbrev e173 : Ent := .df 3 3 pg173
/-- guessing.is_explaining -/
def pg174 : Ss := (.cons (.ifs (.bop false (.cons (.nt (.tru (.call 101 (.cons (.loc 0) (.cons (.loc 1) (.cons (.loc 4) .nil)))))) (.one (.cmp .NotEq (.blt .len (.cons (.loc 4) .nil)) (.loc 3))))) (.one (.ret (.c (.bl false)))) .nil) (.one .bad))
abbrev e174 : Ent := .df 5 5 pg174
/-- guessing.are_worths -/
def pg175 : Ss := (.one (.ret (.bop true (.cons (.isi .tup (.loc 0)) (.cons (.blt .all (.cons (.lc [3] (.src (.loc 0)) (.nm 3) .no (.call 5 (.cons (.loc 3) (.cons (.loc 1) .nil)))) .nil)) (.one (.cmp .Eq (.loc 0) (.loc 2))))))))
abbrev e175 : Ent := .df 3 4 pg175
/-- guessing.shows_guess -/
def pg176 : Ss := (.cons (.run (.call 53 (.cons (.loc 1) .nil))) (.cons (.run (.call 169 (.cons (.loc 0) (.cons (.loc 1) (.cons (.loc 2) .nil))))) (.cons (.set (.call 172 (.cons (.loc 0) (.cons (.loc 1) (.cons (.loc 2) .nil)))) (.tp (.cons (.nm 4) (.cons (.nm 5) (.cons (.nm 6) .nil))))) (.cons .bad (.cons (.ifs (.cmp .Is (.loc 4) (.c (.non))) (.one (.ret (.bop true (.cons (.cmp .Is (.ix (.loc 3) (.c (.int 0))) (.c (.non))) (.one (.cmp .Eq (.ix (.loc 3) (.neg (.c (.int 1)))) (.tup .nil))))))) .nil) (.cons (.ifs (.bop false (.cons (.nt (.tru (.call 0 (.cons (.ix (.loc 3) (.c (.int 0))) .nil)))) (.one (.cmp .NotEq (.ix (.loc 3) (.c (.int 0))) (.loc 4))))) (.one (.ret (.c (.bl false)))) .nil) (.one (.ret (.call 174 (.cons (.loc 0) (.cons (.loc 1) (.cons (.loc 2) (.cons (.loc 4) (.cons (.ix (.loc 3) (.neg (.c (.int 1)))) .nil))))))))))))))
abbrev e176 : Ent := .df 4 7 pg176
/-- guessing.is_run -/
def pg177 : Ss := (.cons (.ifs (.bop false (.cons (.nt (.tru (.call 2 (.cons (.loc 1) (.cons (.gc (.int 2)) (.cons (.gc (.int 2)) .nil)))))) (.one (.nt (.tru (.call 1 (.cons (.ix (.loc 1) (.c (.int 0))) (.cons (.c (.int 0)) (.cons (.gc (.int 6)) .nil))))))))) (.one (.ret (.c (.bl false)))) .nil) (.one .bad))
abbrev e177 : Ent := .df 2 2 pg177
/-- guessing.check_runs -/
def pg178 : Ss := (.one (.ifs (.bop false (.cons (.nt (.tru (.call 2 (.cons (.loc 1) (.cons (.c (.int 1)) (.cons (.gc (.int 8)) .nil)))))) (.one (.nt (.tru (.blt .all (.cons (.lc [2] (.src (.loc 1)) (.nm 2) .no (.call 177 (.cons (.loc 0) (.cons (.loc 2) .nil)))) .nil))))))) (.one .bad) .nil))
abbrev e178 : Ent := .df 2 3 pg178
/-- guessing.ways_to_fail -/
def pg179 : Ss := (.cons (.set (.lst .nil) (.nm 1)) (.cons (.fr (.src (.gc (.tup [.str [98, 101, 103, 105, 110], .str [114, 111, 117, 110, 100], .str [101, 110, 100]]))) (.nm 2) (.one .bad)) (.one .bad)))
abbrev e179 : Ent := .df 1 6 pg179
/-- guessing.Wear.__init__ -/
def pg180 : Ss := (.one .bad)
abbrev e180 : Ent := .df 2 10 pg180
/-- guessing.Wear.behind -/
def pg181 : Ss := (.one .bad)
abbrev e181 : Ent := .df 5 10 pg181
/-- guessing.Wear.can_be -/
def pg182 : Ss := (.one .bad)
abbrev e182 : Ent := .df 4 11 pg182
/-- guessing.worn -/
def pg183 : Ss := (.cons (.run (.call 178 (.cons (.loc 0) (.cons (.loc 1) .nil)))) (.cons .bad (.cons .bad (.cons .bad (.one (.ret (.blt .tuple (.cons (.loc 4) .nil))))))))
abbrev e183 : Ent := .df 2 9 pg183
/-- choosing.is_offer -/
def pg184 : Ss := (.cons (.ifs (.bop false (.cons (.nt (.tru (.call 2 (.cons (.loc 1) (.cons (.gc (.int 4)) (.cons (.gc (.int 4)) .nil)))))) (.cons (.nt (.tru (.call 3 (.cons (.ix (.loc 1) (.c (.int 0))) (.cons (.gc (.tup [.str [98, 101, 103, 105, 110], .str [114, 111, 117, 110, 100], .str [101, 110, 100]])) .nil))))) (.one (.nt (.tru (.call 1 (.cons (.ix (.loc 1) (.neg (.c (.int 1)))) (.cons (.c (.int 1)) (.cons (.gc (.int 9)) .nil)))))))))) (.one (.ret (.c (.bl false)))) .nil) (.cons .bad (.cons (.ifs (.tru (.call 3 (.cons (.ix (.loc 1) (.bin .Sub (.gc (.int 3)) (.c (.int 1)))) (.cons (.tup (.cons (.gc (.str [115, 117, 114, 101])) .nil)) .nil)))) (.one (.ret (.bop true (.cons (.call 1 (.cons (.ix (.loc 1) (.c (.int 1))) (.cons (.c (.int 0)) (.cons (.bin .Sub (.blt .len (.cons (.loc 2) .nil)) (.c (.int 1))) .nil)))) (.one (.nt (.ix (.ix (.loc 2) (.ix (.loc 1) (.c (.int 1)))) (.neg (.c (.int 1)))))))))) .nil) (.one .bad))))
abbrev e184 : Ent := .df 2 3 pg184
/-- choosing.check_offers -/
def pg185 : Ss := (.cons (.ifs (.bop false (.cons (.nt (.tru (.call 2 (.cons (.loc 1) (.cons (.c (.int 1)) (.cons (.gc (.int 4)) .nil)))))) (.one (.nt (.tru (.blt .all (.cons (.lc [2] (.src (.loc 1)) (.nm 2) .no (.call 184 (.cons (.loc 0) (.cons (.loc 2) .nil)))) .nil))))))) (.one .bad) .nil) (.one (.ifs (.nt (.tru (.call 4 (.cons (.loc 1) .nil)))) (.one .bad) .nil)))
abbrev e185 : Ent := .df 2 3 pg185
/-- choosing.is_wish -/
def pg186 : Ss := (.cons (.ifs (.bop false (.cons (.nt (.tru (.call 2 (.cons (.loc 0) (.cons (.gc (.int 3)) (.cons (.gc (.int 3)) .nil)))))) (.one (.nt (.tru (.call 3 (.cons (.ix (.loc 0) (.c (.int 0))) (.cons (.tup (.cons (.gc (.str [108, 101, 97, 115, 116])) (.cons (.gc (.str [108, 105, 110, 101, 115])) (.cons (.gc (.str [107, 110, 111, 119, 110])) .nil)))) .nil)))))))) (.one (.ret (.c (.bl false)))) .nil) (.cons (.ifs (.cmp .Eq (.ix (.loc 0) (.c (.int 0))) (.gc (.str [108, 101, 97, 115, 116]))) (.one (.ret (.bop true (.cons (.call 1 (.cons (.ix (.loc 0) (.c (.int 1))) (.cons (.c (.int 1)) (.cons (.gc (.int 9)) .nil)))) (.one (.call 1 (.cons (.ix (.loc 0) (.neg (.c (.int 1)))) (.cons (.c (.int 0)) (.cons (.gc (.int 6)) .nil))))))))) .nil) (.cons (.ifs (.cmp .Eq (.ix (.loc 0) (.c (.int 0))) (.gc (.str [108, 105, 110, 101, 115]))) (.one (.ret (.bop true (.cons (.call 3 (.cons (.ix (.loc 0) (.c (.int 1))) (.cons (.gc (.tup [.str [98, 101, 103, 105, 110], .str [114, 111, 117, 110, 100], .str [101, 110, 100]])) .nil))) (.one (.call 1 (.cons (.ix (.loc 0) (.neg (.c (.int 1)))) (.cons (.c (.int 0)) (.cons (.gc (.int 12)) .nil))))))))) .nil) (.one (.ret (.bop true (.cons (.call 1 (.cons (.ix (.loc 0) (.c (.int 1))) (.cons (.c (.int 0)) (.cons (.gc (.int 6)) .nil)))) (.cons (.isi .tup (.ix (.loc 0) (.neg (.c (.int 1))))) (.one (.call 5 (.cons (.ix (.loc 0) (.neg (.c (.int 1)))) (.cons (.blt .len (.cons (.ix (.loc 0) (.neg (.c (.int 1)))) .nil)) .nil))))))))))))
abbrev e186 : Ent := .df 1 1 pg186
/-- choosing.check_wishes -/
def pg187 : Ss := (.one (.ifs (.bop false (.cons (.nt (.tru (.call 2 (.cons (.loc 0) (.cons (.c (.int 1)) (.cons (.gc (.int 3)) .nil)))))) (.one (.nt (.tru (.blt .all (.cons (.lc [1] (.src (.loc 0)) (.nm 1) .no (.call 186 (.cons (.loc 1) .nil))) .nil))))))) (.one .bad) .nil))
abbrev e187 : Ent := .df 1 2 pg187
/-- choosing.choices_of -/
def pg188 : Ss := (.cons (.set (.lst (.cons (.tup .nil) .nil)) (.nm 1)) (.cons (.fr (.src (.loc 0)) (.nm 2) (.one .bad)) (.cons .bad (.one .bad))))
abbrev e188 : Ent := .df 1 7 pg188
/-- choosing.rows_with -/
def pg189 : Ss := (.cons (.set (.lst .nil) (.nm 3)) (.cons .bad (.one (.ret (.loc 3)))))
abbrev e189 : Ent := .df 3 12 pg189
/-- choosing.rig_by -/
def pg190 : Ss := (.cons .bad (.cons .bad (.cons (.fr (.src (.gc (.tup [.str [98, 101, 103, 105, 110], .str [114, 111, 117, 110, 100], .str [101, 110, 100]]))) (.nm 3) (.one (.set (.call 54 (.cons (.loc 0) (.cons (.loc 3) (.cons (.ix (.loc 2) (.loc 3)) .nil)))) (.nm 0)))) (.one (.ret (.loc 0))))))
abbrev e190 : Ent := .df 2 5 pg190
/-- choosing.is_known -/
def pg191 : Ss := (.one .bad)
abbrev e191 : Ent := .df 3 3 pg191
/-- choosing.comes_true -/
def pg192 : Ss := (.one .bad)
abbrev e192 : Ent := .df 2 3 pg192
/-- choosing.cheapest -/
def pg193 : Ss := (.cons (.run (.call 185 (.cons (.loc 0) (.cons (.loc 1) .nil)))) (.cons (.run (.call 187 (.cons (.loc 2) .nil))) (.cons (.set (.lst .nil) (.nm 3)) (.cons (.fr (.src (.call 188 (.cons (.loc 1) .nil))) (.tp (.cons (.nm 4) (.cons (.nm 5) .nil))) (.cons (.set (.call 190 (.cons (.loc 0) (.cons (.loc 5) .nil))) (.nm 6)) (.one (.ifs (.cmp .IsNot (.loc 6) (.c (.non))) (.cons .bad (.cons (.ifs (.cmp .Eq (.loc 7) (.lst .nil)) (.one (.ret (.tup (.cons (.gc (.str [99, 104, 111, 105, 99, 101])) (.cons (.loc 4) (.cons (.loc 5) (.cons (.blt .tuple (.cons (.loc 3) .nil)) .nil))))))) .nil) (.one (.run (.mth .app (.loc 3) (.cons (.tup (.cons (.loc 5) (.cons (.ix (.loc 7) (.c (.int 0))) .nil))) .nil)))))) .nil)))) (.one (.ret (.tup (.cons (.gc (.str [110, 111, 110, 101])) (.cons (.blt .tuple (.cons (.loc 3) .nil)) .nil)))))))))
abbrev e193 : Ent := .df 3 10 pg193
/-- trials.Trial.__init__ -/
def pg194 : Ss := (.one .bad)
abbrev e194 : Ent := .df 2 2 pg194
/-- trials.Trial.__enter__ -/
def pg195 : Ss := (.one .bad)
abbrev e195 : Ent := .df 1 1 pg195
/-- trials.Trial.__exit__ -/
def pg196 : Ss := (.one .bad)
abbrev e196 : Ent := .df 4 4 pg196
/-- benches.Spot.__init__ -/
def pg197 : Ss := (.one .bad)
abbrev e197 : Ent := .df 5 5 pg197
/-- benches.Day.__init__ -/
def pg198 : Ss := (.one .bad)
abbrev e198 : Ent := .df 6 6 pg198
/-- benches.Bench.__init__ -/
def pg199 : Ss := (.one .bad)
abbrev e199 : Ent := .df 2 2 pg199
/-- benches.Bench.now -/
def pg200 : Ss := (.one .bad)
abbrev e200 : Ent := .df 1 1 pg200
/-- benches.Bench.rig -/
def pg201 : Ss := (.one .bad)
abbrev e201 : Ent := .df 1 1 pg201
/-- benches.Bench.part -/
def pg202 : Ss := (.one .bad)
abbrev e202 : Ent := .df 1 1 pg202
/-- benches.Bench.number -/
def pg203 : Ss := (.one .bad)
abbrev e203 : Ent := .df 1 1 pg203
/-- benches.Bench.rounds -/
def pg204 : Ss := (.one .bad)
abbrev e204 : Ent := .df 1 1 pg204
/-- benches.Bench.told -/
def pg205 : Ss := (.one .bad)
abbrev e205 : Ent := .df 1 1 pg205
/-- benches.Bench.lot -/
def pg206 : Ss := (.one .bad)
abbrev e206 : Ent := .df 1 1 pg206
/-- benches.Bench.done -/
def pg207 : Ss := (.one .bad)
abbrev e207 : Ent := .df 1 1 pg207
/-- benches.Bench.__len__ -/
def pg208 : Ss := (.one .bad)
abbrev e208 : Ent := .df 1 1 pg208
/-- benches.Bench.__contains__ -/
def pg209 : Ss := (.one .bad)
abbrev e209 : Ent := .df 2 2 pg209
/-- benches.Bench.come -/
def pg210 : Ss := (.one .bad)
abbrev e210 : Ent := .df 2 2 pg210
/-- benches.Bench.go -/
def pg211 : Ss := (.one .bad)
abbrev e211 : Ent := .df 2 9 pg211
/-- benches.Bench.spoil -/
def pg212 : Ss := (.one .bad)
abbrev e212 : Ent := .df 2 9 pg212
/-- benches.Bench.turn -/
def pg213 : Ss := (.one .bad)
abbrev e213 : Ent := .df 2 4 pg213
/-- benches.Bench.worth -/
def pg214 : Ss := (.one .bad)
abbrev e214 : Ent := .df 2 3 pg214
/-- benches.Bench.guess -/
def pg215 : Ss := (.one .bad)
abbrev e215 : Ent := .df 1 1 pg215
/-- benches.Bench.undo -/
def pg216 : Ss := (.one .bad)
abbrev e216 : Ent := .df 1 3 pg216
/-- benches.Bench.redo -/
def pg217 : Ss := (.one .bad)
abbrev e217 : Ent := .df 1 3 pg217
/-- benches.Bench.trial -/
def pg218 : Ss := (.one .bad)
abbrev e218 : Ent := .df 1 1 pg218
/-- benches.Bench.keep -/
def pg219 : Ss := (.one .bad)
abbrev e219 : Ent := .df 1 1 pg219
/-- benches.Bench.tried -/
def pg220 : Ss := (.one .bad)
abbrev e220 : Ent := .df 2 4 pg220
/-- benches.Bench.copy -/
def pg221 : Ss := (.one .bad)
abbrev e221 : Ent := .df 1 2 pg221
/-- benches.Bench.__eq__ -/
def pg222 : Ss := (.one .bad)
abbrev e222 : Ent := .df 2 2 pg222
/-- benches.deed_lines -/
def pg223 : Ss := (.one .bad)
abbrev e223 : Ent := .df 1 2 pg223
/-- benches.lap_of -/
def pg224 : Ss := (.one (.ret (.ife (.cmp .Eq (.loc 0) (.gc (.str [114, 111, 117, 110, 100]))) (.bin .Sub (.loc 1) (.c (.int 1))) (.c (.int 0)))))
abbrev e224 : Ent := .df 2 2 pg224
/-- benches.last_row -/
def pg225 : Ss := (.one .bad)
abbrev e225 : Ent := .df 1 1 pg225
/-- benches.can_fail -/
def pg226 : Ss := (.cons (.set (.loc 1) (.tp (.cons (.nm 3) (.cons (.nm 4) (.cons (.nm 5) (.cons (.nm 6) .nil)))))) (.cons (.ifs (.tru (.loc 6)) (.one (.ret (.c (.bl false)))) .nil) (.cons (.ifs (.cmp .Eq (.loc 3) (.gc (.str [108, 111, 111, 107]))) (.one (.ret (.call 3 (.cons (.loc 2) (.cons (.tup (.cons (.gc (.str [119, 114, 111, 110, 103])) .nil)) .nil))))) .nil) (.cons (.ifs (.bop false (.cons (.nt (.tru (.call 7 (.cons (.loc 2) .nil)))) (.cons (.cmp .NotEq (.blt .len (.cons (.loc 2) .nil)) (.loc 0)) (.one (.cmp .Eq (.loc 2) (.call 13 (.cons (.loc 0) .nil))))))) (.one (.ret (.c (.bl false)))) .nil) (.one .bad)))))
abbrev e226 : Ent := .df 3 9 pg226
/-- benches.stand_behind -/
def pg227 : Ss := (.one (.ret (.ife (.cmp .Eq (.ix (.loc 0) (.c (.int 0))) (.gc (.str [114, 101, 115, 101, 116]))) (.call 76 (.cons (.loc 0) (.cons (.loc 1) .nil))) (.call 75 (.cons (.loc 0) (.cons (.loc 1) .nil))))))
abbrev e227 : Ent := .df 2 2 pg227
/-- benches.looked -/
def pg228 : Ss := (.cons (.set (.loc 0) (.tp (.cons (.nm 4) (.cons (.nm 5) (.cons (.nm 6) (.cons (.nm 7) .nil)))))) (.cons (.set (.mth .get (.loc 1) (.cons (.loc 6) .nil)) (.nm 3)) (.cons (.ifs (.cmp .Is (.loc 3) (.c (.non))) (.cons (.set (.ife (.cmp .Is (.loc 2) (.c (.non))) (.c (.int 0)) (.loc 2)) (.nm 8)) (.one (.ret (.tup (.cons (.loc 8) (.cons (.call 77 (.cons (.loc 6) (.cons (.tup (.cons (.loc 8) (.cons (.c (.int 0)) .nil))) (.cons (.loc 1) .nil)))) .nil)))))) .nil) (.cons (.ifs (.bop true (.cons (.cmp .IsNot (.loc 2) (.c (.non))) (.one (.cmp .NotEq (.loc 2) (.ix (.loc 3) (.c (.int 0))))))) (.one .bad) .nil) (.one (.ret (.tup (.cons (.ix (.loc 3) (.c (.int 0))) (.cons (.loc 1) .nil)))))))))
abbrev e228 : Ent := .df 3 9 pg228
/-- benches.is_of_lot -/
def pg229 : Ss := (.cons (.ifs (.bop false (.cons (.nt (.tru (.call 2 (.cons (.loc 1) (.cons (.gc (.int 4)) (.cons (.gc (.int 4)) .nil)))))) (.cons (.nt (.tru (.isi .str (.ix (.loc 1) (.c (.int 0)))))) (.one (.nt (.tru (.isi .str (.ix (.loc 1) (.neg (.c (.int 1))))))))))) (.one (.ret (.c (.bl false)))) .nil) (.one (.ret (.bop true (.cons (.blt .all (.cons (.lc [2] (.src (.sl (.loc 1) (.on (.c (.int 1))) (.on (.neg (.c (.int 1)))))) (.nm 2) .no (.call 0 (.cons (.loc 2) .nil))) .nil)) (.one (.cmp .In (.loc 1) (.loc 0))))))))
abbrev e229 : Ent := .df 2 3 pg229
/-- journals.journal -/
def pg230 : Ss := (.one .bad)
abbrev e230 : Ent := .df 1 1 pg230
/-- journals.deed_in -/
def pg231 : Ss := (.cons .bad (.cons (.ifs (.cmp .In (.c (.str [])) (.loc 1)) (.one (.ret (.c (.non)))) .nil) (.cons (.ifs (.cmp .Eq (.loc 1) (.lst (.cons (.gc (.str [103, 111])) .nil))) (.one (.ret (.tup (.cons (.gc (.str [103, 111])) (.cons (.c (.non)) .nil))))) .nil) (.cons (.ifs (.bop false (.cons (.cmp .NotEq (.blt .len (.cons (.loc 1) .nil)) (.gc (.int 2))) (.one (.cmp .NotIn (.ix (.loc 1) (.c (.int 0))) (.tup (.cons (.gc (.str [103, 111])) (.cons (.gc (.str [115, 112, 111, 105, 108])) (.cons (.gc (.str [116, 117, 114, 110])) .nil)))))))) (.one (.ret (.c (.non)))) .nil) (.cons (.ifs (.cmp .Eq (.ix (.loc 1) (.c (.int 0))) (.gc (.str [103, 111]))) (.one .bad) .nil) (.one (.ret (.tup (.cons (.ix (.loc 1) (.c (.int 0))) (.cons (.ix (.loc 1) (.c (.int 1))) .nil))))))))))
abbrev e231 : Ent := .df 1 2 pg231
/-- journals.do_deed -/
def pg232 : Ss := (.cons (.set (.loc 1) (.tp (.cons (.nm 2) (.cons (.nm 3) .nil)))) (.cons (.ifs (.cmp .Eq (.loc 2) (.gc (.str [103, 111]))) (.one .bad) .nil) (.cons (.ifs (.cmp .Eq (.loc 2) (.gc (.str [115, 112, 111, 105, 108]))) (.one .bad) .nil) (.one .bad))))
abbrev e232 : Ent := .df 2 4 pg232
/-- journals.is_done -/
def pg233 : Ss := (.cons (.set (.call 231 (.cons (.loc 1) .nil)) (.nm 2)) (.cons (.ifs (.cmp .Is (.loc 2) (.c (.non))) (.one (.ret (.c (.bl false)))) .nil) (.cons .bad (.one (.ret (.c (.bl true)))))))
abbrev e233 : Ent := .df 2 3 pg233
/-- journals.rig_told -/
def pg234 : Ss := (.cons (.ifs (.cmp .Eq (.loc 0) (.lst .nil)) (.one .bad) .nil) (.one .bad))
abbrev e234 : Ent := .df 1 1 pg234
/-- journals.read_journal -/
def pg235 : Ss := (.cons (.ifs (.nt (.tru (.isi .str (.loc 0)))) (.one .bad) .nil) (.cons .bad (.cons .bad (.cons .bad (.cons (.ifs (.cmp .Eq (.loc 2) (.blt .len (.cons (.loc 1) .nil))) (.one .bad) .nil) (.cons (.fr (.rg2 (.cons (.bin .Add (.loc 2) (.c (.int 1))) (.cons (.blt .len (.cons (.loc 1) .nil)) .nil))) (.nm 4) (.one (.ifs (.nt (.tru (.call 233 (.cons (.loc 3) (.cons (.ix (.loc 1) (.loc 4)) .nil))))) (.one .bad) .nil))) (.one (.ret (.loc 3)))))))))
abbrev e235 : Ent := .df 1 5 pg235
/-- desk.Desk.__init__ -/
def pg236 : Ss := (.one .bad)
abbrev e236 : Ent := .df 2 2 pg236
/-- desk.Desk.bench -/
def pg237 : Ss := (.one .bad)
abbrev e237 : Ent := .df 1 1 pg237
/-- desk.Desk.say -/
def pg238 : Ss := (.one .bad)
abbrev e238 : Ent := .df 2 5 pg238
/-- desk.Desk.answered -/
def pg239 : Ss := (.one .bad)
abbrev e239 : Ent := .df 2 4 pg239
/-- desk.guessed -/
def pg240 : Ss := (.cons (.set (.loc 0) (.tp (.cons (.nm 1) (.cons (.nm 2) .nil)))) (.cons (.ifs (.cmp .Is (.loc 1) (.c (.non))) (.one (.ret (.gc (.str [110, 101, 118, 101, 114])))) .nil) (.one .bad)))
abbrev e240 : Ent := .df 1 5 pg240
def taP : List Ent := e0 :: e1 :: e2 :: e3 :: e4 :: e5 :: e6 :: e7 :: e8 :: e9 :: e10 :: e11 :: e12 :: e13 :: e14 :: e15 :: e16 :: e17 :: e18 :: e19 :: e20 :: e21 :: e22 :: e23 :: e24 :: e25 :: e26 :: e27 :: e28 :: e29 :: e30 :: e31 :: e32 :: e33 :: e34 :: e35 :: e36 :: e37 :: e38 :: e39 :: e40 :: e41 :: e42 :: e43 :: e44 :: e45 :: e46 :: e47 :: e48 :: e49 :: e50 :: e51 :: e52 :: e53 :: e54 :: e55 :: e56 :: e57 :: e58 :: e59 :: e60 :: e61 :: e62 :: e63 :: e64 :: e65 :: e66 :: e67 :: e68 :: e69 :: e70 :: e71 :: e72 :: e73 :: e74 :: e75 :: e76 :: e77 :: e78 :: e79 :: e80 :: e81 :: e82 :: e83 :: e84 :: e85 :: e86 :: e87 :: e88 :: e89 :: e90 :: e91 :: e92 :: e93 :: e94 :: e95 :: e96 :: e97 :: e98 :: e99 :: e100 :: e101 :: e102 :: e103 :: e104 :: e105 :: e106 :: e107 :: e108 :: e109 :: e110 :: e111 :: e112 :: e113 :: e114 :: e115 :: e116 :: e117 :: e118 :: e119 :: e120 :: e121 :: e122 :: e123 :: e124 :: e125 :: e126 :: e127 :: e128 :: e129 :: e130 :: e131 :: e132 :: e133 :: e134 :: e135 :: e136 :: e137 :: e138 :: e139 :: e140 :: e141 :: e142 :: e143 :: e144 :: e145 :: e146 :: e147 :: e148 :: e149 :: e150 :: e151 :: e152 :: e153 :: e154 :: e155 :: e156 :: e157 :: e158 :: e159 :: e160 :: e161 :: e162 :: e163 :: e164 :: e165 :: e166 :: e167 :: e168 :: e169 :: e170 :: e171 :: e172 :: e173 :: e174 :: e175 :: e176 :: e177 :: e178 :: e179 :: e180 :: e181 :: e182 :: e183 :: e184 :: e185 :: e186 :: e187 :: e188 :: e189 :: e190 :: e191 :: e192 :: e193 :: e194 :: e195 :: e196 :: e197 :: e198 :: e199 :: e200 :: e201 :: e202 :: e203 :: e204 :: e205 :: e206 :: e207 :: e208 :: e209 :: e210 :: e211 :: e212 :: e213 :: e214 :: e215 :: e216 :: e217 :: e218 :: e219 :: e220 :: e221 :: e222 :: e223 :: e224 :: e225 :: e226 :: e227 :: e228 :: e229 :: e230 :: e231 :: e232 :: e233 :: e234 :: e235 :: e236 :: e237 :: e238 :: e239 :: e240 :: []
end
end Dv
/-! CW: what the functions of words compute, as equations. -/
namespace Dv
noncomputable section
open PySem L2 PyProof.Rows
section
variable {m : MH}
theorem truV_bl {b : Bool} : truV (.bl b) m = .ok b m := rfl
theorem isStr_str {s : List Nat} : isStr (.str s) m = true := rfl
theorem beq_tt : (true == true) = true := rfl
theorem beq_ff : (false == false) = true := rfl
theorem beq_tf : (true == false) = false := rfl
theorem beq_ft : (false == true) = false := rfl
theorem nt_t : (!true) = false := rfl
theorem nt_f : (!false) = true := rfl
theorem if_tt {α : Type} {x y : α} : (if true = true then x else y) = x := if_pos rfl
theorem if_ff {α : Type} {x y : α} : (if false = true then x else y) = y := if_neg (by decide)
theorem negV_int {i : Int} : negV (.int i) m = .ok (.int (-i)) m := rfl
end
/-- the table begins with the program's functions -/
def HasP (n : Nat) (tab : List Ent) : Prop := tab.take n = taP.take n
theorem cl_at {n : Nat} {tab : List Ent} (h : HasP n tab) {g np ns : Nat} {b : Ss} (hg : g < n) (e : taP[g]? = some (.df np ns b)) (k : Nat) (xs : List MV) (m : MH) : clN tab (k + 1) g xs m = callD np ns (b.den (clN tab k)) xs m := by
  have h1 : tab[g]? = taP[g]? := by
    have := congrArg (fun l : List Ent => l[g]?) h
    simpa [List.getElem?_take, hg] using this
  rw [clN_succ, h1, e]
theorem leB {x : Nat} (h : x ≤ 1000000) : Nat.ble x big = true := Nat.ble_eq_true_of_le (Nat.le_trans h (by decide))
/-! ### letters, words -/
def isL (c : Nat) : Prop := c = 73 ∨ c = 88 ∨ c = 89 ∨ c = 90
structure Ltr (a : List Nat) : Prop where
  all : ∀ c ∈ a, isL c
  pos : 1 ≤ a.length
  few : a.length ≤ 4
/-- a word: with a minus, letters -/
def wd (n : Bool) (a : List Nat) : List Nat := bif n then 45 :: a else a
section
variable {tab : List Ent} {k : Nat} {m : MH} {a b : List Nat} {n p : Bool}
theorem rmp_wd (h : Ltr a) : rmpV (.str (wd n a)) [.str [45]] m = .ok (.str a) m := by
  have hl := h.few
  cases n with
  | true =>
    show (if Nat.ble (a.length + 1) big then _ else _) = _
    rw [if_pos (leB (by omega))]
    rfl
  | false =>
    show (if Nat.ble a.length big then R.ok (MV.str (if isPre [45] a then a.drop 1 else a)) m else _) = _
    rw [if_pos (leB (by omega))]
    cases a with
    | nil => exact absurd h.pos (by simp)
    | cons c r =>
      have hc := h.all c (List.mem_cons_self ..)
      rcases hc with rfl | rfl | rfl | rfl <;> rfl
theorem bare_c (h : HasP 25 tab) (hg : Gd m) (ha : Ltr a) : clN tab (k + 1) 9 [.str (wd n a)] m = .ok (.str a) m := by
  rw [cl_at h (by decide) rfl]
  refine call_rt rfl hg (m' := m.enter) ?_ .refl under_str
  rw [show frameV 1 [MV.str (wd n a)] = [some (.str (wd n a))] from rfl]
  simp only [pg9, E.den_loc, E.den_c, E.den_gc, E.den_bin, E.den_cmp, E.den_chn, E.den_bop, E.den_nt, E.den_neg, E.den_ife, E.den_tup, E.den_lst, E.den_ix, E.den_sl, E.den_call, E.den_blt, E.den_isi, E.den_mth, E.den_lc, E.den_dct, E.den_ifr, P.den_nil, P.den_cons, xPr0_eq, xPrC_eq, xDct_eq, L.den_nil, L.den_cons, B.den_one, B.den_cons, T.den_tru, T.den_cmp, T.den_chn, T.den_nt, T.den_bop, BT.den_one, BT.den_cons, O.den_no, O.den_on, OT.den_no, OT.den_on, I.den_src, I.den_zip, I.den_rg1, I.den_rg2, S.den_set, S.den_ret, S.den_retN, S.den_run, S.den_pass, S.den_ifs, S.den_fr, S.den_put, Ss.den_nil, Ss.den_one, Ss.den_cons, Tg.den_nm, Tg.den_tp, Tgs.den_nil, Tgs.den_cons, Tgs.many, bind_ok, xLoc_0, xLoc_s, xC_eq, xBin_eq, x1_eq, xA_eq, xArg0_eq, xArgC_eq, xChn_eq, asB_eq, xB_eq, xTru_eq, xNotT_eq, xNot_eq, xIf_eq, bopC_eq, bopTC_eq, xSl_eq, xPart0_eq, xPart1_eq, asI_eq, xMeth_eq, xSrc_eq, xI_eq, xSet_eq, xRet_eq, xRetN_eq, xDo_eq, xPass_eq, xSeq_eq, xIfS_eq, xPut_eq, gNm_eq, gsNil_eq, gsCons_eq, addI, subI, gtI, ltI, leI, geI, eqI, neI, intI, intB, truV_bl, isStr_str, beq_tt, beq_ff, beq_tf, beq_ft, nt_t, nt_f, List.set_cons_zero, List.set_cons_succ, if_tt, if_ff, ↓reduceIte, negV_int, Bf.f, Mt.f, Mt.ty, tstV, rmp_wd ha]
/-! is_letters, is_word -/
theorem fm_some {α β : Type} (f : α → β) : ∀ xs : List α, xs.filterMap (fun x => some (f x)) = xs.map f
  | [] => rfl
  | x :: xs => by rw [List.filterMap_cons, fm_some f xs] <;> rfl
theorem inS_L {c : Nat} (h : isL c) : cmpV .In (.str [c]) (.str [73, 88, 89, 90]) m = .ok (.bl true) m := by
  rcases h with rfl | rfl | rfl | rfl <;> rfl
theorem ch_items (a : List Nat) : srcV (.str a) m = .ok (.imm (a.map fun c => .str [c])) m := rfl
theorem leI2 {i j : Int} (h : i ≤ j) : cmpV .LtE (.int i) (.int j) m = .ok (.bl true) m := by rw [leI, decide_eq_true h]
theorem len_str {a : List Nat} (h : a.length ≤ 1000000) : lenV [.str a] m = .ok (.int (a.length : Int)) m := if_pos (leB h)
theorem len_lst {i : Nat} {xs : List MV} (h : m.get i = some (.lst xs)) : lenV [.ref i] m = .ok (.int (xs.length : Int)) m := by
  unfold lenV
  dsimp only
  rw [h] <;> rfl
theorem isi_str {a : List Nat} : isiV .str (.str a) m = .ok (.bl true) m := rfl
theorem bools_map {α : Type} (f : α → Bool) : ∀ xs : List α, bools (xs.map fun x => .bl (f x)) = some (xs.map f)
  | [] => rfl
  | x :: xs => by
    rw [List.map_cons, bools, bools_map f xs] <;> rfl
theorem all_new {α : Type} {xs : List α} {f : α → Bool} : allV (fun bs => bs.all id) [.ref m.n] (m.push (.lst (xs.map fun x => .bl (f x)))) = .ok (.bl (xs.all f)) (m.push (.lst (xs.map fun x => .bl (f x)))) := by
  unfold allV
  dsimp only
  rw [get_push_same]
  dsimp only
  rw [bools_map]
  dsimp only
  rw [List.all_map]
  rfl
theorem all_new1 {α : Type} {xs : List α} : allV (fun bs => bs.all id) [.ref m.n] (m.push (.lst (xs.map fun _ => .bl true))) = .ok (.bl true) (m.push (.lst (xs.map fun _ => .bl true))) := by
  have := all_new (m := m) (xs := xs) (f := fun _ => true)
  rw [List.all_eq_true.mpr fun _ _ => rfl] at this
  exact this
theorem is_letters_c (h : HasP 25 tab) (hg : Gd m) (ha : Ltr a) : clN tab (k + 1) 7 [.str a] m = .ok (.bl true) m := by
  rw [cl_at h (by decide) rfl]
  have h4 := ha.few
  have h1 := ha.pos
  refine call_rt rfl hg (m' := m.enter.push (.lst (a.map fun _ => .bl true))) ?_ (.push .refl) under_bl
  rw [show frameV 2 [MV.str a] = [some (.str a), none] from rfl]
  have lc : xLc [1] (xSrc (xLoc 0)) (gNm 1) Option.none (xBin (cmpV .In) (xLoc 1) (xC (.str [73, 88, 89, 90]))) [some (.str a), none] m.enter = .ok (.ref m.enter.n) (m.enter.push (.lst (a.map fun _ => .bl true))) := by
    rw [lc_pure (f := fun _ => some (.bl true)) (m1 := m.enter) (sr := .imm (a.map fun c => .str [c])) (xs := a.map fun c => .str [c]) rfl (by show (a.map _).length + 1 ≤ big; rw [List.length_map]; exact Nat.le_trans (show a.length + 1 ≤ 5 by omega) (by decide)) (its_imm _ _) (Nat.le_refl _)]
    · rw [fm_some, List.map_map] <;> rfl
    · intro x hx
      obtain ⟨c, hc, rfl⟩ := List.mem_map.mp hx
      refine ⟨_, rfl, rfl, ?_⟩
      exact inS_L (ha.all c hc)
  simp only [pg7, E.den_loc, E.den_c, E.den_gc, E.den_bin, E.den_cmp, E.den_chn, E.den_bop, E.den_nt, E.den_neg, E.den_ife, E.den_tup, E.den_lst, E.den_ix, E.den_sl, E.den_call, E.den_blt, E.den_isi, E.den_mth, E.den_lc, E.den_dct, E.den_ifr, P.den_nil, P.den_cons, xPr0_eq, xPrC_eq, xDct_eq, L.den_nil, L.den_cons, B.den_one, B.den_cons, T.den_tru, T.den_cmp, T.den_chn, T.den_nt, T.den_bop, BT.den_one, BT.den_cons, O.den_no, O.den_on, OT.den_no, OT.den_on, I.den_src, I.den_zip, I.den_rg1, I.den_rg2, S.den_set, S.den_ret, S.den_retN, S.den_run, S.den_pass, S.den_ifs, S.den_fr, S.den_put, Ss.den_nil, Ss.den_one, Ss.den_cons, Tg.den_nm, Tg.den_tp, Tgs.den_nil, Tgs.den_cons, Tgs.many, bind_ok, xLoc_0, xLoc_s, xC_eq, xBin_eq, x1_eq, xA_eq, xArg0_eq, xArgC_eq, xChn_eq, asB_eq, xB_eq, xTru_eq, xNotT_eq, xNot_eq, xIf_eq, bopC_eq, bopTC_eq, xSl_eq, xPart0_eq, xPart1_eq, asI_eq, xMeth_eq, xSrc_eq, xI_eq, xSet_eq, xRet_eq, xRetN_eq, xDo_eq, xPass_eq, xSeq_eq, xIfS_eq, xPut_eq, gNm_eq, gsNil_eq, gsCons_eq, addI, subI, gtI, ltI, leI, geI, eqI, neI, intI, intB, truV_bl, isStr_str, beq_tt, beq_ff, beq_tf, beq_ft, nt_t, nt_f, List.set_cons_zero, List.set_cons_succ, if_tt, if_ff, ↓reduceIte, negV_int, Bf.f, Mt.f, Mt.ty, tstV, lc, isi_str, len_str (show a.length ≤ 1000000 by omega), leI2 (show (1 : Int) ≤ (a.length : Int) by omega), leI2 (show (a.length : Int) ≤ 4 by omega), all_new1]
theorem isi_wd : isiV .str (.str (wd n a)) m = .ok (.bl true) m := rfl
theorem is_word_c (h : HasP 25 tab) (hg : Gd m) (ha : Ltr a) : clN tab (k + 2) 8 [.str (wd n a)] m = .ok (.bl true) m := by
  rw [cl_at h (by decide) rfl]
  refine call_rt rfl hg (m' := m.enter) ?_ .refl under_bl
  rw [show frameV 1 [MV.str (wd n a)] = [some (.str (wd n a))] from rfl]
  simp only [pg8, E.den_loc, E.den_c, E.den_gc, E.den_bin, E.den_cmp, E.den_chn, E.den_bop, E.den_nt, E.den_neg, E.den_ife, E.den_tup, E.den_lst, E.den_ix, E.den_sl, E.den_call, E.den_blt, E.den_isi, E.den_mth, E.den_lc, E.den_dct, E.den_ifr, P.den_nil, P.den_cons, xPr0_eq, xPrC_eq, xDct_eq, L.den_nil, L.den_cons, B.den_one, B.den_cons, T.den_tru, T.den_cmp, T.den_chn, T.den_nt, T.den_bop, BT.den_one, BT.den_cons, O.den_no, O.den_on, OT.den_no, OT.den_on, I.den_src, I.den_zip, I.den_rg1, I.den_rg2, S.den_set, S.den_ret, S.den_retN, S.den_run, S.den_pass, S.den_ifs, S.den_fr, S.den_put, Ss.den_nil, Ss.den_one, Ss.den_cons, Tg.den_nm, Tg.den_tp, Tgs.den_nil, Tgs.den_cons, Tgs.many, bind_ok, xLoc_0, xLoc_s, xC_eq, xBin_eq, x1_eq, xA_eq, xArg0_eq, xArgC_eq, xChn_eq, asB_eq, xB_eq, xTru_eq, xNotT_eq, xNot_eq, xIf_eq, bopC_eq, bopTC_eq, xSl_eq, xPart0_eq, xPart1_eq, asI_eq, xMeth_eq, xSrc_eq, xI_eq, xSet_eq, xRet_eq, xRetN_eq, xDo_eq, xPass_eq, xSeq_eq, xIfS_eq, xPut_eq, gNm_eq, gsNil_eq, gsCons_eq, addI, subI, gtI, ltI, leI, geI, eqI, neI, intI, intB, truV_bl, isStr_str, beq_tt, beq_ff, beq_tf, beq_ft, nt_t, nt_f, List.set_cons_zero, List.set_cons_succ, if_tt, if_ff, ↓reduceIte, negV_int, Bf.f, Mt.f, Mt.ty, tstV, isi_wd, rmp_wd ha, is_letters_c h hg.enter ha]
/-! loops over what is at hand -/
theorem loop_cons {g : XG} {b : XZ} {j : Nat} {x : MV} {xs : List MV} {s : St} : loopV g b (j + 1) (.imm (x :: xs)) s m = (g x s m).bind fun s1 m1 => (b s1 m1).bind fun fl m2 => match fl with
    | .nx s2 => loopV g b j (.imm xs) s2 m2
    | .ct s2 => loopV g b j (.imm xs) s2 m2
    | .bk s2 => .ok (.nx s2) m2
    | .rt v => .ok (.rt v) m2 := rfl
theorem loop_nil {g : XG} {b : XZ} {j : Nat} {s : St} : loopV g b (j + 1) (.imm []) s m = .ok (.nx s) m := rfl
theorem for_imm {src : XI} {g : XG} {b : XZ} {s : St} {m1 : MH} {xs : List MV} (h : src s m = .ok (.imm xs) m1) : xFor src g b s m = loopV g b (xs.length + 1) (.imm xs) s m1 := by
  rw [xFor_eq, h, bind_ok] <;> rfl
theorem eq_len {i j : Nat} (h : i = j) : cmpV .NotEq (.int (i : Int)) (.int (j : Int)) m = .ok (.bl false) m := by
  subst h
  rw [neI]
  simp
theorem mkTup2 {x y : MV} : mkTup [x, y] m = .ok (.tup [x, y]) m := rfl
theorem srcT {xs : List MV} : srcV (.tup xs) m = .ok (.imm xs) m := rfl
theorem check_two_c (h : HasP 25 tab) (hg : Gd m) (ha : Ltr a) (hb : Ltr b) (hl : a.length = b.length) : clN tab (k + 3) 12 [.str (wd n a), .str (wd p b)] m = .ok .non m := by
  rw [cl_at h (by decide) rfl]
  refine call_nx (s := [some (.str (wd n a)), some (.str (wd p b)), some (.str (wd p b))]) rfl hg (m' := m.enter) ?_ .refl
  rw [show frameV 3 [MV.str (wd n a), MV.str (wd p b)] = [some (.str (wd n a)), some (.str (wd p b)), none] from rfl]
  have h1 := ha.few
  have h2 := hb.few
  simp only [pg12, E.den_loc, E.den_c, E.den_gc, E.den_bin, E.den_cmp, E.den_chn, E.den_bop, E.den_nt, E.den_neg, E.den_ife, E.den_tup, E.den_lst, E.den_ix, E.den_sl, E.den_call, E.den_blt, E.den_isi, E.den_mth, E.den_lc, E.den_dct, E.den_ifr, P.den_nil, P.den_cons, xPr0_eq, xPrC_eq, xDct_eq, L.den_nil, L.den_cons, B.den_one, B.den_cons, T.den_tru, T.den_cmp, T.den_chn, T.den_nt, T.den_bop, BT.den_one, BT.den_cons, O.den_no, O.den_on, OT.den_no, OT.den_on, I.den_src, I.den_zip, I.den_rg1, I.den_rg2, S.den_set, S.den_ret, S.den_retN, S.den_run, S.den_pass, S.den_ifs, S.den_fr, S.den_put, Ss.den_nil, Ss.den_one, Ss.den_cons, Tg.den_nm, Tg.den_tp, Tgs.den_nil, Tgs.den_cons, Tgs.many, bind_ok, xLoc_0, xLoc_s, xC_eq, xBin_eq, x1_eq, xA_eq, xArg0_eq, xArgC_eq, xChn_eq, asB_eq, xB_eq, xTru_eq, xNotT_eq, xNot_eq, xIf_eq, bopC_eq, bopTC_eq, xSl_eq, xPart0_eq, xPart1_eq, asI_eq, xMeth_eq, xSrc_eq, xI_eq, xSet_eq, xRet_eq, xRetN_eq, xDo_eq, xPass_eq, xSeq_eq, xIfS_eq, xPut_eq, gNm_eq, gsNil_eq, gsCons_eq, addI, subI, gtI, ltI, leI, geI, eqI, neI, intI, intB, truV_bl, isStr_str, beq_tt, beq_ff, beq_tf, beq_ft, nt_t, nt_f, List.set_cons_zero, List.set_cons_succ, if_tt, if_ff, ↓reduceIte, negV_int, Bf.f, Mt.f, Mt.ty, tstV, xFor_eq, mkTup2, srcT, Src.size, List.length_cons, List.length_nil, loop_cons, loop_nil, is_word_c h hg.enter ha, is_word_c h hg.enter hb, bare_c h hg.enter ha, bare_c h hg.enter hb, len_str (show a.length ≤ 1000000 by omega), len_str (show b.length ≤ 1000000 by omega), eq_len hl]
/-! do_pass -/
def meetB (x y : Nat) : Bool := !(x == y) && (!(x == 73) && !(y == 73))
def passB (a b : List Nat) : Bool := ((a.zip b).filter fun p => meetB p.1 p.2).length % 2 == 0
theorem ne_L {x y : Nat} (hx : isL x) (hy : isL y) : cmpV .NotEq (.str [x]) (.str [y]) m = .ok (.bl (!(x == y))) m := by
  rcases hx with rfl | rfl | rfl | rfl <;> rcases hy with rfl | rfl | rfl | rfl <;> rfl
theorem notin_L {x y : Nat} (hx : isL x) (hy : isL y) : cmpV .NotIn (.str [73]) (.tup [.str [x], .str [y]]) m = .ok (.bl (!(x == 73) && !(y == 73))) m := by
  rcases hx with rfl | rfl | rfl | rfl <;> rcases hy with rfl | rfl | rfl | rfl <;> rfl
/-- what is walked: the pairs of signs -/
def prs (a b : List Nat) : List MV := (a.zip b).map fun p => .tup [.str [p.1], .str [p.2]]
theorem prs_eq : ∀ a b : List Nat, List.zipWith (fun x y => MV.tup [x, y]) (a.map fun c => .str [c]) (b.map fun c => .str [c]) = prs a b
  | [], _ => rfl
  | _ :: _, [] => rfl
  | x :: a, y :: b => by
    show _ :: _ = _ :: _
    rw [show List.zipWith (fun x y => MV.tup [x, y]) _ _ = _ from prs_eq a b] <;> rfl
theorem its_prs (a b : List Nat) : Its m (.zip (.imm (a.map fun c => .str [c])) (.imm (b.map fun c => .str [c]))) (prs a b) := by
  rw [← prs_eq]
  exact its_zip (its_imm _ _) (its_imm _ _)
theorem zip_str (a b : List Nat) : zipV [.str a, .str b] m = .ok (.zip (.imm (a.map fun c => .str [c])) (.imm (b.map fun c => .str [c]))) m := rfl
theorem len_prs (a b : List Nat) : (prs a b).length ≤ (a.map fun c => MV.str [c]).length := by
  unfold prs
  rw [List.length_map, List.length_map, List.length_zip]
  omega
theorem fm_congr {α β : Type} {f g : α → Option β} (h : ∀ x, f x = g x) {l : List α} : l.filterMap f = l.filterMap g := by rw [funext h]
theorem fm_prs {β : Type} (f : MV → Option β) (g : Nat → Nat → Option β) (h : ∀ x y, f (.tup [.str [x], .str [y]]) = g x y) (a b : List Nat) : (prs a b).filterMap f = (a.zip b).filterMap fun p => g p.1 p.2 := by
  unfold prs
  rw [List.filterMap_map]
  exact fm_congr fun (p : Nat × Nat) => h p.1 p.2
theorem mem_zip_L (ha : ∀ c ∈ a, isL c) (hb : ∀ c ∈ b, isL c) {q : Nat × Nat} (h : q ∈ a.zip b) : isL q.1 ∧ isL q.2 := ⟨ha _ (List.of_mem_zip h).1, hb _ (List.of_mem_zip h).2⟩
def both (f : Nat → Nat → Option MV) (v : MV) : Option MV := match v with
  | .tup [.str [x], .str [y]] => f x y
  | _ => none
/-- a comprehension over two texts side by side -/
theorem lc_prs {vs : List Nat} {g : XG} {t : Option XB} {e : X} {s : St} {i j : Nat} (f : Nat → Nat → Option MV) (hi : xLoc i s m = .ok (.str a) m) (hj : xLoc j s m = .ok (.str b) m) (ha : a.length ≤ 1000)
    (hf : ∀ x y, (x, y) ∈ a.zip b → ItemDoes g (tstV t) e (wipeM s vs) m (.tup [.str [x], .str [y]]) (f x y)) :
    xLc vs (xI zipV (xArgC (xLoc i) (xArgC (xLoc j) xArg0))) g t e s m = .ok (.ref m.n) (m.push (.lst ((a.zip b).filterMap fun p => f p.1 p.2))) := by
  rw [lc_pure (both f) (m1 := m) (sr := .zip (.imm (a.map fun c => .str [c])) (.imm (b.map fun c => .str [c]))) (xs := prs a b) (by simp only [xI_eq, xArgC_eq, xArg0_eq, hi, hj, bind_ok, zip_str]) (by show (a.map _).length + 1 ≤ big; rw [List.length_map]; exact Nat.le_trans (show a.length + 1 ≤ 1001 by omega) (by decide)) (its_prs a b) (len_prs a b), fm_prs _ f (fun _ _ => rfl)]
  intro v hv
  obtain ⟨q, hq, rfl⟩ := List.mem_map.mp hv
  exact hf q.1 q.2 hq
theorem filt_len (l : List (Nat × Nat)) (c : Nat → Nat → Bool) (v : Nat → Nat → MV) : (l.filterMap fun p => bif c p.1 p.2 then some (v p.1 p.2) else none).length = (l.filter fun p => c p.1 p.2).length := by
  induction l with
  | nil => rfl
  | cons p l ih =>
    rw [List.filterMap_cons, List.filter_cons]
    cases e : c p.1 p.2 with
    | true =>
      rw [if_pos rfl, List.length_cons, ← ih]
      rfl
    | false =>
      rw [if_neg (by decide), ← ih]
      rfl
theorem two_pos : (0 : Int) < 2 := by decide
theorem eqb_mod (n : Nat) : ((n : Int) % 2 == 0) = (n % 2 == 0) := by
  have : ((n : Int) % 2) = ((n % 2 : Nat) : Int) := by omega
  rw [this]
  cases n % 2 <;> rfl
theorem do_pass_c (h : HasP 25 tab) (hg : Gd m) (ha : ∀ c ∈ a, isL c) (hb : ∀ c ∈ b, isL c) (hl : a.length ≤ 4) : clN tab (k + 1) 15 [.str a, .str b] m = .ok (.bl (passB a b)) m := by
  rw [cl_at h (by decide) rfl]
  refine call_rt rfl hg (m' := m.enter.push (.lst ((a.zip b).filterMap fun p => bif meetB p.1 p.2 then some (.str [p.1]) else none))) ?_ (.push .refl) under_bl
  rw [show frameV 5 [MV.str a, MV.str b] = [some (.str a), some (.str b), none, none, none] from rfl]
  have lc := lc_prs (m := m.enter) (a := a) (b := b) (vs := [3, 4]) (s := [some (.str a), some (.str b), none, none, none]) (i := 0) (j := 1) (g := gTp 2 (gsCons (gNm 3) (gsCons (gNm 4) gsNil))) (t := some (bopTC true (xB (xBin (cmpV .NotEq) (xLoc 3) (xLoc 4))) (xB (xBin (cmpV .NotIn) (xC (.str [73])) (xA mkTup (xArgC (xLoc 3) (xArgC (xLoc 4) xArg0))))))) (e := xLoc 3) (fun x y => bif meetB x y then some (.str [x]) else none) rfl rfl (by omega) fun x y hm => by
    obtain ⟨hx, hy⟩ := mem_zip_L ha hb hm
    have h1 := ne_L (m := m.enter) hx hy
    have h2 := notin_L (m := m.enter) hx hy
    unfold meetB
    cases e1 : (x == y) with
    | true =>
      rw [e1] at h1
      refine ⟨[some (.str a), some (.str b), none, some (.str [x]), some (.str [y])], rfl, ?_⟩
      simp only [E.den_loc, E.den_c, E.den_gc, E.den_bin, E.den_cmp, E.den_chn, E.den_bop, E.den_nt, E.den_neg, E.den_ife, E.den_tup, E.den_lst, E.den_ix, E.den_sl, E.den_call, E.den_blt, E.den_isi, E.den_mth, E.den_lc, E.den_dct, E.den_ifr, P.den_nil, P.den_cons, xPr0_eq, xPrC_eq, xDct_eq, L.den_nil, L.den_cons, B.den_one, B.den_cons, T.den_tru, T.den_cmp, T.den_chn, T.den_nt, T.den_bop, BT.den_one, BT.den_cons, O.den_no, O.den_on, OT.den_no, OT.den_on, I.den_src, I.den_zip, I.den_rg1, I.den_rg2, S.den_set, S.den_ret, S.den_retN, S.den_run, S.den_pass, S.den_ifs, S.den_fr, S.den_put, Ss.den_nil, Ss.den_one, Ss.den_cons, Tg.den_nm, Tg.den_tp, Tgs.den_nil, Tgs.den_cons, Tgs.many, bind_ok, xLoc_0, xLoc_s, xC_eq, xBin_eq, x1_eq, xA_eq, xArg0_eq, xArgC_eq, xChn_eq, asB_eq, xB_eq, xTru_eq, xNotT_eq, xNot_eq, xIf_eq, bopC_eq, bopTC_eq, xSl_eq, xPart0_eq, xPart1_eq, asI_eq, xMeth_eq, xSrc_eq, xI_eq, xSet_eq, xRet_eq, xRetN_eq, xDo_eq, xPass_eq, xSeq_eq, xIfS_eq, xPut_eq, gNm_eq, gsNil_eq, gsCons_eq, addI, subI, gtI, ltI, leI, geI, eqI, neI, intI, intB, truV_bl, isStr_str, beq_tt, beq_ff, beq_tf, beq_ft, nt_t, nt_f, List.set_cons_zero, List.set_cons_succ, if_tt, if_ff, ↓reduceIte, negV_int, Bf.f, Mt.f, Mt.ty, tstV, h1]
    | false =>
      rw [e1] at h1
      cases e2 : (!(x == 73) && !(y == 73)) with
      | true =>
        rw [e2] at h2
        refine ⟨[some (.str a), some (.str b), none, some (.str [x]), some (.str [y])], rfl, ?_, rfl⟩
        simp only [E.den_loc, E.den_c, E.den_gc, E.den_bin, E.den_cmp, E.den_chn, E.den_bop, E.den_nt, E.den_neg, E.den_ife, E.den_tup, E.den_lst, E.den_ix, E.den_sl, E.den_call, E.den_blt, E.den_isi, E.den_mth, E.den_lc, E.den_dct, E.den_ifr, P.den_nil, P.den_cons, xPr0_eq, xPrC_eq, xDct_eq, L.den_nil, L.den_cons, B.den_one, B.den_cons, T.den_tru, T.den_cmp, T.den_chn, T.den_nt, T.den_bop, BT.den_one, BT.den_cons, O.den_no, O.den_on, OT.den_no, OT.den_on, I.den_src, I.den_zip, I.den_rg1, I.den_rg2, S.den_set, S.den_ret, S.den_retN, S.den_run, S.den_pass, S.den_ifs, S.den_fr, S.den_put, Ss.den_nil, Ss.den_one, Ss.den_cons, Tg.den_nm, Tg.den_tp, Tgs.den_nil, Tgs.den_cons, Tgs.many, bind_ok, xLoc_0, xLoc_s, xC_eq, xBin_eq, x1_eq, xA_eq, xArg0_eq, xArgC_eq, xChn_eq, asB_eq, xB_eq, xTru_eq, xNotT_eq, xNot_eq, xIf_eq, bopC_eq, bopTC_eq, xSl_eq, xPart0_eq, xPart1_eq, asI_eq, xMeth_eq, xSrc_eq, xI_eq, xSet_eq, xRet_eq, xRetN_eq, xDo_eq, xPass_eq, xSeq_eq, xIfS_eq, xPut_eq, gNm_eq, gsNil_eq, gsCons_eq, addI, subI, gtI, ltI, leI, geI, eqI, neI, intI, intB, truV_bl, isStr_str, beq_tt, beq_ff, beq_tf, beq_ft, nt_t, nt_f, List.set_cons_zero, List.set_cons_succ, if_tt, if_ff, ↓reduceIte, negV_int, Bf.f, Mt.f, Mt.ty, tstV, h1, h2, mkTup2]
      | false =>
        rw [e2] at h2
        refine ⟨[some (.str a), some (.str b), none, some (.str [x]), some (.str [y])], rfl, ?_⟩
        simp only [E.den_loc, E.den_c, E.den_gc, E.den_bin, E.den_cmp, E.den_chn, E.den_bop, E.den_nt, E.den_neg, E.den_ife, E.den_tup, E.den_lst, E.den_ix, E.den_sl, E.den_call, E.den_blt, E.den_isi, E.den_mth, E.den_lc, E.den_dct, E.den_ifr, P.den_nil, P.den_cons, xPr0_eq, xPrC_eq, xDct_eq, L.den_nil, L.den_cons, B.den_one, B.den_cons, T.den_tru, T.den_cmp, T.den_chn, T.den_nt, T.den_bop, BT.den_one, BT.den_cons, O.den_no, O.den_on, OT.den_no, OT.den_on, I.den_src, I.den_zip, I.den_rg1, I.den_rg2, S.den_set, S.den_ret, S.den_retN, S.den_run, S.den_pass, S.den_ifs, S.den_fr, S.den_put, Ss.den_nil, Ss.den_one, Ss.den_cons, Tg.den_nm, Tg.den_tp, Tgs.den_nil, Tgs.den_cons, Tgs.many, bind_ok, xLoc_0, xLoc_s, xC_eq, xBin_eq, x1_eq, xA_eq, xArg0_eq, xArgC_eq, xChn_eq, asB_eq, xB_eq, xTru_eq, xNotT_eq, xNot_eq, xIf_eq, bopC_eq, bopTC_eq, xSl_eq, xPart0_eq, xPart1_eq, asI_eq, xMeth_eq, xSrc_eq, xI_eq, xSet_eq, xRet_eq, xRetN_eq, xDo_eq, xPass_eq, xSeq_eq, xIfS_eq, xPut_eq, gNm_eq, gsNil_eq, gsCons_eq, addI, subI, gtI, ltI, leI, geI, eqI, neI, intI, intB, truV_bl, isStr_str, beq_tt, beq_ff, beq_tf, beq_ft, nt_t, nt_f, List.set_cons_zero, List.set_cons_succ, if_tt, if_ff, ↓reduceIte, negV_int, Bf.f, Mt.f, Mt.ty, tstV, h1, h2, mkTup2]
  simp only [pg15, E.den_loc, E.den_c, E.den_gc, E.den_bin, E.den_cmp, E.den_chn, E.den_bop, E.den_nt, E.den_neg, E.den_ife, E.den_tup, E.den_lst, E.den_ix, E.den_sl, E.den_call, E.den_blt, E.den_isi, E.den_mth, E.den_lc, E.den_dct, E.den_ifr, P.den_nil, P.den_cons, xPr0_eq, xPrC_eq, xDct_eq, L.den_nil, L.den_cons, B.den_one, B.den_cons, T.den_tru, T.den_cmp, T.den_chn, T.den_nt, T.den_bop, BT.den_one, BT.den_cons, O.den_no, O.den_on, OT.den_no, OT.den_on, I.den_src, I.den_zip, I.den_rg1, I.den_rg2, S.den_set, S.den_ret, S.den_retN, S.den_run, S.den_pass, S.den_ifs, S.den_fr, S.den_put, Ss.den_nil, Ss.den_one, Ss.den_cons, Tg.den_nm, Tg.den_tp, Tgs.den_nil, Tgs.den_cons, Tgs.many, bind_ok, xLoc_0, xLoc_s, xC_eq, xBin_eq, x1_eq, xA_eq, xArg0_eq, xArgC_eq, xChn_eq, asB_eq, xB_eq, xTru_eq, xNotT_eq, xNot_eq, xIf_eq, bopC_eq, bopTC_eq, xSl_eq, xPart0_eq, xPart1_eq, asI_eq, xMeth_eq, xSrc_eq, xI_eq, xSet_eq, xRet_eq, xRetN_eq, xDo_eq, xPass_eq, xSeq_eq, xIfS_eq, xPut_eq, gNm_eq, gsNil_eq, gsCons_eq, addI, subI, gtI, ltI, leI, geI, eqI, neI, intI, intB, truV_bl, isStr_str, beq_tt, beq_ff, beq_tf, beq_ft, nt_t, nt_f, List.set_cons_zero, List.set_cons_succ, if_tt, if_ff, ↓reduceIte, negV_int, Bf.f, Mt.f, Mt.ty, tstV, lc, len_lst get_push_same, modI two_pos, passB]
  rw [filt_len (a.zip b) meetB (fun x _ => .str [x]), eqb_mod]
theorem passes_c (h : HasP 25 tab) (hg : Gd m) (ha : Ltr a) (hb : Ltr b) (hl : a.length = b.length) : clN tab (k + 4) 22 [.str (wd n a), .str (wd p b)] m = .ok (.bl (passB a b)) m := by
  rw [cl_at h (by decide) rfl]
  refine call_rt rfl hg (m' := m.enter) ?_ .refl under_bl
  rw [show frameV 2 [MV.str (wd n a), MV.str (wd p b)] = [some (.str (wd n a)), some (.str (wd p b))] from rfl]
  simp only [pg22, E.den_loc, E.den_c, E.den_gc, E.den_bin, E.den_cmp, E.den_chn, E.den_bop, E.den_nt, E.den_neg, E.den_ife, E.den_tup, E.den_lst, E.den_ix, E.den_sl, E.den_call, E.den_blt, E.den_isi, E.den_mth, E.den_lc, E.den_dct, E.den_ifr, P.den_nil, P.den_cons, xPr0_eq, xPrC_eq, xDct_eq, L.den_nil, L.den_cons, B.den_one, B.den_cons, T.den_tru, T.den_cmp, T.den_chn, T.den_nt, T.den_bop, BT.den_one, BT.den_cons, O.den_no, O.den_on, OT.den_no, OT.den_on, I.den_src, I.den_zip, I.den_rg1, I.den_rg2, S.den_set, S.den_ret, S.den_retN, S.den_run, S.den_pass, S.den_ifs, S.den_fr, S.den_put, Ss.den_nil, Ss.den_one, Ss.den_cons, Tg.den_nm, Tg.den_tp, Tgs.den_nil, Tgs.den_cons, Tgs.many, bind_ok, xLoc_0, xLoc_s, xC_eq, xBin_eq, x1_eq, xA_eq, xArg0_eq, xArgC_eq, xChn_eq, asB_eq, xB_eq, xTru_eq, xNotT_eq, xNot_eq, xIf_eq, bopC_eq, bopTC_eq, xSl_eq, xPart0_eq, xPart1_eq, asI_eq, xMeth_eq, xSrc_eq, xI_eq, xSet_eq, xRet_eq, xRetN_eq, xDo_eq, xPass_eq, xSeq_eq, xIfS_eq, xPut_eq, gNm_eq, gsNil_eq, gsCons_eq, addI, subI, gtI, ltI, leI, geI, eqI, neI, intI, intB, truV_bl, isStr_str, beq_tt, beq_ff, beq_tf, beq_ft, nt_t, nt_f, List.set_cons_zero, List.set_cons_succ, if_tt, if_ff, ↓reduceIte, negV_int, Bf.f, Mt.f, Mt.ty, tstV, check_two_c h hg.enter ha hb hl, bare_c h hg.enter ha, bare_c h hg.enter hb, do_pass_c h hg.enter ha.all hb.all ha.few]
/-! made_letter, made -/
def mk (x y : Nat) : Nat := bif x == y then 73 else bif x == 73 then y else bif y == 73 then x else 267 - x - y
theorem mk_L {x y : Nat} (hx : isL x) (hy : isL y) : isL (mk x y) := by
  rcases hx with rfl | rfl | rfl | rfl <;> rcases hy with rfl | rfl | rfl | rfl <;> (show isL _; unfold isL; decide)
theorem eq_L {x y : Nat} (hx : isL x) (hy : isL y) : cmpV .Eq (.str [x]) (.str [y]) m = .ok (.bl (x == y)) m := by
  rcases hx with rfl | rfl | rfl | rfl <;> rcases hy with rfl | rfl | rfl | rfl <;> rfl
theorem in_L {x y : Nat} (hx : isL x) (hy : isL y) : cmpV .In (.str [73]) (.tup [.str [x], .str [y]]) m = .ok (.bl (x == 73 || y == 73)) m := by
  rcases hx with rfl | rfl | rfl | rfl <;> rcases hy with rfl | rfl | rfl | rfl <;> rfl
theorem nin_L {c x y : Nat} (hc : isL c) (hx : isL x) (hy : isL y) : cmpV .NotIn (.str [c]) (.tup [.str [x], .str [y]]) m = .ok (.bl (!(x == c) && !(y == c))) m := by
  rcases hc with rfl | rfl | rfl | rfl <;> rcases hx with rfl | rfl | rfl | rfl <;> rcases hy with rfl | rfl | rfl | rfl <;> rfl
def other3 (x y : Nat) (v : MV) : Option MV := match v with
  | .str [c] => bif !(x == c) && !(y == c) then some v else none
  | _ => none
theorem sl_XYZ : slV (.str [73, 88, 89, 90]) (some 1) Option.none m = .ok (.str [88, 89, 90]) m := rfl
theorem ix_new0 {x : MV} {xs : List MV} : ixV (.ref m.n) (.int 0) (m.push (.lst (x :: xs))) = .ok x (m.push (.lst (x :: xs))) := by
  unfold ixV
  dsimp only
  rw [get_push_same]
  dsimp only
  rw [show ixOf (x :: xs).length 0 = some 0 from by
    unfold ixOf
    rw [if_pos (by decide), if_pos (by rw [List.length_cons]; omega)]
    rfl, Option.bind_some]
  rfl
theorem made_letter_c {x y : Nat} (h : HasP 25 tab) (hg : Gd m) (hx : isL x) (hy : isL y) : clN tab (k + 1) 16 [.str [x], .str [y]] m = .ok (.str [mk x y]) m := by
  rw [cl_at h (by decide) rfl]
  have e1 := eq_L (m := m.enter) hx hy
  have e2 := in_L (m := m.enter) hx hy
  have e3 := eq_L (m := m.enter) hx (.inl rfl : isL 73)
  cases c1 : x == y with
  | true =>
    rw [c1] at e1
    refine call_rt rfl hg (m' := m.enter) ?_ .refl under_str
    rw [show frameV 3 [MV.str [x], MV.str [y]] = [some (.str [x]), some (.str [y]), none] from rfl]
    simp only [pg16, E.den_loc, E.den_c, E.den_gc, E.den_bin, E.den_cmp, E.den_chn, E.den_bop, E.den_nt, E.den_neg, E.den_ife, E.den_tup, E.den_lst, E.den_ix, E.den_sl, E.den_call, E.den_blt, E.den_isi, E.den_mth, E.den_lc, E.den_dct, E.den_ifr, P.den_nil, P.den_cons, xPr0_eq, xPrC_eq, xDct_eq, L.den_nil, L.den_cons, B.den_one, B.den_cons, T.den_tru, T.den_cmp, T.den_chn, T.den_nt, T.den_bop, BT.den_one, BT.den_cons, O.den_no, O.den_on, OT.den_no, OT.den_on, I.den_src, I.den_zip, I.den_rg1, I.den_rg2, S.den_set, S.den_ret, S.den_retN, S.den_run, S.den_pass, S.den_ifs, S.den_fr, S.den_put, Ss.den_nil, Ss.den_one, Ss.den_cons, Tg.den_nm, Tg.den_tp, Tgs.den_nil, Tgs.den_cons, Tgs.many, bind_ok, xLoc_0, xLoc_s, xC_eq, xBin_eq, x1_eq, xA_eq, xArg0_eq, xArgC_eq, xChn_eq, asB_eq, xB_eq, xTru_eq, xNotT_eq, xNot_eq, xIf_eq, bopC_eq, bopTC_eq, xSl_eq, xPart0_eq, xPart1_eq, asI_eq, xMeth_eq, xSrc_eq, xI_eq, xSet_eq, xRet_eq, xRetN_eq, xDo_eq, xPass_eq, xSeq_eq, xIfS_eq, xPut_eq, gNm_eq, gsNil_eq, gsCons_eq, addI, subI, gtI, ltI, leI, geI, eqI, neI, intI, intB, truV_bl, isStr_str, beq_tt, beq_ff, beq_tf, beq_ft, nt_t, nt_f, List.set_cons_zero, List.set_cons_succ, if_tt, if_ff, ↓reduceIte, negV_int, Bf.f, Mt.f, Mt.ty, tstV, e1, mk, c1, cond_true]
  | false =>
    rw [c1] at e1
    cases c2 : (x == 73 || y == 73) with
    | true =>
      rw [c2] at e2
      cases c3 : x == 73 with
      | true =>
        rw [c3] at e3
        refine call_rt rfl hg (m' := m.enter) ?_ .refl under_str
        rw [show frameV 3 [MV.str [x], MV.str [y]] = [some (.str [x]), some (.str [y]), none] from rfl]
        simp only [pg16, E.den_loc, E.den_c, E.den_gc, E.den_bin, E.den_cmp, E.den_chn, E.den_bop, E.den_nt, E.den_neg, E.den_ife, E.den_tup, E.den_lst, E.den_ix, E.den_sl, E.den_call, E.den_blt, E.den_isi, E.den_mth, E.den_lc, E.den_dct, E.den_ifr, P.den_nil, P.den_cons, xPr0_eq, xPrC_eq, xDct_eq, L.den_nil, L.den_cons, B.den_one, B.den_cons, T.den_tru, T.den_cmp, T.den_chn, T.den_nt, T.den_bop, BT.den_one, BT.den_cons, O.den_no, O.den_on, OT.den_no, OT.den_on, I.den_src, I.den_zip, I.den_rg1, I.den_rg2, S.den_set, S.den_ret, S.den_retN, S.den_run, S.den_pass, S.den_ifs, S.den_fr, S.den_put, Ss.den_nil, Ss.den_one, Ss.den_cons, Tg.den_nm, Tg.den_tp, Tgs.den_nil, Tgs.den_cons, Tgs.many, bind_ok, xLoc_0, xLoc_s, xC_eq, xBin_eq, x1_eq, xA_eq, xArg0_eq, xArgC_eq, xChn_eq, asB_eq, xB_eq, xTru_eq, xNotT_eq, xNot_eq, xIf_eq, bopC_eq, bopTC_eq, xSl_eq, xPart0_eq, xPart1_eq, asI_eq, xMeth_eq, xSrc_eq, xI_eq, xSet_eq, xRet_eq, xRetN_eq, xDo_eq, xPass_eq, xSeq_eq, xIfS_eq, xPut_eq, gNm_eq, gsNil_eq, gsCons_eq, addI, subI, gtI, ltI, leI, geI, eqI, neI, intI, intB, truV_bl, isStr_str, beq_tt, beq_ff, beq_tf, beq_ft, nt_t, nt_f, List.set_cons_zero, List.set_cons_succ, if_tt, if_ff, ↓reduceIte, negV_int, Bf.f, Mt.f, Mt.ty, tstV, e1, e2, e3, mkTup2, mk, c1, c3, cond_true, cond_false]
      | false =>
        rw [c3] at e3
        have c4 : (y == 73) = true := by
          rw [c3, Bool.false_or] at c2
          exact c2
        refine call_rt rfl hg (m' := m.enter) ?_ .refl under_str
        rw [show frameV 3 [MV.str [x], MV.str [y]] = [some (.str [x]), some (.str [y]), none] from rfl]
        simp only [pg16, E.den_loc, E.den_c, E.den_gc, E.den_bin, E.den_cmp, E.den_chn, E.den_bop, E.den_nt, E.den_neg, E.den_ife, E.den_tup, E.den_lst, E.den_ix, E.den_sl, E.den_call, E.den_blt, E.den_isi, E.den_mth, E.den_lc, E.den_dct, E.den_ifr, P.den_nil, P.den_cons, xPr0_eq, xPrC_eq, xDct_eq, L.den_nil, L.den_cons, B.den_one, B.den_cons, T.den_tru, T.den_cmp, T.den_chn, T.den_nt, T.den_bop, BT.den_one, BT.den_cons, O.den_no, O.den_on, OT.den_no, OT.den_on, I.den_src, I.den_zip, I.den_rg1, I.den_rg2, S.den_set, S.den_ret, S.den_retN, S.den_run, S.den_pass, S.den_ifs, S.den_fr, S.den_put, Ss.den_nil, Ss.den_one, Ss.den_cons, Tg.den_nm, Tg.den_tp, Tgs.den_nil, Tgs.den_cons, Tgs.many, bind_ok, xLoc_0, xLoc_s, xC_eq, xBin_eq, x1_eq, xA_eq, xArg0_eq, xArgC_eq, xChn_eq, asB_eq, xB_eq, xTru_eq, xNotT_eq, xNot_eq, xIf_eq, bopC_eq, bopTC_eq, xSl_eq, xPart0_eq, xPart1_eq, asI_eq, xMeth_eq, xSrc_eq, xI_eq, xSet_eq, xRet_eq, xRetN_eq, xDo_eq, xPass_eq, xSeq_eq, xIfS_eq, xPut_eq, gNm_eq, gsNil_eq, gsCons_eq, addI, subI, gtI, ltI, leI, geI, eqI, neI, intI, intB, truV_bl, isStr_str, beq_tt, beq_ff, beq_tf, beq_ft, nt_t, nt_f, List.set_cons_zero, List.set_cons_succ, if_tt, if_ff, ↓reduceIte, negV_int, Bf.f, Mt.f, Mt.ty, tstV, e1, e2, e3, mkTup2, mk, c1, c3, c4, cond_true, cond_false, if_neg Bool.false_ne_true]
    | false =>
      rw [c2] at e2
      have lc := lc_pure (m := m.enter) (m1 := m.enter) (vs := [2]) (s := [some (.str [x]), some (.str [y]), none]) (src := xSrc (xSl (xC (.str [73, 88, 89, 90])) (xPart (Option.some (xC (.int 1)))) (xPart Option.none))) (g := gNm 2) (t := some (xB (xBin (cmpV .NotIn) (xLoc 2) (xA mkTup (xArgC (xLoc 0) (xArgC (xLoc 1) xArg0)))))) (e := xLoc 2) (sr := .imm [.str [88], .str [89], .str [90]]) (xs := [.str [88], .str [89], .str [90]]) (other3 x y) rfl (show 3 + 1 ≤ big by decide) (its_imm _ _) (Nat.le_refl _) (by
        intro v hv
        have hc : ∃ c, v = .str [c] ∧ isL c := by
          simp only [List.mem_cons, List.not_mem_nil, or_false] at hv
          rcases hv with rfl | rfl | rfl
          · exact ⟨88, rfl, .inr (.inl rfl)⟩
          · exact ⟨89, rfl, .inr (.inr (.inl rfl))⟩
          · exact ⟨90, rfl, .inr (.inr (.inr rfl))⟩
        obtain ⟨c, rfl, hc⟩ := hc
        have e := nin_L (m := m.enter) hc hx hy
        unfold other3
        dsimp only
        cases d : (!(x == c) && !(y == c)) with
        | true =>
          rw [d] at e
          exact ⟨_, rfl, by show xB _ _ _ = _; simp only [E.den_loc, E.den_c, E.den_gc, E.den_bin, E.den_cmp, E.den_chn, E.den_bop, E.den_nt, E.den_neg, E.den_ife, E.den_tup, E.den_lst, E.den_ix, E.den_sl, E.den_call, E.den_blt, E.den_isi, E.den_mth, E.den_lc, E.den_dct, E.den_ifr, P.den_nil, P.den_cons, xPr0_eq, xPrC_eq, xDct_eq, L.den_nil, L.den_cons, B.den_one, B.den_cons, T.den_tru, T.den_cmp, T.den_chn, T.den_nt, T.den_bop, BT.den_one, BT.den_cons, O.den_no, O.den_on, OT.den_no, OT.den_on, I.den_src, I.den_zip, I.den_rg1, I.den_rg2, S.den_set, S.den_ret, S.den_retN, S.den_run, S.den_pass, S.den_ifs, S.den_fr, S.den_put, Ss.den_nil, Ss.den_one, Ss.den_cons, Tg.den_nm, Tg.den_tp, Tgs.den_nil, Tgs.den_cons, Tgs.many, bind_ok, xLoc_0, xLoc_s, xC_eq, xBin_eq, x1_eq, xA_eq, xArg0_eq, xArgC_eq, xChn_eq, asB_eq, xB_eq, xTru_eq, xNotT_eq, xNot_eq, xIf_eq, bopC_eq, bopTC_eq, xSl_eq, xPart0_eq, xPart1_eq, asI_eq, xMeth_eq, xSrc_eq, xI_eq, xSet_eq, xRet_eq, xRetN_eq, xDo_eq, xPass_eq, xSeq_eq, xIfS_eq, xPut_eq, gNm_eq, gsNil_eq, gsCons_eq, addI, subI, gtI, ltI, leI, geI, eqI, neI, intI, intB, truV_bl, isStr_str, beq_tt, beq_ff, beq_tf, beq_ft, nt_t, nt_f, List.set_cons_zero, List.set_cons_succ, if_tt, if_ff, ↓reduceIte, negV_int, Bf.f, Mt.f, Mt.ty, tstV, mkTup2, wipeM, e], rfl⟩
        | false =>
          rw [d] at e
          exact ⟨_, rfl, by show xB _ _ _ = _; simp only [E.den_loc, E.den_c, E.den_gc, E.den_bin, E.den_cmp, E.den_chn, E.den_bop, E.den_nt, E.den_neg, E.den_ife, E.den_tup, E.den_lst, E.den_ix, E.den_sl, E.den_call, E.den_blt, E.den_isi, E.den_mth, E.den_lc, E.den_dct, E.den_ifr, P.den_nil, P.den_cons, xPr0_eq, xPrC_eq, xDct_eq, L.den_nil, L.den_cons, B.den_one, B.den_cons, T.den_tru, T.den_cmp, T.den_chn, T.den_nt, T.den_bop, BT.den_one, BT.den_cons, O.den_no, O.den_on, OT.den_no, OT.den_on, I.den_src, I.den_zip, I.den_rg1, I.den_rg2, S.den_set, S.den_ret, S.den_retN, S.den_run, S.den_pass, S.den_ifs, S.den_fr, S.den_put, Ss.den_nil, Ss.den_one, Ss.den_cons, Tg.den_nm, Tg.den_tp, Tgs.den_nil, Tgs.den_cons, Tgs.many, bind_ok, xLoc_0, xLoc_s, xC_eq, xBin_eq, x1_eq, xA_eq, xArg0_eq, xArgC_eq, xChn_eq, asB_eq, xB_eq, xTru_eq, xNotT_eq, xNot_eq, xIf_eq, bopC_eq, bopTC_eq, xSl_eq, xPart0_eq, xPart1_eq, asI_eq, xMeth_eq, xSrc_eq, xI_eq, xSet_eq, xRet_eq, xRetN_eq, xDo_eq, xPass_eq, xSeq_eq, xIfS_eq, xPut_eq, gNm_eq, gsNil_eq, gsCons_eq, addI, subI, gtI, ltI, leI, geI, eqI, neI, intI, intB, truV_bl, isStr_str, beq_tt, beq_ff, beq_tf, beq_ft, nt_t, nt_f, List.set_cons_zero, List.set_cons_succ, if_tt, if_ff, ↓reduceIte, negV_int, Bf.f, Mt.f, Mt.ty, tstV, mkTup2, wipeM, e]⟩)
      have lst : [MV.str [88], .str [89], .str [90]].filterMap (other3 x y) = [.str [mk x y]] := by
        rcases hx with rfl | rfl | rfl | rfl <;> rcases hy with rfl | rfl | rfl | rfl <;> first | rfl | (exact absurd c1 (by decide)) | (exact absurd c2 (by decide))
      rw [lst] at lc
      refine call_rt rfl hg (m' := m.enter.push (.lst [.str [mk x y]])) ?_ (.push .refl) under_str
      rw [show frameV 3 [MV.str [x], MV.str [y]] = [some (.str [x]), some (.str [y]), none] from rfl]
      simp only [pg16, E.den_loc, E.den_c, E.den_gc, E.den_bin, E.den_cmp, E.den_chn, E.den_bop, E.den_nt, E.den_neg, E.den_ife, E.den_tup, E.den_lst, E.den_ix, E.den_sl, E.den_call, E.den_blt, E.den_isi, E.den_mth, E.den_lc, E.den_dct, E.den_ifr, P.den_nil, P.den_cons, xPr0_eq, xPrC_eq, xDct_eq, L.den_nil, L.den_cons, B.den_one, B.den_cons, T.den_tru, T.den_cmp, T.den_chn, T.den_nt, T.den_bop, BT.den_one, BT.den_cons, O.den_no, O.den_on, OT.den_no, OT.den_on, I.den_src, I.den_zip, I.den_rg1, I.den_rg2, S.den_set, S.den_ret, S.den_retN, S.den_run, S.den_pass, S.den_ifs, S.den_fr, S.den_put, Ss.den_nil, Ss.den_one, Ss.den_cons, Tg.den_nm, Tg.den_tp, Tgs.den_nil, Tgs.den_cons, Tgs.many, bind_ok, xLoc_0, xLoc_s, xC_eq, xBin_eq, x1_eq, xA_eq, xArg0_eq, xArgC_eq, xChn_eq, asB_eq, xB_eq, xTru_eq, xNotT_eq, xNot_eq, xIf_eq, bopC_eq, bopTC_eq, xSl_eq, xPart0_eq, xPart1_eq, asI_eq, xMeth_eq, xSrc_eq, xI_eq, xSet_eq, xRet_eq, xRetN_eq, xDo_eq, xPass_eq, xSeq_eq, xIfS_eq, xPut_eq, gNm_eq, gsNil_eq, gsCons_eq, addI, subI, gtI, ltI, leI, geI, eqI, neI, intI, intB, truV_bl, isStr_str, beq_tt, beq_ff, beq_tf, beq_ft, nt_t, nt_f, List.set_cons_zero, List.set_cons_succ, if_tt, if_ff, ↓reduceIte, negV_int, Bf.f, Mt.f, Mt.ty, tstV, e1, e2, mkTup2, lc, ix_new0]
/-- the letters of two rows of letters, made -/
def mkS (a b : List Nat) : List Nat := (a.zip b).map fun p => mk p.1 p.2
theorem txts_map (l : List Nat) : txts (l.map fun c => .str [c]) = some (l.map fun c => [c]) := by
  induction l with
  | nil => rfl
  | cons c l ih =>
    rw [List.map_cons, txts, ih]
    rfl
theorem joinL_ch : ∀ l : List Nat, joinL [] (l.map fun c => [c]) = l
  | [] => rfl
  | [c] => rfl
  | c :: d :: l => by
    show [c] ++ [] ++ joinL [] ((d :: l).map fun c => [c]) = _
    rw [joinL_ch (d :: l)] <;> rfl
theorem sumL_ch : ∀ l : List Nat, sumL (l.map fun c => [c]) = l.length
  | [] => rfl
  | c :: l => by
    show 1 + sumL (l.map fun c => [c]) = _
    rw [sumL_ch l, List.length_cons]
    omega
theorem join_new {l : List Nat} (h : l.length ≤ 1000) : joinV (.str []) [.ref m.n] (m.push (.lst (l.map fun c => .str [c]))) = .ok (.str l) (m.push (.lst (l.map fun c => .str [c]))) := by
  unfold joinV itemsOf
  dsimp only
  rw [get_push_same]
  dsimp only
  rw [txts_map]
  dsimp only
  rw [sumL_ch, joinL_ch, if_pos (leB (by rw [List.length_map, List.length_nil]; omega))]
theorem mkS_len (a b : List Nat) : (mkS a b).length ≤ a.length := by
  unfold mkS
  rw [List.length_map, List.length_zip]
  omega
theorem made_c (h : HasP 25 tab) (hg : Gd m) (ha : ∀ c ∈ a, isL c) (hb : ∀ c ∈ b, isL c) (hl : a.length ≤ 4) : clN tab (k + 2) 17 [.str a, .str b] m = .ok (.str (mkS a b)) m := by
  rw [cl_at h (by decide) rfl]
  refine call_rt rfl hg (m' := m.enter.push (.lst ((mkS a b).map fun c => .str [c]))) ?_ (.push .refl) under_str
  rw [show frameV 4 [MV.str a, MV.str b] = [some (.str a), some (.str b), none, none] from rfl]
  have lc := lc_prs (m := m.enter) (a := a) (b := b) (vs := [2, 3]) (s := [some (.str a), some (.str b), none, none]) (i := 0) (j := 1) (g := gTp 2 (gsCons (gNm 2) (gsCons (gNm 3) gsNil))) (t := Option.none) (e := xA (clN tab (k + 1) 16) (xArgC (xLoc 2) (xArgC (xLoc 3) xArg0))) (fun x y => some (.str [mk x y])) rfl rfl (by omega) fun x y hm => by
    obtain ⟨hx, hy⟩ := mem_zip_L ha hb hm
    refine ⟨[some (.str a), some (.str b), some (.str [x]), some (.str [y])], rfl, rfl, ?_⟩
    simp only [E.den_loc, E.den_c, E.den_gc, E.den_bin, E.den_cmp, E.den_chn, E.den_bop, E.den_nt, E.den_neg, E.den_ife, E.den_tup, E.den_lst, E.den_ix, E.den_sl, E.den_call, E.den_blt, E.den_isi, E.den_mth, E.den_lc, E.den_dct, E.den_ifr, P.den_nil, P.den_cons, xPr0_eq, xPrC_eq, xDct_eq, L.den_nil, L.den_cons, B.den_one, B.den_cons, T.den_tru, T.den_cmp, T.den_chn, T.den_nt, T.den_bop, BT.den_one, BT.den_cons, O.den_no, O.den_on, OT.den_no, OT.den_on, I.den_src, I.den_zip, I.den_rg1, I.den_rg2, S.den_set, S.den_ret, S.den_retN, S.den_run, S.den_pass, S.den_ifs, S.den_fr, S.den_put, Ss.den_nil, Ss.den_one, Ss.den_cons, Tg.den_nm, Tg.den_tp, Tgs.den_nil, Tgs.den_cons, Tgs.many, bind_ok, xLoc_0, xLoc_s, xC_eq, xBin_eq, x1_eq, xA_eq, xArg0_eq, xArgC_eq, xChn_eq, asB_eq, xB_eq, xTru_eq, xNotT_eq, xNot_eq, xIf_eq, bopC_eq, bopTC_eq, xSl_eq, xPart0_eq, xPart1_eq, asI_eq, xMeth_eq, xSrc_eq, xI_eq, xSet_eq, xRet_eq, xRetN_eq, xDo_eq, xPass_eq, xSeq_eq, xIfS_eq, xPut_eq, gNm_eq, gsNil_eq, gsCons_eq, addI, subI, gtI, ltI, leI, geI, eqI, neI, intI, intB, truV_bl, isStr_str, beq_tt, beq_ff, beq_tf, beq_ft, nt_t, nt_f, List.set_cons_zero, List.set_cons_succ, if_tt, if_ff, ↓reduceIte, negV_int, Bf.f, Mt.f, Mt.ty, tstV, made_letter_c h hg.enter hx hy]
  have e : ((a.zip b).filterMap fun p => some (MV.str [mk p.1 p.2])) = (mkS a b).map fun c => .str [c] := by
    rw [fm_some (fun p : Nat × Nat => MV.str [mk p.1 p.2])]
    unfold mkS
    rw [List.map_map] <;> rfl
  rw [e] at lc
  have hm := mkS_len a b
  simp only [pg17, E.den_loc, E.den_c, E.den_gc, E.den_bin, E.den_cmp, E.den_chn, E.den_bop, E.den_nt, E.den_neg, E.den_ife, E.den_tup, E.den_lst, E.den_ix, E.den_sl, E.den_call, E.den_blt, E.den_isi, E.den_mth, E.den_lc, E.den_dct, E.den_ifr, P.den_nil, P.den_cons, xPr0_eq, xPrC_eq, xDct_eq, L.den_nil, L.den_cons, B.den_one, B.den_cons, T.den_tru, T.den_cmp, T.den_chn, T.den_nt, T.den_bop, BT.den_one, BT.den_cons, O.den_no, O.den_on, OT.den_no, OT.den_on, I.den_src, I.den_zip, I.den_rg1, I.den_rg2, S.den_set, S.den_ret, S.den_retN, S.den_run, S.den_pass, S.den_ifs, S.den_fr, S.den_put, Ss.den_nil, Ss.den_one, Ss.den_cons, Tg.den_nm, Tg.den_tp, Tgs.den_nil, Tgs.den_cons, Tgs.many, bind_ok, xLoc_0, xLoc_s, xC_eq, xBin_eq, x1_eq, xA_eq, xArg0_eq, xArgC_eq, xChn_eq, asB_eq, xB_eq, xTru_eq, xNotT_eq, xNot_eq, xIf_eq, bopC_eq, bopTC_eq, xSl_eq, xPart0_eq, xPart1_eq, asI_eq, xMeth_eq, xSrc_eq, xI_eq, xSet_eq, xRet_eq, xRetN_eq, xDo_eq, xPass_eq, xSeq_eq, xIfS_eq, xPut_eq, gNm_eq, gsNil_eq, gsCons_eq, addI, subI, gtI, ltI, leI, geI, eqI, neI, intI, intB, truV_bl, isStr_str, beq_tt, beq_ff, beq_tf, beq_ft, nt_t, nt_f, List.set_cons_zero, List.set_cons_succ, if_tt, if_ff, ↓reduceIte, negV_int, Bf.f, Mt.f, Mt.ty, tstV, lc, join_new (show (mkS a b).length ≤ 1000 by omega)]
/-! quarters, signs -/
def ris (x y : Nat) : Bool := (x == 88 && y == 89) || (x == 89 && y == 90) || (x == 90 && y == 88)
def cntB (f : Nat → Nat → Bool) (a b : List Nat) : Nat := ((a.zip b).filter fun p => f p.1 p.2).length
def quaB (a b : List Nat) : Int := (cntB ris a b : Int) - (cntB (fun x y => ris y x) a b : Int)
theorem add_L {x y : Nat} : binV .Add (.str [x]) (.str [y]) m = .ok (.str [x, y]) m := rfl
theorem ris_L {x y : Nat} (hx : isL x) (hy : isL y) : cmpV .In (.str [x, y]) (.tup [.str [88, 89], .str [89, 90], .str [90, 88]]) m = .ok (.bl (ris x y)) m := by
  rcases hx with rfl | rfl | rfl | rfl <;> rcases hy with rfl | rfl | rfl | rfl <;> rfl
theorem lc_ris (ha : ∀ c ∈ a, isL c) (hb : ∀ c ∈ b, isL c) (hl : a.length ≤ 4) {s : St} (s0 s1 : Option MV) (hs : s = [some (.str a), some (.str b), s0, s1, none, none]) (f : Nat → Nat → Bool) (i j : Nat) (hf : (i = 4 ∧ j = 5 ∧ f = ris) ∨ (i = 5 ∧ j = 4 ∧ f = fun x y => ris y x)) :
    xLc [4, 5] (xI zipV (xArgC (xLoc 0) (xArgC (xLoc 1) xArg0))) (gTp 2 (gsCons (gNm 4) (gsCons (gNm 5) gsNil))) (some (xB (xBin (cmpV .In) (xBin (binV .Add) (xLoc i) (xLoc j)) (xC (.tup [.str [88, 89], .str [89, 90], .str [90, 88]]))))) (xC (.int 1)) s m = .ok (.ref m.n) (m.push (.lst ((a.zip b).filterMap fun p => bif f p.1 p.2 then some (.int 1) else none))) := by
  subst hs
  refine lc_prs (fun x y => bif f x y then some (.int 1) else none) rfl rfl (by omega) fun x y hm => ?_
  obtain ⟨hx, hy⟩ := mem_zip_L ha hb hm
  have hs : ∃ z : St, z = [some (.str a), some (.str b), s0, s1, some (.str [x]), some (.str [y])] := ⟨_, rfl⟩
  obtain ⟨z, hz⟩ := hs
  have ev : tstV (some (xB (xBin (cmpV .In) (xBin (binV .Add) (xLoc i) (xLoc j)) (xC (.tup [.str [88, 89], .str [89, 90], .str [90, 88]]))))) z m = .ok (f x y) m := by
    subst hz
    rcases hf with ⟨rfl, rfl, rfl⟩ | ⟨rfl, rfl, rfl⟩
    · simp only [E.den_loc, E.den_c, E.den_gc, E.den_bin, E.den_cmp, E.den_chn, E.den_bop, E.den_nt, E.den_neg, E.den_ife, E.den_tup, E.den_lst, E.den_ix, E.den_sl, E.den_call, E.den_blt, E.den_isi, E.den_mth, E.den_lc, E.den_dct, E.den_ifr, P.den_nil, P.den_cons, xPr0_eq, xPrC_eq, xDct_eq, L.den_nil, L.den_cons, B.den_one, B.den_cons, T.den_tru, T.den_cmp, T.den_chn, T.den_nt, T.den_bop, BT.den_one, BT.den_cons, O.den_no, O.den_on, OT.den_no, OT.den_on, I.den_src, I.den_zip, I.den_rg1, I.den_rg2, S.den_set, S.den_ret, S.den_retN, S.den_run, S.den_pass, S.den_ifs, S.den_fr, S.den_put, Ss.den_nil, Ss.den_one, Ss.den_cons, Tg.den_nm, Tg.den_tp, Tgs.den_nil, Tgs.den_cons, Tgs.many, bind_ok, xLoc_0, xLoc_s, xC_eq, xBin_eq, x1_eq, xA_eq, xArg0_eq, xArgC_eq, xChn_eq, asB_eq, xB_eq, xTru_eq, xNotT_eq, xNot_eq, xIf_eq, bopC_eq, bopTC_eq, xSl_eq, xPart0_eq, xPart1_eq, asI_eq, xMeth_eq, xSrc_eq, xI_eq, xSet_eq, xRet_eq, xRetN_eq, xDo_eq, xPass_eq, xSeq_eq, xIfS_eq, xPut_eq, gNm_eq, gsNil_eq, gsCons_eq, addI, subI, gtI, ltI, leI, geI, eqI, neI, intI, intB, truV_bl, isStr_str, beq_tt, beq_ff, beq_tf, beq_ft, nt_t, nt_f, List.set_cons_zero, List.set_cons_succ, if_tt, if_ff, ↓reduceIte, negV_int, Bf.f, Mt.f, Mt.ty, tstV, add_L, ris_L hx hy]
    · simp only [E.den_loc, E.den_c, E.den_gc, E.den_bin, E.den_cmp, E.den_chn, E.den_bop, E.den_nt, E.den_neg, E.den_ife, E.den_tup, E.den_lst, E.den_ix, E.den_sl, E.den_call, E.den_blt, E.den_isi, E.den_mth, E.den_lc, E.den_dct, E.den_ifr, P.den_nil, P.den_cons, xPr0_eq, xPrC_eq, xDct_eq, L.den_nil, L.den_cons, B.den_one, B.den_cons, T.den_tru, T.den_cmp, T.den_chn, T.den_nt, T.den_bop, BT.den_one, BT.den_cons, O.den_no, O.den_on, OT.den_no, OT.den_on, I.den_src, I.den_zip, I.den_rg1, I.den_rg2, S.den_set, S.den_ret, S.den_retN, S.den_run, S.den_pass, S.den_ifs, S.den_fr, S.den_put, Ss.den_nil, Ss.den_one, Ss.den_cons, Tg.den_nm, Tg.den_tp, Tgs.den_nil, Tgs.den_cons, Tgs.many, bind_ok, xLoc_0, xLoc_s, xC_eq, xBin_eq, x1_eq, xA_eq, xArg0_eq, xArgC_eq, xChn_eq, asB_eq, xB_eq, xTru_eq, xNotT_eq, xNot_eq, xIf_eq, bopC_eq, bopTC_eq, xSl_eq, xPart0_eq, xPart1_eq, asI_eq, xMeth_eq, xSrc_eq, xI_eq, xSet_eq, xRet_eq, xRetN_eq, xDo_eq, xPass_eq, xSeq_eq, xIfS_eq, xPut_eq, gNm_eq, gsNil_eq, gsCons_eq, addI, subI, gtI, ltI, leI, geI, eqI, neI, intI, intB, truV_bl, isStr_str, beq_tt, beq_ff, beq_tf, beq_ft, nt_t, nt_f, List.set_cons_zero, List.set_cons_succ, if_tt, if_ff, ↓reduceIte, negV_int, Bf.f, Mt.f, Mt.ty, tstV, add_L, ris_L hy hx]
  cases e : f x y with
  | true =>
    rw [e] at ev
    exact ⟨z, by rw [hz] <;> rfl, ev, rfl⟩
  | false =>
    rw [e] at ev
    exact ⟨z, by rw [hz] <;> rfl, ev⟩
theorem get_2 {o p : MO} : ((m.push o).push p).get m.n = some o := by
  rw [get_push_old (Nat.lt_succ_self _), get_push_same]
theorem quarters_c (h : HasP 25 tab) (hg : Gd m) (ha : ∀ c ∈ a, isL c) (hb : ∀ c ∈ b, isL c) (hl : a.length ≤ 4) : clN tab (k + 1) 18 [.str a, .str b] m = .ok (.int (quaB a b)) m := by
  rw [cl_at h (by decide) rfl]
  refine call_rt rfl hg (m' := (m.enter.push (.lst ((a.zip b).filterMap fun p => bif ris p.1 p.2 then some (.int 1) else none))).push (.lst ((a.zip b).filterMap fun p => bif ris p.2 p.1 then some (.int 1) else none))) ?_ (.push (.push .refl)) under_int
  rw [show frameV 6 [MV.str a, MV.str b] = [some (.str a), some (.str b), none, none, none, none] from rfl]
  have l1 := lc_ris (m := m.enter) ha hb hl none none rfl ris 4 5 (.inl ⟨rfl, rfl, rfl⟩)
  have l2 := lc_ris (m := m.enter.push (.lst ((a.zip b).filterMap fun p => bif ris p.1 p.2 then some (.int 1) else none))) ha hb hl (some (.ref m.enter.n)) none rfl (fun x y => ris y x) 5 4 (.inr ⟨rfl, rfl, rfl⟩)
  simp only [pg18, E.den_loc, E.den_c, E.den_gc, E.den_bin, E.den_cmp, E.den_chn, E.den_bop, E.den_nt, E.den_neg, E.den_ife, E.den_tup, E.den_lst, E.den_ix, E.den_sl, E.den_call, E.den_blt, E.den_isi, E.den_mth, E.den_lc, E.den_dct, E.den_ifr, P.den_nil, P.den_cons, xPr0_eq, xPrC_eq, xDct_eq, L.den_nil, L.den_cons, B.den_one, B.den_cons, T.den_tru, T.den_cmp, T.den_chn, T.den_nt, T.den_bop, BT.den_one, BT.den_cons, O.den_no, O.den_on, OT.den_no, OT.den_on, I.den_src, I.den_zip, I.den_rg1, I.den_rg2, S.den_set, S.den_ret, S.den_retN, S.den_run, S.den_pass, S.den_ifs, S.den_fr, S.den_put, Ss.den_nil, Ss.den_one, Ss.den_cons, Tg.den_nm, Tg.den_tp, Tgs.den_nil, Tgs.den_cons, Tgs.many, bind_ok, xLoc_0, xLoc_s, xC_eq, xBin_eq, x1_eq, xA_eq, xArg0_eq, xArgC_eq, xChn_eq, asB_eq, xB_eq, xTru_eq, xNotT_eq, xNot_eq, xIf_eq, bopC_eq, bopTC_eq, xSl_eq, xPart0_eq, xPart1_eq, asI_eq, xMeth_eq, xSrc_eq, xI_eq, xSet_eq, xRet_eq, xRetN_eq, xDo_eq, xPass_eq, xSeq_eq, xIfS_eq, xPut_eq, gNm_eq, gsNil_eq, gsCons_eq, addI, subI, gtI, ltI, leI, geI, eqI, neI, intI, intB, truV_bl, isStr_str, beq_tt, beq_ff, beq_tf, beq_ft, nt_t, nt_f, List.set_cons_zero, List.set_cons_succ, if_tt, if_ff, ↓reduceIte, negV_int, Bf.f, Mt.f, Mt.ty, tstV, l1, l2, len_lst get_2, len_lst get_push_same]
  rw [filt_len (a.zip b) ris (fun _ _ => .int 1), filt_len (a.zip b) (fun x y => ris y x) (fun _ _ => .int 1)]
  rfl
/-- whether the product of two rows of letters has no minus of its own -/
def plusB (a b : List Nat) : Bool := quaB a b % 4 == 0
theorem made_sign_c (h : HasP 25 tab) (hg : Gd m) (ha : ∀ c ∈ a, isL c) (hb : ∀ c ∈ b, isL c) (hl : a.length ≤ 4) : clN tab (k + 2) 19 [.str a, .str b] m = .ok (.int (bif plusB a b then 1 else -1)) m := by
  rw [cl_at h (by decide) rfl]
  refine call_rt rfl hg (m' := m.enter) ?_ .refl under_int
  rw [show frameV 2 [MV.str a, MV.str b] = [some (.str a), some (.str b)] from rfl]
  simp only [pg19, E.den_loc, E.den_c, E.den_gc, E.den_bin, E.den_cmp, E.den_chn, E.den_bop, E.den_nt, E.den_neg, E.den_ife, E.den_tup, E.den_lst, E.den_ix, E.den_sl, E.den_call, E.den_blt, E.den_isi, E.den_mth, E.den_lc, E.den_dct, E.den_ifr, P.den_nil, P.den_cons, xPr0_eq, xPrC_eq, xDct_eq, L.den_nil, L.den_cons, B.den_one, B.den_cons, T.den_tru, T.den_cmp, T.den_chn, T.den_nt, T.den_bop, BT.den_one, BT.den_cons, O.den_no, O.den_on, OT.den_no, OT.den_on, I.den_src, I.den_zip, I.den_rg1, I.den_rg2, S.den_set, S.den_ret, S.den_retN, S.den_run, S.den_pass, S.den_ifs, S.den_fr, S.den_put, Ss.den_nil, Ss.den_one, Ss.den_cons, Tg.den_nm, Tg.den_tp, Tgs.den_nil, Tgs.den_cons, Tgs.many, bind_ok, xLoc_0, xLoc_s, xC_eq, xBin_eq, x1_eq, xA_eq, xArg0_eq, xArgC_eq, xChn_eq, asB_eq, xB_eq, xTru_eq, xNotT_eq, xNot_eq, xIf_eq, bopC_eq, bopTC_eq, xSl_eq, xPart0_eq, xPart1_eq, asI_eq, xMeth_eq, xSrc_eq, xI_eq, xSet_eq, xRet_eq, xRetN_eq, xDo_eq, xPass_eq, xSeq_eq, xIfS_eq, xPut_eq, gNm_eq, gsNil_eq, gsCons_eq, addI, subI, gtI, ltI, leI, geI, eqI, neI, intI, intB, truV_bl, isStr_str, beq_tt, beq_ff, beq_tf, beq_ft, nt_t, nt_f, List.set_cons_zero, List.set_cons_succ, if_tt, if_ff, ↓reduceIte, negV_int, Bf.f, Mt.f, Mt.ty, tstV, quarters_c h hg.enter ha hb hl, modI (show (0 : Int) < 4 by decide)]
  show R.bind (if plusB a b = true then _ else _) _ = _
  cases plusB a b <;> rfl
theorem wd_len : (wd n a).length ≤ a.length + 1 := by
  cases n with
  | true => exact Nat.le_refl _
  | false => exact Nat.le_succ _
theorem sl_wd (h : Ltr a) : slV (.str (wd n a)) Option.none (some 1) m = .ok (.str ((wd n a).take 1)) m := by
  have := wd_len (n := n) (a := a)
  have := h.few
  have hp : 1 ≤ (wd n a).length := by
    cases n with
    | true => exact Nat.succ_le_succ (Nat.zero_le _)
    | false => exact h.pos
  show (if Nat.ble (wd n a).length big then R.ok (MV.str (cut (wd n a) Option.none (some 1))) m else .bad) = _
  rw [if_pos (leB (by omega))]
  congr 2
  unfold cut HT.sIx
  simp
theorem sg_eq (h : Ltr a) : cmpV .Eq (.str ((wd n a).take 1)) (.str [45]) m = .ok (.bl n) m := by
  cases n with
  | true => rfl
  | false =>
    cases a with
    | nil => exact absurd h.pos (by simp)
    | cons c r =>
      have hc := h.all c (List.mem_cons_self ..)
      rcases hc with rfl | rfl | rfl | rfl <;> rfl
theorem sign_in_c (h : HasP 25 tab) (hg : Gd m) (ha : Ltr a) : clN tab (k + 1) 10 [.str (wd n a)] m = .ok (.int (bif n then -1 else 1)) m := by
  rw [cl_at h (by decide) rfl]
  refine call_rt rfl hg (m' := m.enter) ?_ .refl under_int
  rw [show frameV 1 [MV.str (wd n a)] = [some (.str (wd n a))] from rfl]
  simp only [pg10, E.den_loc, E.den_c, E.den_gc, E.den_bin, E.den_cmp, E.den_chn, E.den_bop, E.den_nt, E.den_neg, E.den_ife, E.den_tup, E.den_lst, E.den_ix, E.den_sl, E.den_call, E.den_blt, E.den_isi, E.den_mth, E.den_lc, E.den_dct, E.den_ifr, P.den_nil, P.den_cons, xPr0_eq, xPrC_eq, xDct_eq, L.den_nil, L.den_cons, B.den_one, B.den_cons, T.den_tru, T.den_cmp, T.den_chn, T.den_nt, T.den_bop, BT.den_one, BT.den_cons, O.den_no, O.den_on, OT.den_no, OT.den_on, I.den_src, I.den_zip, I.den_rg1, I.den_rg2, S.den_set, S.den_ret, S.den_retN, S.den_run, S.den_pass, S.den_ifs, S.den_fr, S.den_put, Ss.den_nil, Ss.den_one, Ss.den_cons, Tg.den_nm, Tg.den_tp, Tgs.den_nil, Tgs.den_cons, Tgs.many, bind_ok, xLoc_0, xLoc_s, xC_eq, xBin_eq, x1_eq, xA_eq, xArg0_eq, xArgC_eq, xChn_eq, asB_eq, xB_eq, xTru_eq, xNotT_eq, xNot_eq, xIf_eq, bopC_eq, bopTC_eq, xSl_eq, xPart0_eq, xPart1_eq, asI_eq, xMeth_eq, xSrc_eq, xI_eq, xSet_eq, xRet_eq, xRetN_eq, xDo_eq, xPass_eq, xSeq_eq, xIfS_eq, xPut_eq, gNm_eq, gsNil_eq, gsCons_eq, addI, subI, gtI, ltI, leI, geI, eqI, neI, intI, intB, truV_bl, isStr_str, beq_tt, beq_ff, beq_tf, beq_ft, nt_t, nt_f, List.set_cons_zero, List.set_cons_succ, if_tt, if_ff, ↓reduceIte, negV_int, Bf.f, Mt.f, Mt.ty, tstV, sl_wd ha, sg_eq ha]
  cases n <;> rfl
theorem word_of_c (h : HasP 25 tab) (hg : Gd m) (hl : a.length ≤ 1000) {i : Int} : clN tab (k + 1) 11 [.int i, .str a] m = .ok (.str (wd (!decide (0 < i)) a)) m := by
  rw [cl_at h (by decide) rfl]
  refine call_rt rfl hg (m' := m.enter) ?_ .refl under_str
  rw [show frameV 2 [MV.int i, MV.str a] = [some (.int i), some (.str a)] from rfl]
  simp only [pg11, E.den_loc, E.den_c, E.den_gc, E.den_bin, E.den_cmp, E.den_chn, E.den_bop, E.den_nt, E.den_neg, E.den_ife, E.den_tup, E.den_lst, E.den_ix, E.den_sl, E.den_call, E.den_blt, E.den_isi, E.den_mth, E.den_lc, E.den_dct, E.den_ifr, P.den_nil, P.den_cons, xPr0_eq, xPrC_eq, xDct_eq, L.den_nil, L.den_cons, B.den_one, B.den_cons, T.den_tru, T.den_cmp, T.den_chn, T.den_nt, T.den_bop, BT.den_one, BT.den_cons, O.den_no, O.den_on, OT.den_no, OT.den_on, I.den_src, I.den_zip, I.den_rg1, I.den_rg2, S.den_set, S.den_ret, S.den_retN, S.den_run, S.den_pass, S.den_ifs, S.den_fr, S.den_put, Ss.den_nil, Ss.den_one, Ss.den_cons, Tg.den_nm, Tg.den_tp, Tgs.den_nil, Tgs.den_cons, Tgs.many, bind_ok, xLoc_0, xLoc_s, xC_eq, xBin_eq, x1_eq, xA_eq, xArg0_eq, xArgC_eq, xChn_eq, asB_eq, xB_eq, xTru_eq, xNotT_eq, xNot_eq, xIf_eq, bopC_eq, bopTC_eq, xSl_eq, xPart0_eq, xPart1_eq, asI_eq, xMeth_eq, xSrc_eq, xI_eq, xSet_eq, xRet_eq, xRetN_eq, xDo_eq, xPass_eq, xSeq_eq, xIfS_eq, xPut_eq, gNm_eq, gsNil_eq, gsCons_eq, addI, subI, gtI, ltI, leI, geI, eqI, neI, intI, intB, truV_bl, isStr_str, beq_tt, beq_ff, beq_tf, beq_ft, nt_t, nt_f, List.set_cons_zero, List.set_cons_succ, if_tt, if_ff, ↓reduceIte, negV_int, Bf.f, Mt.f, Mt.ty, tstV, addS (show [45].length + a.length ≤ big from Nat.le_trans (show 1 + a.length ≤ 1001 by omega) (by decide))]
  cases decide (0 < i) <;> rfl
theorem mkS_L (ha : ∀ c ∈ a, isL c) (hb : ∀ c ∈ b, isL c) : ∀ c ∈ mkS a b, isL c := fun c hc => by
  obtain ⟨p, hp, rfl⟩ := List.mem_map.mp hc
  obtain ⟨h1, h2⟩ := mem_zip_L ha hb hp
  exact mk_L h1 h2
theorem mkS_Ltr (ha : Ltr a) (hb : Ltr b) (hl : a.length = b.length) : Ltr (mkS a b) := by
  have e : (mkS a b).length = a.length := by
    unfold mkS
    rw [List.length_map, List.length_zip, hl]
    omega
  exact ⟨mkS_L ha.all hb.all, by rw [e]; exact ha.pos, by rw [e]; exact ha.few⟩
theorem mkTupS {a b : List Nat} : mkTup [.str a, .str b] m = .ok (.tup [.str a, .str b]) m := rfl
/-- whether the product of two words has a minus -/
def minB (n p : Bool) (a b : List Nat) : Bool := (n != p) != (!plusB a b)
theorem times_c (h : HasP 25 tab) (hg : Gd m) (ha : Ltr a) (hb : Ltr b) (hl : a.length = b.length) (hp : passB a b = true) : clN tab (k + 4) 23 [.str (wd n a), .str (wd p b)] m = .ok (.str (wd (minB n p a b) (mkS a b))) m := by
  rw [cl_at h (by decide) rfl]
  refine call_rt rfl hg (m' := m.enter) ?_ .refl under_str
  rw [show frameV 4 [MV.str (wd n a), MV.str (wd p b)] = [some (.str (wd n a)), some (.str (wd p b)), none, none] from rfl]
  have hf := ha.few
  have hm := mkS_len a b
  have m1 : ∀ i j : Int, (i = 1 ∨ i = -1) → binV .Mult (.int i) (.int j) m.enter = .ok (.int (i * j)) m.enter := fun i j h => mulI (.inl (by rcases h with rfl | rfl <;> rfl))
  have s1 : ∀ b : Bool, (bif b then (-1 : Int) else 1) = 1 ∨ (bif b then (-1 : Int) else 1) = -1 := fun b => by cases b <;> simp
  have m2 : ∀ b c : Bool, (bif b then (-1 : Int) else 1) * (bif c then (-1 : Int) else 1) = 1 ∨ (bif b then (-1 : Int) else 1) * (bif c then (-1 : Int) else 1) = -1 := fun b c => by cases b <;> cases c <;> decide
  simp only [pg23, E.den_loc, E.den_c, E.den_gc, E.den_bin, E.den_cmp, E.den_chn, E.den_bop, E.den_nt, E.den_neg, E.den_ife, E.den_tup, E.den_lst, E.den_ix, E.den_sl, E.den_call, E.den_blt, E.den_isi, E.den_mth, E.den_lc, E.den_dct, E.den_ifr, P.den_nil, P.den_cons, xPr0_eq, xPrC_eq, xDct_eq, L.den_nil, L.den_cons, B.den_one, B.den_cons, T.den_tru, T.den_cmp, T.den_chn, T.den_nt, T.den_bop, BT.den_one, BT.den_cons, O.den_no, O.den_on, OT.den_no, OT.den_on, I.den_src, I.den_zip, I.den_rg1, I.den_rg2, S.den_set, S.den_ret, S.den_retN, S.den_run, S.den_pass, S.den_ifs, S.den_fr, S.den_put, Ss.den_nil, Ss.den_one, Ss.den_cons, Tg.den_nm, Tg.den_tp, Tgs.den_nil, Tgs.den_cons, Tgs.many, bind_ok, xLoc_0, xLoc_s, xC_eq, xBin_eq, x1_eq, xA_eq, xArg0_eq, xArgC_eq, xChn_eq, asB_eq, xB_eq, xTru_eq, xNotT_eq, xNot_eq, xIf_eq, bopC_eq, bopTC_eq, xSl_eq, xPart0_eq, xPart1_eq, asI_eq, xMeth_eq, xSrc_eq, xI_eq, xSet_eq, xRet_eq, xRetN_eq, xDo_eq, xPass_eq, xSeq_eq, xIfS_eq, xPut_eq, gNm_eq, gsNil_eq, gsCons_eq, addI, subI, gtI, ltI, leI, geI, eqI, neI, intI, intB, truV_bl, isStr_str, beq_tt, beq_ff, beq_tf, beq_ft, nt_t, nt_f, List.set_cons_zero, List.set_cons_succ, if_tt, if_ff, ↓reduceIte, negV_int, Bf.f, Mt.f, Mt.ty, tstV, check_two_c h hg.enter ha hb hl, bare_c h hg.enter ha, bare_c h hg.enter hb, mkTupS, gTpT_eq (show [MV.str a, MV.str b].length = 2 from rfl), do_pass_c h hg.enter ha.all hb.all ha.few, hp, sign_in_c h hg.enter ha, sign_in_c h hg.enter hb, made_sign_c h hg.enter ha.all hb.all ha.few, made_c h hg.enter ha.all hb.all ha.few, m1 _ _ (s1 _), m1 _ _ (m2 _ _), word_of_c h hg.enter (show (mkS a b).length ≤ 1000 by omega)]
  congr 5
  cases n <;> cases p <;> cases plusB a b <;> decide
end
end
end Dv
/-! C1: draws: what functions do beside a pot. -/
namespace Dv
noncomputable section
open PySem L2 PyProof.Rows
/-- the heap with another pot at i -/
def MH.pt (m : MH) (i c : Nat) : MH := ⟨m.n, m.lo, m.os.set (m.n - 1 - i) (.pot c), m.sc⟩
section
variable {m : MH} {i c d : Nat} {o : MO}
theorem wr_pot : m.wr i (.pot c) .non = m.pt i c := by
  unfold MH.pt
  have : (m.wr i (.pot c) .non).lo = m.lo := by
    rw [wr_lo]
    conv => rhs; rw [← List.map_id m.lo]
    refine List.map_congr_left fun l _ => ?_
    rw [under_non]
    cases Nat.blt i l <;> rfl
  show (⟨m.n, (m.wr i (.pot c) .non).lo, _, m.sc⟩ : MH) = _
  rw [this]
theorem n_pt : (m.pt i c).n = m.n := rfl
theorem pt_pt : (m.pt i c).pt i d = m.pt i d := by
  unfold MH.pt
  dsimp only
  rw [List.set_set]
theorem Gd.pt (h : Gd m) : Gd (m.pt i c) := ⟨h.lo, by show (m.os.set _ _).length = m.n; rw [List.length_set, h.len]⟩
theorem enter_pt : m.enter.pt i c = (m.pt i c).enter := rfl
theorem push_pt (h : i < m.n) : (m.push o).pt i c = (m.pt i c).push o := by
  unfold MH.pt MH.push
  dsimp only
  rw [show m.n + 1 - 1 - i = (m.n - 1 - i) + 1 by omega]
  rfl
theorem get_pt_same (h : Gd m) (hi : i < m.n) : (m.pt i c).get i = some (.pot c) := by
  unfold MH.get MH.pt
  rw [if_pos hi]
  dsimp only
  rw [List.getElem?_set_self (by rw [h.len]; omega)]
theorem get_pt_ne {j : Nat} (hi : i < m.n) (h : j ≠ i) : (m.pt i c).get j = m.get j := by
  unfold MH.get MH.pt
  dsimp only
  by_cases hj : j < m.n
  · rw [if_pos hj, if_pos hj, List.getElem?_set_ne (by omega)]
  · rw [if_neg hj, if_neg hj]
/-- a call that drew from the pot and made new objects -/
theorem fin_pt {m m' : MH} {v : MV} (h : Gd m) (hi : i < m.n) (g : Grow (m.enter.pt i c) m') (hv : v.under m.n = true) : fin m.n v m' = .ok v (m.pt i c) := fin_grow (m := m.pt i c) h.pt g hv
end
/-! ### outcomes told by what holds of them -/
section
variable {α β : Type} {Ew : Nat → MV → MH → Prop}
/-- every outcome is as wanted, told so that nobody reckons it by chance -/
structure _root_.Dv.R.HA {α : Type} (x : R α) (P : α → MH → Prop) (Ew : Nat → MV → MH → Prop) : Prop where
  all : x.All P Ew
theorem _root_.Dv.R.HA.mono {P P' : α → MH → Prop} {Ew' : Nat → MV → MH → Prop} {x : R α} (h : x.HA P Ew) (hp : ∀ a m, P a m → P' a m) (he : ∀ c v m, Ew c v m → Ew' c v m) : x.HA P' Ew' := ⟨h.all.mono hp he⟩
theorem all_ok {P : α → MH → Prop} {a : α} {m : MH} (h : P a m) : (R.ok a m).HA P Ew := ⟨h⟩
theorem of_ok {P : α → MH → Prop} {a : α} {m : MH} (h : (R.ok a m).HA P Ew) : P a m := h.all
theorem all_cho {P : α → MH → Prop} {n : Nat} {f : Nat → R α} (h : ∀ i, i < n → (f i).HA P Ew) : (R.cho n f).HA P Ew := ⟨fun i hi => (h i hi).all⟩
theorem all_bind {P : β → MH → Prop} {x : R α} {f : α → MH → R β} (h : x.HA (fun a m => (f a m).HA P Ew) Ew) : (x.bind f).HA P Ew := ⟨R.All.bind.mpr (h.all.mono (fun _ _ h => h.all) (fun _ _ _ h => h))⟩
theorem all_seq {Q : α → MH → Prop} {P : β → MH → Prop} {x : R α} {f : α → MH → R β} (h : x.HA Q Ew) (k : ∀ a m, Q a m → (f a m).HA P Ew) : (x.bind f).HA P Ew := all_bind (h.mono k (fun _ _ _ h => h))
end
section
variable {Ew : Nat → MV → MH → Prop}
/-- a comprehension over what is at hand, by what holds of the items made so far -/
theorem lcV_inv {g : XG} {t : XB} {e : X} {s : St} (I : Nat → List MV → MH → Prop) : ∀ (xs : List MV) (j k : Nat) (acc : List MV) (m : MH), xs.length < k → I j acc m →
    (∀ (i : Nat) (x : MV), xs[i]? = some x → ∀ ys m, I (j + i) ys m → (g x s m).HA (fun s1 m1 => (t s1 m1).HA (fun b m2 => b = true ∧ (e s1 m2).HA (fun y m3 => I (j + i + 1) (ys ++ [y]) m3) Ew) Ew) Ew) →
    (lcV g t e s k (.imm xs) m).HA (fun ys m' => I (j + xs.length) (acc ++ ys) m') Ew
  | [], j, 0, _, _, hk, _, _ => absurd hk (Nat.not_lt_zero _)
  | [], j, k + 1, acc, m, _, hi, _ => by
    rw [lcV_succ]
    refine all_ok ?_
    show I (j + 0) (acc ++ []) m
    rw [List.append_nil]
    exact hi
  | x :: xs, j, 0, _, _, hk, _, _ => absurd hk (Nat.not_lt_zero _)
  | x :: xs, j, k + 1, acc, m, hk, hi, hs => by
    rw [lcV_succ]
    show R.HA ((g x s m).bind _) _ _
    refine all_seq (hs 0 x rfl acc m hi) fun s1 m1 h1 => all_seq h1 fun b m2 h2 => ?_
    obtain ⟨rfl, h2⟩ := h2
    refine all_seq h2 fun y m3 h3 => all_seq (lcV_inv I xs (j + 1) k (acc ++ [y]) m3 (Nat.lt_of_succ_lt_succ hk) h3 fun i z hz ys m4 h4 => ?_) fun ys m4 h4 => ?_
    · have := hs (i + 1) z (by simpa using hz) ys m4 (by rw [show j + (i + 1) = j + 1 + i by omega]; exact h4)
      rw [show j + (i + 1) + 1 = j + 1 + i + 1 by omega] at this
      exact this
    · refine all_ok ?_
      show I _ (acc ++ (y :: ys)) m4
      rw [List.append_assoc] at h4
      rw [show j + (x :: xs).length = j + 1 + xs.length by rw [List.length_cons]; omega]
      exact h4
theorem lc_inv {vs : List Nat} {src : XI} {g : XG} {t : Option XB} {e : X} {s : St} {m m1 : MH} {xs : List MV} (I : Nat → List MV → MH → Prop) (hs : src s m = .ok (.imm xs) m1) (hz : xs.length + 1 ≤ big) (h0 : I 0 [] m1)
    (h : ∀ (i : Nat) (x : MV), xs[i]? = some x → ∀ ys m, I i ys m → (g x (wipeM s vs) m).HA (fun s1 m1 => (tstV t s1 m1).HA (fun b m2 => b = true ∧ (e s1 m2).HA (fun y m3 => I (i + 1) (ys ++ [y]) m3) Ew) Ew) Ew) :
    (xLc vs src g t e s m).HA (fun v m' => ∃ ys m2, I xs.length ys m2 ∧ v = .ref m2.n ∧ m' = m2.push (.lst ys)) Ew := by
  unfold xLc
  rw [hs, bind_ok, show (Src.imm xs).size m1 = xs.length from rfl, Nat.ble_eq_true_of_le hz]
  dsimp only
  have := lcV_inv (Ew := Ew) (g := g) (t := tstV t) (e := e) (s := wipeM s vs) I xs 0 (xs.length + 1) [] m1 (Nat.lt_succ_self _) h0 (fun i x hx ys m hi => by
    rw [Nat.zero_add] at hi ⊢
    exact h i x hx ys m hi)
  refine all_seq this fun ys m2 h2 => ?_
  rw [Nat.zero_add] at h2
  exact all_ok ⟨ys, m2, h2, rfl, rfl⟩
/-- a loop over what is at hand -/
theorem loop_inv {g : XG} {b : XZ} {P : Fl → MH → Prop} (I : Nat → St → MH → Prop) : ∀ (xs : List MV) (j k : Nat) (s : St) (m : MH), xs.length < k → I j s m → (∀ s m, I (j + xs.length) s m → P (.nx s) m) →
    (∀ (i : Nat) (x : MV), xs[i]? = some x → ∀ s m, I (j + i) s m → (g x s m).HA (fun s1 m1 => (b s1 m1).HA (fun fl m2 => (∃ s2, (fl = .nx s2 ∨ fl = .ct s2) ∧ I (j + i + 1) s2 m2) ∨ (∃ v, fl = .rt v ∧ P fl m2)) Ew) Ew) →
    (loopV g b k (.imm xs) s m).HA P Ew
  | [], j, 0, _, _, hk, _, _, _ => absurd hk (Nat.not_lt_zero _)
  | [], j, k + 1, s, m, _, hi, hd, _ => by
    rw [loop_nil]
    exact all_ok (hd s m hi)
  | x :: xs, j, 0, _, _, hk, _, _, _ => absurd hk (Nat.not_lt_zero _)
  | x :: xs, j, k + 1, s, m, hk, hi, hd, hs => by
    rw [loop_cons]
    refine all_seq (hs 0 x rfl s m hi) fun s1 m1 h1 => all_seq h1 fun fl m2 h2 => ?_
    have go : ∀ s2, I (j + 1) s2 m2 → (loopV g b k (.imm xs) s2 m2).HA P Ew := fun s2 h2 => loop_inv I xs (j + 1) k s2 m2 (Nat.lt_of_succ_lt_succ hk) h2 (fun s m h => hd s m (by rw [show j + (x :: xs).length = j + 1 + xs.length by rw [List.length_cons]; omega]; exact h)) fun i z hz s3 m3 h3 => by
      have := hs (i + 1) z (by simpa using hz) s3 m3 (by rw [show j + (i + 1) = j + 1 + i by omega]; exact h3)
      rw [show j + (i + 1) + 1 = j + 1 + i + 1 by omega] at this
      exact this
    rcases h2 with ⟨s2, rfl | rfl, h2⟩ | ⟨v, rfl, h2⟩
    · exact go s2 h2
    · exact go s2 h2
    · exact all_ok h2
theorem for_inv {src : XI} {g : XG} {b : XZ} {s : St} {m m1 : MH} {xs : List MV} {P : Fl → MH → Prop} (I : Nat → St → MH → Prop) (hs : src s m = .ok (.imm xs) m1) (h0 : I 0 s m1) (hd : ∀ s m, I xs.length s m → P (.nx s) m)
    (h : ∀ (i : Nat) (x : MV), xs[i]? = some x → ∀ s m, I i s m → (g x s m).HA (fun s1 m1 => (b s1 m1).HA (fun fl m2 => (∃ s2, (fl = .nx s2 ∨ fl = .ct s2) ∧ I (i + 1) s2 m2) ∨ (∃ v, fl = .rt v ∧ P fl m2)) Ew) Ew) : (xFor src g b s m).HA P Ew := by
  rw [for_imm hs]
  refine loop_inv I xs 0 (xs.length + 1) s m1 (Nat.lt_succ_self _) h0 (fun s m h => hd s m (by rw [Nat.zero_add] at h; exact h)) fun i x hx s m hi => ?_
  rw [Nat.zero_add] at hi ⊢
  exact h i x hx s m hi
end
/-! ### the draws -/
/-- the text of _law_of, the draws having the number gt -/
def ofIR (gt : Nat) : Ss := .one (.ret (.ix (.loc 1) (.call gt (.cons (.loc 0) (.cons (.blt .len (.cons (.loc 1) .nil)) .nil)))))
theorem cl_sp {tab : List Ent} {g np : Nat} {f : List MV → MH → R MV} (e : tab[g]? = some (.sp np f)) (k : Nat) (xs : List MV) (m : MH) : clN tab (k + 1) g xs m = f xs m := by
  rw [clN_succ, e]
theorem cl_df {tab : List Ent} {g np ns : Nat} {b : Ss} (e : tab[g]? = some (.df np ns b)) (k : Nat) (xs : List MV) (m : MH) : clN tab (k + 1) g xs m = callD np ns (b.den (clN tab k)) xs m := by
  rw [clN_succ, e]
theorem take_eq {m : MH} {i c n : Nat} (hp : m.get i = some (.pot c)) (hn : 0 < n) (hn2 : n < 1000000) (hc : c < 900000) : takeV [.ref i, .int (n : Int)] m = .cho n fun j => .ok (.int (j : Int)) (m.pt i (c + 1)) := by
  unfold takeV
  dsimp only
  rw [hp]
  dsimp only
  have h1 : (decide ((0 : Int) < (n : Int)) && decide ((n : Int) < 1073741824) && Nat.blt c 1000000) = true := by
    rw [decide_eq_true (show (0 : Int) < (n : Int) by omega), decide_eq_true (show (n : Int) < 1073741824 by omega)]
    exact Nat.ble_eq_true_of_le (show c + 1 ≤ 1000000 by omega)
  rw [h1]
  dsimp only
  rw [wr_pot]
  rfl
/-- one item of a list, drawn -/
theorem of_all {tab : List Ent} {go gt k i l c : Nat} {m : MH} {xs : List MV} {Ew : Nat → MV → MH → Prop} (e : tab[go]? = some (.df 2 2 (ofIR gt))) (et : tab[gt]? = some (.sp 2 takeV)) (hg : Gd m) (hi : i < m.n) (hp : m.get i = some (.pot c)) (hc : c < 900000) (hl : m.get l = some (.lst xs)) (hx : 0 < xs.length) (hx2 : xs.length < 1000000) (hu : ∀ x ∈ xs, x.under m.n = true) :
    (clN tab (k + 2) go [.ref i, .ref l] m).HA (fun v m' => v ∈ xs ∧ m' = m.pt i (c + 1)) Ew := by
  rw [cl_df e, callD_eq (np := 2) rfl]
  rw [show frameV 2 [MV.ref i, MV.ref l] = [some (.ref i), some (.ref l)] from rfl]
  unfold ofIR
  have hil : l ≠ i := fun z => by
    rw [z, hp] at hl
    cases hl
  simp only [E.den_loc, E.den_c, E.den_gc, E.den_bin, E.den_cmp, E.den_chn, E.den_bop, E.den_nt, E.den_neg, E.den_ife, E.den_tup, E.den_lst, E.den_ix, E.den_sl, E.den_call, E.den_blt, E.den_isi, E.den_mth, E.den_lc, E.den_dct, E.den_ifr, P.den_nil, P.den_cons, xPr0_eq, xPrC_eq, xDct_eq, L.den_nil, L.den_cons, B.den_one, B.den_cons, T.den_tru, T.den_cmp, T.den_chn, T.den_nt, T.den_bop, BT.den_one, BT.den_cons, O.den_no, O.den_on, OT.den_no, OT.den_on, I.den_src, I.den_zip, I.den_rg1, I.den_rg2, S.den_set, S.den_ret, S.den_retN, S.den_run, S.den_pass, S.den_ifs, S.den_fr, S.den_put, Ss.den_nil, Ss.den_one, Ss.den_cons, Tg.den_nm, Tg.den_tp, Tgs.den_nil, Tgs.den_cons, Tgs.many, bind_ok, xLoc_0, xLoc_s, xC_eq, xBin_eq, x1_eq, xA_eq, xArg0_eq, xArgC_eq, xChn_eq, asB_eq, xB_eq, xTru_eq, xNotT_eq, xNot_eq, xIf_eq, bopC_eq, bopTC_eq, xSl_eq, xPart0_eq, xPart1_eq, asI_eq, xMeth_eq, xSrc_eq, xI_eq, xSet_eq, xRet_eq, xRetN_eq, xDo_eq, xPass_eq, xSeq_eq, xIfS_eq, xPut_eq, gNm_eq, gsNil_eq, gsCons_eq, addI, subI, gtI, ltI, leI, geI, eqI, neI, intI, intB, truV_bl, isStr_str, beq_tt, beq_ff, beq_tf, beq_ft, nt_t, nt_f, List.set_cons_zero, List.set_cons_succ, if_tt, if_ff, ↓reduceIte, negV_int, Bf.f, Mt.f, Mt.ty, tstV, len_lst (m := m.enter) hl, cl_sp et, take_eq (m := m.enter) hp hx hx2 hc, bind_cho]
  refine all_cho fun j hj => ?_
  have hg2 : (m.enter.pt i (c + 1)).get l = some (.lst xs) := by rw [get_pt_ne (m := m.enter) hi hil]; exact hl
  have e1 : ixV (.ref l) (.int (j : Int)) (m.enter.pt i (c + 1)) = .ok xs[j] (m.enter.pt i (c + 1)) := ixL hg2 (k := j) (by
    unfold ixOf
    rw [if_pos (by omega), if_pos (by omega)]
    rfl) (List.getElem?_eq_getElem hj)
  show R.HA (callR m.n (R.bind (ixV (.ref l) (.int (j : Int)) (m.enter.pt i (c + 1))) fun v m1 => .ok (Fl.rt v) m1)) _ Ew
  rw [e1, bind_ok, callR_rt, fin_pt hg hi .refl (hu _ (List.getElem_mem hj))]
  exact all_ok ⟨List.getElem_mem hj, rfl⟩
/-- a number below n, drawn -/
theorem take_all {tab : List Ent} {gt k i c n : Nat} {m : MH} {Ew : Nat → MV → MH → Prop} (et : tab[gt]? = some (.sp 2 takeV)) (hp : m.get i = some (.pot c)) (hc : c < 900000) (hn : 0 < n) (hn2 : n < 1000000) : (clN tab (k + 1) gt [.ref i, .int (n : Int)] m).HA (fun v m' => (∃ j : Nat, j < n ∧ v = .int (j : Int)) ∧ m' = m.pt i (c + 1)) Ew := by
  rw [cl_sp et, take_eq hp hn hn2 hc]
  exact all_cho fun j hj => all_ok ⟨⟨j, hj, rfl⟩, rfl⟩
/-! ### a heap behind draws and new objects -/
structure Dr (i c : Nat) (m m' : MH) : Prop where
  ex : ∃ m2, Grow m m2 ∧ m' = m2.pt i c
theorem Grow.le {m m' : MH} (g : Grow m m') : m.n ≤ m'.n := by
  induction g with
  | refl => exact Nat.le_refl _
  | push _ ih => exact Nat.le_succ_of_le ih
theorem Grow.trans {m m' m2 : MH} (g : Grow m m') (h : Grow m' m2) : Grow m m2 := by
  induction h with
  | refl => exact g
  | push _ ih => exact .push ih
theorem Grow.get {m m' : MH} (g : Grow m m') {j : Nat} (hj : j < m.n) : m'.get j = m.get j := by
  induction g with
  | refl => rfl
  | push g ih => rw [get_push_old (Nat.lt_of_lt_of_le hj g.le), ih]
theorem pt_self {m : MH} {i c : Nat} (hg : Gd m) (h : m.get i = some (.pot c)) : m.pt i c = m := by
  have hi := get_lt h
  unfold MH.get at h
  rw [if_pos hi] at h
  obtain ⟨n, lo, os, sc⟩ := m
  have hl : os.length = n := hg.len
  show (⟨n, lo, os.set (n - 1 - i) (.pot c), sc⟩ : MH) = _
  have : os.set (n - 1 - i) (.pot c) = os := by
    have h : os[n - 1 - i]? = some (.pot c) := h
    obtain ⟨h1, h2⟩ := List.getElem?_eq_some_iff.mp h
    rw [← h2]
    exact List.set_getElem_self h1
  rw [this]
theorem Grow.pt {m m' : MH} (g : Grow m m') {i c : Nat} (hi : i < m.n) : Grow (m.pt i c) (m'.pt i c) := by
  induction g with
  | refl => exact .refl
  | push g ih => rw [push_pt (Nat.lt_of_lt_of_le hi g.le)]; exact .push ih
section
variable {i c d : Nat} {m m' : MH}
theorem Dr.of (hg : Gd m) (h : m.get i = some (.pot c)) : Dr i c m m := ⟨⟨m, .refl, (pt_self hg h).symm⟩⟩
theorem Dr.push (h : Dr i c m m') (hi : i < m.n) {o : MO} : Dr i c m (m'.push o) := by
  obtain ⟨m2, g, rfl⟩ := h.ex
  exact ⟨⟨m2.push o, .push g, (push_pt (Nat.lt_of_lt_of_le hi g.le)).symm⟩⟩
theorem Dr.pt (h : Dr i c m m') : Dr i d m (m'.pt i d) := by
  obtain ⟨m2, g, rfl⟩ := h.ex
  exact ⟨⟨m2, g, pt_pt⟩⟩
theorem Dr.gd (h : Dr i c m m') (hg : Gd m) : Gd m' := by
  obtain ⟨m2, g, rfl⟩ := h.ex
  exact (g.gd hg).pt
theorem Dr.le (h : Dr i c m m') : m.n ≤ m'.n := by
  obtain ⟨m2, g, rfl⟩ := h.ex
  exact g.le
theorem Dr.pot (h : Dr i c m m') (hg : Gd m) (hi : i < m.n) : m'.get i = some (.pot c) := by
  obtain ⟨m2, g, rfl⟩ := h.ex
  exact get_pt_same (g.gd hg) (Nat.lt_of_lt_of_le hi g.le)
theorem Dr.get (h : Dr i c m m') (hi : i < m.n) {j : Nat} (hj : j < m.n) (hij : j ≠ i) : m'.get j = m.get j := by
  obtain ⟨m2, g, rfl⟩ := h.ex
  rw [get_pt_ne (Nat.lt_of_lt_of_le hi g.le) hij, g.get hj]
theorem Dr.fin {v : MV} (h : Dr i c m.enter m') (hg : Gd m) (hi : i < m.n) (hv : v.under m.n = true) : fin m.n v m' = .ok v (m.pt i c) := by
  obtain ⟨m2, g, rfl⟩ := h.ex
  exact fin_pt hg hi (g.pt (m := m.enter) hi) hv
theorem Dr.lo (h : Dr i c m m') : m'.lo = m.lo := by
  obtain ⟨m2, g, rfl⟩ := h.ex
  obtain ⟨xs, rfl⟩ := g.form
  rfl
theorem Dr.sc (h : Dr i c m m') : m'.sc = m.sc := by
  obtain ⟨m2, g, rfl⟩ := h.ex
  obtain ⟨xs, rfl⟩ := g.form
  rfl
end
theorem Dr.trans {i c d c0 : Nat} {m m' m2 : MH} (h : Dr i c m m') (k : Dr i d m' m2) (hg : Gd m) (hp : m.get i = some (.pot c0)) : Dr i d m m2 := by
  obtain ⟨x, g, rfl⟩ := h.ex
  obtain ⟨y, q, rfl⟩ := k.ex
  have hi := get_lt hp
  have hx : i < x.n := Nat.lt_of_lt_of_le hi g.le
  have q2 := q.pt (i := i) (c := c0) (show i < (x.pt i c).n from hx)
  rw [pt_pt, pt_self (g.gd hg) (by rw [g.get hi]; exact hp)] at q2
  exact ⟨⟨y.pt i c0, g.trans q2, pt_pt.symm⟩⟩
theorem all_callR' {k : Nat} {P : MV → MH → Prop} {Ew : Nat → MV → MH → Prop} : ∀ {x : R Fl}, x.All (fun fl m => match fl with
    | .nx _ => (fin k .non m).All P Ew
    | .rt v => (fin k v m).All P Ew
    | .bk _ => False
    | .ct _ => False) (fun c v m => Ew c v m.pop) → (callR k x).All P Ew
  | .ok (.nx _) m, h => h
  | .ok (.rt _) m, h => h
  | .ok (.bk _) m, h => h.elim
  | .ok (.ct _) m, h => h.elim
  | .exc c v m, h => h
  | .cho n f, h => fun i hi => all_callR' (h i hi)
  | .bad, h => h
theorem all_callR {k : Nat} {P : MV → MH → Prop} {Ew : Nat → MV → MH → Prop} {x : R Fl} (h : x.HA (fun fl m => match fl with
    | .nx _ => (fin k .non m).HA P Ew
    | .rt v => (fin k v m).HA P Ew
    | .bk _ => False
    | .ct _ => False) (fun c v m => Ew c v m.pop)) : (callR k x).HA P Ew :=
  ⟨all_callR' (h.all.mono (fun fl m h => by
    cases fl with
    | nx s => exact h.all
    | rt v => exact h.all
    | bk s => exact h
    | ct s => exact h) (fun _ _ _ h => h))⟩
theorem rngL_get : ∀ (n : Nat) (a : Int) (i : Nat) (x : MV), (rngL a n)[i]? = some x → x = .int (a + i)
  | 0, a, i, x, h => by simp [rngL] at h
  | n + 1, a, 0, x, h => by
    have h : some (MV.int a) = some x := h
    cases h
    simp
  | n + 1, a, i + 1, x, h => by
    have := rngL_get n (a + 1) i x h
    rw [this]
    congr 1
    omega
theorem rng1_eq {n : Nat} {m : MH} (h : n ≤ 1000000) : rng1V [.int (n : Int)] m = .ok (.imm (rngL 0 n)) m := by
  unfold rng1V okR
  dsimp only
  rw [if_pos (by rw [decide_eq_true (show (-1000000000 : Int) ≤ (n : Int) by omega), decide_eq_true (show (n : Int) ≤ 1000000000 by omega)]; rfl)]
  rfl
theorem Yes2.ofHA {x : R MV} (h : x.HA (fun v m => v = .bl true ∧ isPot m = true) fun _ _ _ => False) : Yes2 x := ⟨h.all⟩
theorem Yes.ofHA {x : R MV} (h : x.HA (fun v _ => v = .bl true) fun _ _ _ => False) : Yes x := ⟨h.all⟩
end
end Dv
/-! CM: which words pass, in plain Lean. -/
namespace Dv
noncomputable section
def metN (a b : List Nat) : Nat := ((a.zip b).filter fun p => meetB p.1 p.2).length
theorem pass_met (a b : List Nat) : passB a b = (metN a b % 2 == 0) := rfl
def b2n (b : Bool) : Nat := bif b then 1 else 0
theorem met_cons (x y : Nat) (a b : List Nat) : metN (x :: a) (y :: b) = b2n (meetB x y) + metN a b := by
  unfold metN
  rw [List.zip_cons_cons, List.filter_cons]
  cases meetB x y
  · rw [if_neg (by decide)]
    exact (Nat.zero_add _).symm
  · rw [if_pos rfl, List.length_cons]
    exact Nat.add_comm _ _
theorem meet_sym (x y : Nat) : meetB x y = meetB y x := by
  unfold meetB
  rw [Bool.beq_comm, Bool.and_comm (!(x == 73))]
theorem met_sym : ∀ a b : List Nat, metN a b = metN b a
  | [], [] => rfl
  | [], _ :: _ => rfl
  | _ :: _, [] => rfl
  | x :: a, y :: b => by rw [met_cons, met_cons, meet_sym, met_sym a b]
theorem pass_sym (a b : List Nat) : passB a b = passB b a := by rw [pass_met, pass_met, met_sym]
theorem met_self : ∀ a : List Nat, metN a a = 0
  | [] => rfl
  | x :: a => by
    rw [met_cons, met_self a]
    unfold meetB
    rw [show (x == x) = true from beq_self_eq_true x]
    rfl
theorem pass_self (a : List Nat) : passB a a = true := by rw [pass_met, met_self] <;> rfl
theorem met_I : ∀ (a : List Nat) (n : Nat), metN a (List.replicate n 73) = 0
  | [], n => by cases n <;> rfl
  | x :: a, 0 => rfl
  | x :: a, n + 1 => by
    rw [List.replicate_succ, met_cons, met_I a n]
    have : meetB x 73 = false := by
      unfold meetB
      rw [show ((73 : Nat) == 73) = true from rfl]
      simp
    rw [this] <;> rfl
theorem pass_I (a : List Nat) (n : Nat) : passB a (List.replicate n 73) = true := by rw [pass_met, met_I] <;> rfl
theorem meet_mk {x y z : Nat} (hx : isL x) (hy : isL y) (hz : isL z) : meetB z (mk x y) = (meetB z x != meetB z y) := by
  rcases hx with rfl | rfl | rfl | rfl <;> rcases hy with rfl | rfl | rfl | rfl <;> rcases hz with rfl | rfl | rfl | rfl <;> rfl
theorem mkS_cons (x y : Nat) (a b : List Nat) : mkS (x :: a) (y :: b) = mk x y :: mkS a b := rfl
theorem met_mk : ∀ a b c : List Nat, (∀ x ∈ a, isL x) → (∀ x ∈ b, isL x) → (∀ x ∈ c, isL x) → a.length = b.length → c.length = a.length → metN c (mkS a b) % 2 = (metN c a + metN c b) % 2
  | [], [], [], _, _, _, _, _ => rfl
  | x :: a, y :: b, z :: c, ha, hb, hc, h1, h2 => by
    rw [mkS_cons, met_cons, met_cons, met_cons, meet_mk (ha _ (List.mem_cons_self ..)) (hb _ (List.mem_cons_self ..)) (hc _ (List.mem_cons_self ..))]
    have ih := met_mk a b c (fun w h => ha w (List.mem_cons_of_mem _ h)) (fun w h => hb w (List.mem_cons_of_mem _ h)) (fun w h => hc w (List.mem_cons_of_mem _ h)) (by simpa using h1) (by simpa using h2)
    have e : ∀ p q : Bool, b2n (p != q) % 2 = (b2n p + b2n q) % 2 := by intro p q; cases p <;> cases q <;> rfl
    have := e (meetB z x) (meetB z y)
    omega
  | [], _ :: _, _, _, _, _, h, _ => by simp at h
  | _ :: _, [], _, _, _, _, h, _ => by simp at h
  | [], [], _ :: _, _, _, _, _, h => by simp at h
  | _ :: _, _ :: _, [], _, _, _, _, h => by simp at h
theorem pass_mk {a b c : List Nat} (ha : ∀ x ∈ a, isL x) (hb : ∀ x ∈ b, isL x) (hc : ∀ x ∈ c, isL x) (h1 : a.length = b.length) (h2 : c.length = a.length) : passB c (mkS a b) = (passB c a == passB c b) := by
  rw [pass_met, pass_met, pass_met, met_mk a b c ha hb hc h1 h2, Nat.add_mod]
  have : ∀ i j : Nat, i < 2 → j < 2 → ((i + j) % 2 == 0) = ((i == 0) == (j == 0)) := by
    intro i j hi hj
    have : i = 0 ∨ i = 1 := by omega
    have : j = 0 ∨ j = 1 := by omega
    rcases ‹i = 0 ∨ i = 1› with rfl | rfl <;> rcases ‹j = 0 ∨ j = 1› with rfl | rfl <;> rfl
  exact this _ _ (Nat.mod_lt _ (by decide)) (Nat.mod_lt _ (by decide))
end
end Dv
/-! CL: the laws' own words: texts, drawn words, products; what products do, in plain Lean. -/
namespace Dv
noncomputable section
open PySem L2 PyProof.Rows
/-! ### products in plain Lean -/
theorem mk_sym {x y : Nat} (hx : isL x) (hy : isL y) : mk x y = mk y x := by
  rcases hx with rfl | rfl | rfl | rfl <;> rcases hy with rfl | rfl | rfl | rfl <;> rfl
theorem mk_assoc {x y z : Nat} (hx : isL x) (hy : isL y) (hz : isL z) : mk (mk x y) z = mk x (mk y z) := by
  rcases hx with rfl | rfl | rfl | rfl <;> rcases hy with rfl | rfl | rfl | rfl <;> rcases hz with rfl | rfl | rfl | rfl <;> rfl
theorem mk_back {x y : Nat} (hx : isL x) (hy : isL y) : mk (mk x y) y = x := by
  rcases hx with rfl | rfl | rfl | rfl <;> rcases hy with rfl | rfl | rfl | rfl <;> rfl
theorem mk_self (x : Nat) : mk x x = 73 := by
  unfold mk
  rw [show (x == x) = true from beq_self_eq_true x]
  rfl
/-- the quarters of two letters -/
def qz (x y : Nat) : Int := (b2n (ris x y) : Int) - (b2n (ris y x) : Int)
theorem cnt_cons (f : Nat → Nat → Bool) (x y : Nat) (a b : List Nat) : cntB f (x :: a) (y :: b) = b2n (f x y) + cntB f a b := by
  unfold cntB
  rw [List.zip_cons_cons, List.filter_cons]
  cases f x y
  · rw [if_neg (by decide)]
    exact (Nat.zero_add _).symm
  · rw [if_pos rfl, List.length_cons]
    exact Nat.add_comm _ _
theorem qua_cons (x y : Nat) (a b : List Nat) : quaB (x :: a) (y :: b) = qz x y + quaB a b := by
  unfold quaB qz
  rw [cnt_cons, cnt_cons]
  omega
theorem qz_coc {x y z : Nat} (hx : isL x) (hy : isL y) (hz : isL z) : (qz x y + qz (mk x y) z - qz y z - qz x (mk y z)) % 4 = 0 := by
  rcases hx with rfl | rfl | rfl | rfl <;> rcases hy with rfl | rfl | rfl | rfl <;> rcases hz with rfl | rfl | rfl | rfl <;> rfl
theorem qz_back {x y : Nat} (hx : isL x) (hy : isL y) : qz x y + qz (mk x y) y = 0 := by
  rcases hx with rfl | rfl | rfl | rfl <;> rcases hy with rfl | rfl | rfl | rfl <;> rfl
theorem qz_par {x y : Nat} (hx : isL x) (hy : isL y) : (qz x y - (b2n (meetB x y) : Int)) % 2 = 0 := by
  rcases hx with rfl | rfl | rfl | rfl <;> rcases hy with rfl | rfl | rfl | rfl <;> rfl
theorem qz_sym (x y : Nat) : qz y x = - qz x y := by
  unfold qz
  omega
theorem qua_coc : ∀ a b c : List Nat, (∀ x ∈ a, isL x) → (∀ x ∈ b, isL x) → (∀ x ∈ c, isL x) → a.length = b.length → c.length = a.length → (quaB a b + quaB (mkS a b) c - quaB b c - quaB a (mkS b c)) % 4 = 0
  | [], [], [], _, _, _, _, _ => rfl
  | x :: a, y :: b, z :: c, ha, hb, hc, h1, h2 => by
    have ih := qua_coc a b c (fun w h => ha w (List.mem_cons_of_mem _ h)) (fun w h => hb w (List.mem_cons_of_mem _ h)) (fun w h => hc w (List.mem_cons_of_mem _ h)) (by simpa using h1) (by simpa using h2)
    have e := qz_coc (ha _ (List.mem_cons_self ..)) (hb _ (List.mem_cons_self ..)) (hc _ (List.mem_cons_self ..))
    rw [mkS_cons, mkS_cons, qua_cons, qua_cons, qua_cons, qua_cons]
    omega
  | [], _ :: _, _, _, _, _, h, _ => by simp at h
  | _ :: _, [], _, _, _, _, h, _ => by simp at h
  | [], [], _ :: _, _, _, _, _, h => by simp at h
  | _ :: _, _ :: _, [], _, _, _, _, h => by simp at h
theorem mkS_assoc : ∀ a b c : List Nat, (∀ x ∈ a, isL x) → (∀ x ∈ b, isL x) → (∀ x ∈ c, isL x) → mkS (mkS a b) c = mkS a (mkS b c)
  | [], _, _, _, _, _ => rfl
  | _ :: _, [], _, _, _, _ => rfl
  | _ :: _, _ :: _, [], _, _, _ => rfl
  | x :: a, y :: b, z :: c, ha, hb, hc => by
    rw [mkS_cons, mkS_cons, mkS_cons, mkS_cons, mk_assoc (ha _ (List.mem_cons_self ..)) (hb _ (List.mem_cons_self ..)) (hc _ (List.mem_cons_self ..)),
      mkS_assoc a b c (fun w h => ha w (List.mem_cons_of_mem _ h)) (fun w h => hb w (List.mem_cons_of_mem _ h)) (fun w h => hc w (List.mem_cons_of_mem _ h))]
theorem mkS_sym : ∀ a b : List Nat, (∀ x ∈ a, isL x) → (∀ x ∈ b, isL x) → mkS a b = mkS b a
  | [], [], _, _ => rfl
  | [], _ :: _, _, _ => rfl
  | _ :: _, [], _, _ => rfl
  | x :: a, y :: b, ha, hb => by
    rw [mkS_cons, mkS_cons, mk_sym (ha _ (List.mem_cons_self ..)) (hb _ (List.mem_cons_self ..)), mkS_sym a b (fun w h => ha w (List.mem_cons_of_mem _ h)) (fun w h => hb w (List.mem_cons_of_mem _ h))]
theorem mkS_back : ∀ a b : List Nat, (∀ x ∈ a, isL x) → (∀ x ∈ b, isL x) → a.length = b.length → mkS (mkS a b) b = a ∧ quaB a b + quaB (mkS a b) b = 0
  | [], [], _, _, _ => ⟨rfl, rfl⟩
  | [], _ :: _, _, _, h => by simp at h
  | _ :: _, [], _, _, h => by simp at h
  | x :: a, y :: b, ha, hb, h => by
    obtain ⟨i1, i2⟩ := mkS_back a b (fun w h => ha w (List.mem_cons_of_mem _ h)) (fun w h => hb w (List.mem_cons_of_mem _ h)) (by simpa using h)
    have h1 := mk_back (ha _ (List.mem_cons_self ..)) (hb _ (List.mem_cons_self ..))
    have h2 := qz_back (ha _ (List.mem_cons_self ..)) (hb _ (List.mem_cons_self ..))
    rw [mkS_cons, mkS_cons, h1, i1, qua_cons, qua_cons]
    exact ⟨rfl, by omega⟩
theorem mkS_self : ∀ a : List Nat, mkS a a = List.replicate a.length 73
  | [] => rfl
  | x :: a => by rw [mkS_cons, mk_self, mkS_self a, List.length_cons, List.replicate_succ]
theorem qua_sym : ∀ a b : List Nat, quaB b a = - quaB a b
  | [], [] => rfl
  | [], _ :: _ => rfl
  | _ :: _, [] => rfl
  | x :: a, y :: b => by
    rw [qua_cons, qua_cons, qua_sym a b, qz_sym x y]
    omega
theorem qua_self (a : List Nat) : quaB a a = 0 := by
  have := qua_sym a a
  omega
theorem qua_par : ∀ a b : List Nat, (∀ x ∈ a, isL x) → (∀ x ∈ b, isL x) → (quaB a b - (metN a b : Int)) % 2 = 0
  | [], [], _, _ => rfl
  | [], _ :: _, _, _ => rfl
  | _ :: _, [], _, _ => rfl
  | x :: a, y :: b, ha, hb => by
    have ih := qua_par a b (fun w h => ha w (List.mem_cons_of_mem _ h)) (fun w h => hb w (List.mem_cons_of_mem _ h))
    have e := qz_par (ha _ (List.mem_cons_self ..)) (hb _ (List.mem_cons_self ..))
    rw [qua_cons, met_cons]
    omega
theorem qua_even {a b : List Nat} (ha : ∀ x ∈ a, isL x) (hb : ∀ x ∈ b, isL x) (h : passB a b = true) : quaB a b % 2 = 0 := by
  have e := qua_par a b ha hb
  rw [pass_met] at h
  have : metN a b % 2 = 0 := eq_of_beq h
  omega
theorem plus_sym (a b : List Nat) : plusB b a = plusB a b := by
  unfold plusB
  rw [qua_sym a b]
  have : (-(quaB a b) % 4 = 0) ↔ (quaB a b % 4 = 0) := by omega
  by_cases h : quaB a b % 4 = 0
  · rw [h, this.mpr h]
  · rw [beq_eq_false_iff_ne.mpr h, beq_eq_false_iff_ne.mpr fun z => h (this.mp z)]
theorem sgn4 {q1 q2 q3 q4 : Int} (h1 : q1 % 2 = 0) (h2 : q2 % 2 = 0) (h3 : q3 % 2 = 0) (h4 : q4 % 2 = 0) (h : (q1 + q2 - q3 - q4) % 4 = 0) : ((q1 % 4 == 0) == (q2 % 4 == 0)) = ((q3 % 4 == 0) == (q4 % 4 == 0)) := by
  have e : ∀ q : Int, q % 2 = 0 → q % 4 = 0 ∨ q % 4 = 2 := fun q h => by omega
  rcases e q1 h1 with e1 | e1 <;> rcases e q2 h2 with e2 | e2 <;> rcases e q3 h3 with e3 | e3 <;> rcases e q4 h4 with e4 | e4 <;> rw [e1, e2, e3, e4] <;> first | rfl | (exfalso; omega)
theorem mkS_length {a b : List Nat} (h : a.length = b.length) : (mkS a b).length = a.length := by
  unfold mkS
  rw [List.length_map, List.length_zip, h]
  omega
/-- products of three words that pass one another, either way -/
theorem min_assoc {n p q : Bool} {a b c : List Nat} (ha : ∀ x ∈ a, isL x) (hb : ∀ x ∈ b, isL x) (hc : ∀ x ∈ c, isL x) (h1 : a.length = b.length) (h2 : c.length = a.length) (pab : passB a b = true) (pac : passB a c = true) (pbc : passB b c = true) :
    minB (minB n p a b) q (mkS a b) c = minB n (minB p q b c) a (mkS b c) := by
  have e := qua_coc a b c ha hb hc h1 h2
  have l1 := mkS_L ha hb
  have l2 := mkS_L hb hc
  have p1 : passB (mkS a b) c = true := by
    rw [pass_sym, pass_mk ha hb hc h1 h2, pass_sym c a, pac, pass_sym c b, pbc] <;> rfl
  have p2 : passB a (mkS b c) = true := by rw [pass_mk hb hc ha (by omega) (by omega), pab, pac] <;> rfl
  have s := sgn4 (qua_even ha hb pab) (qua_even l1 hc p1) (qua_even hb hc pbc) (qua_even ha l2 p2) e
  unfold minB plusB
  revert s
  cases quaB a b % 4 == 0 <;> cases quaB (mkS a b) c % 4 == 0 <;> cases quaB b c % 4 == 0 <;> cases quaB a (mkS b c) % 4 == 0 <;> cases n <;> cases p <;> cases q <;> decide
theorem min_back {n p : Bool} {a b : List Nat} (ha : ∀ x ∈ a, isL x) (hb : ∀ x ∈ b, isL x) (h1 : a.length = b.length) : minB (minB n p a b) p (mkS a b) b = n := by
  obtain ⟨_, e⟩ := mkS_back a b ha hb h1
  have : plusB (mkS a b) b = plusB a b := by
    unfold plusB
    have h : (quaB (mkS a b) b % 4 = 0) ↔ (quaB a b % 4 = 0) := by omega
    by_cases k : quaB a b % 4 = 0
    · rw [k, h.mpr k]
    · rw [beq_eq_false_iff_ne.mpr k, beq_eq_false_iff_ne.mpr fun z => k (h.mp z)]
  unfold minB
  rw [this]
  cases n <;> cases p <;> cases plusB a b <;> rfl
theorem min_sym {n p : Bool} (a b : List Nat) : minB p n b a = minB n p a b := by
  unfold minB
  rw [plus_sym a b]
  cases n <;> cases p <;> rfl
theorem min_self {n : Bool} (a : List Nat) : minB n n a a = false := by
  unfold minB plusB
  rw [qua_self]
  cases n <;> rfl
/-- the sign of a product, as a number -/
theorem min_num {s t : Int} (hs : s = 1 ∨ s = -1) (ht : t = 1 ∨ t = -1) (a b : List Nat) : decide (s * t * (bif plusB a b then 1 else -1) < 0) = minB (decide (s < 0)) (decide (t < 0)) a b := by
  unfold minB
  rcases hs with rfl | rfl <;> rcases ht with rfl | rfl <;> cases plusB a b <;> rfl
/-! ### the texts of the laws -/
def textIR : Ss := .one (.ret (.bin .Add (.bin .Mult (.c (.str [45])) (.blt .int (.cons (.cmp .Lt (.ix (.loc 0) (.c (.int 0))) (.c (.int 0))) .nil))) (.ix (.loc 0) (.c (.int 1)))))
def drawnIR (go : Nat) : Ss := .cons (.set (.mth .join (.c (.str [])) (.cons (.lc [3] (.rg1 (.cons (.loc 1) .nil)) (.nm 3) .no (.call go (.cons (.loc 0) (.cons (.lst (.cons (.c (.str [73])) (.cons (.c (.str [73])) (.cons (.c (.str [88])) (.cons (.c (.str [89])) (.cons (.c (.str [90])) .nil)))))) .nil)))) .nil)) (.nm 2)) (.one (.ret (.tup (.cons (.call go (.cons (.loc 0) (.cons (.lst (.cons (.c (.int 1)) (.cons (.c (.int 1)) (.cons (.neg (.c (.int 1))) .nil)))) .nil))) (.cons (.loc 2) .nil)))))
def lpassIR : Ss := .one (.ret (.cmp .Eq (.bin .Mod (.blt .len (.cons (.lc [2, 3] (.zip (.cons (.loc 0) (.cons (.loc 1) .nil))) (.tp (.cons (.nm 2) (.cons (.nm 3) .nil))) (.on (.bop true (.cons (.cmp .NotEq (.loc 2) (.loc 3)) (.one (.cmp .NotIn (.c (.str [73])) (.bin .Add (.loc 2) (.loc 3))))))) (.c (.int 1))) .nil)) (.c (.int 2))) (.c (.int 0))))
def lmadeIR : Ss := .cons (.set (.dct (.cons (.c (.str [88, 89])) (.c (.str [90])) (.cons (.c (.str [89, 88])) (.c (.str [90])) (.cons (.c (.str [89, 90])) (.c (.str [88])) (.cons (.c (.str [90, 89])) (.c (.str [88])) (.cons (.c (.str [88, 90])) (.c (.str [89])) (.cons (.c (.str [90, 88])) (.c (.str [89])) .nil))))))) (.nm 2)) (.cons (.set (.lc [4, 5] (.zip (.cons (.loc 0) (.cons (.loc 1) .nil))) (.tp (.cons (.nm 4) (.cons (.nm 5) .nil))) .no (.bin .Add (.loc 4) (.loc 5))) (.nm 3)) (.one (.ret (.mth .join (.c (.str [])) (.cons (.lc [6] (.src (.loc 3)) (.nm 6) .no (.mth .get (.loc 2) (.cons (.loc 6) (.cons (.ifr (.loc 6) 0 (.ix (.loc 6) (.c (.int 1))) (.c (.str [73])) (.loc 6) 73 []) .nil)))) .nil)))))
def lprodIR (gm : Nat) : Ss := .cons (.set (.lc [5, 6] (.zip (.cons (.ix (.loc 0) (.c (.int 1))) (.cons (.ix (.loc 1) (.c (.int 1))) .nil))) (.tp (.cons (.nm 5) (.cons (.nm 6) .nil))) .no (.bin .Add (.loc 5) (.loc 6))) (.nm 2)) (.cons (.set (.blt .len (.cons (.lc [7] (.src (.loc 2)) (.nm 7) (.on (.cmp .In (.loc 7) (.tup (.cons (.c (.str [88, 89])) (.cons (.c (.str [89, 90])) (.cons (.c (.str [90, 88])) .nil)))))) (.c (.int 1))) .nil)) (.nm 3)) (.cons (.set (.blt .len (.cons (.lc [7] (.src (.loc 2)) (.nm 7) (.on (.cmp .In (.loc 7) (.tup (.cons (.c (.str [89, 88])) (.cons (.c (.str [90, 89])) (.cons (.c (.str [88, 90])) .nil)))))) (.c (.int 1))) .nil)) (.nm 4)) (.one (.ret (.tup (.cons (.bin .Mult (.bin .Mult (.ix (.loc 0) (.c (.int 0))) (.ix (.loc 1) (.c (.int 0)))) (.ife (.cmp .Eq (.bin .Mod (.bin .Sub (.loc 3) (.loc 4)) (.c (.int 4))) (.c (.int 0))) (.c (.int 1)) (.neg (.c (.int 1))))) (.cons (.call gm (.cons (.ix (.loc 0) (.c (.int 1))) (.cons (.ix (.loc 1) (.c (.int 1))) .nil))) .nil)))))))
section
variable {tab : List Ent} {k : Nat} {m : MH} {a b : List Nat}
theorem ixT0 {x y : MV} : ixV (.tup [x, y]) (.int 0) m = .ok x m := rfl
theorem ixT1 {x y : MV} : ixV (.tup [x, y]) (.int 1) m = .ok y m := rfl
theorem mul45 {b : Bool} : binV .Mult (.str [45]) (.int (if b = true then 1 else 0)) m = .ok (.str (bif b then [45] else [])) m := by
  cases b <;> rfl
theorem word_text_c {g : Nat} (e : tab[g]? = some (.df 1 1 textIR)) {s : Int} (hg : Gd m) (ha : a.length ≤ 4) : clN tab (k + 1) g [.tup [.int s, .str a]] m = .ok (.str (wd (decide (s < 0)) a)) m := by
  rw [cl_df e]
  refine call_rt rfl hg (m' := m.enter) ?_ .refl under_str
  rw [show frameV 1 [MV.tup [.int s, .str a]] = [some (.tup [.int s, .str a])] from rfl]
  have h1 : (bif decide (s < 0) then [45] else ([] : List Nat)).length + a.length ≤ big := by
    cases decide (s < 0)
    · exact Nat.le_trans (show 0 + a.length ≤ 5 by omega) (by decide)
    · exact Nat.le_trans (show 1 + a.length ≤ 5 by omega) (by decide)
  simp only [textIR, E.den_loc, E.den_c, E.den_gc, E.den_bin, E.den_cmp, E.den_chn, E.den_bop, E.den_nt, E.den_neg, E.den_ife, E.den_tup, E.den_lst, E.den_ix, E.den_sl, E.den_call, E.den_blt, E.den_isi, E.den_mth, E.den_lc, E.den_dct, E.den_ifr, P.den_nil, P.den_cons, xPr0_eq, xPrC_eq, xDct_eq, L.den_nil, L.den_cons, B.den_one, B.den_cons, T.den_tru, T.den_cmp, T.den_chn, T.den_nt, T.den_bop, BT.den_one, BT.den_cons, O.den_no, O.den_on, OT.den_no, OT.den_on, I.den_src, I.den_zip, I.den_rg1, I.den_rg2, S.den_set, S.den_ret, S.den_retN, S.den_run, S.den_pass, S.den_ifs, S.den_fr, S.den_put, Ss.den_nil, Ss.den_one, Ss.den_cons, Tg.den_nm, Tg.den_tp, Tgs.den_nil, Tgs.den_cons, Tgs.many, bind_ok, xLoc_0, xLoc_s, xC_eq, xBin_eq, x1_eq, xA_eq, xArg0_eq, xArgC_eq, xChn_eq, asB_eq, xB_eq, xTru_eq, xNotT_eq, xNot_eq, xIf_eq, bopC_eq, bopTC_eq, xSl_eq, xPart0_eq, xPart1_eq, asI_eq, xMeth_eq, xSrc_eq, xI_eq, xSet_eq, xRet_eq, xRetN_eq, xDo_eq, xPass_eq, xSeq_eq, xIfS_eq, xPut_eq, gNm_eq, gsNil_eq, gsCons_eq, addI, subI, gtI, ltI, leI, geI, eqI, neI, intI, intB, truV_bl, isStr_str, beq_tt, beq_ff, beq_tf, beq_ft, nt_t, nt_f, List.set_cons_zero, List.set_cons_succ, if_tt, if_ff, ↓reduceIte, negV_int, Bf.f, Mt.f, Mt.ty, tstV, ixT0, ixT1, mul45, addS h1]
  cases decide (s < 0) <;> rfl
/-! a drawn word -/
theorem mkLst_ok {xs : List MV} (h : xs.length ≤ 1000000) : mkLst xs m = .ok (.ref m.n) (m.push (.lst xs)) := mkLst_eq (Nat.le_trans h (by decide))
theorem un_lit {n : Nat} {xs : List MV} (h : xs = [.str [73], .str [73], .str [88], .str [89], .str [90]] ∨ xs = [.int 1, .int 1, .int (-1)]) : ∀ x ∈ xs, x.under n = true := by
  intro x hx
  rcases h with rfl | rfl
  · simp only [List.mem_cons, List.not_mem_nil, or_false] at hx
    rcases hx with rfl | rfl | rfl | rfl | rfl <;> exact under_str
  · simp only [List.mem_cons, List.not_mem_nil, or_false] at hx
    rcases hx with rfl | rfl | rfl <;> exact under_int
/-- the signs drawn so far -/
def Signs (i c : Nat) (m0 : MH) (j : Nat) (ys : List MV) (m : MH) : Prop := ∃ a : List Nat, ys = a.map (fun c => .str [c]) ∧ (∀ x ∈ a, isL x) ∧ a.length = j ∧ Dr i (c + j) m0 m
theorem drawn_c {gd go gt i : Nat} {w c : Nat} {Ew : Nat → MV → MH → Prop} (ed : tab[gd]? = some (.df 2 4 (drawnIR go))) (eo : tab[go]? = some (.df 2 2 (ofIR gt))) (et : tab[gt]? = some (.sp 2 takeV)) (hg : Gd m) (hi : i < m.n) (hp : m.get i = some (.pot c)) (hc : c < 800000) (hw : w ≤ 4) :
    (clN tab (k + 3) gd [.ref i, .int (w : Int)] m).HA (fun v m' => ∃ (s : Int) (a : List Nat), v = .tup [.int s, .str a] ∧ (s = 1 ∨ s = -1) ∧ (∀ x ∈ a, isL x) ∧ a.length = w ∧ m' = m.pt i (c + w + 1)) Ew := by
  rw [cl_df ed, callD_eq (np := 2) rfl]
  refine all_callR ?_
  rw [show frameV 4 [MV.ref i, MV.int (w : Int)] = [some (.ref i), some (.int w), none, none] from rfl]
  simp only [drawnIR, E.den_loc, E.den_c, E.den_gc, E.den_bin, E.den_cmp, E.den_chn, E.den_bop, E.den_nt, E.den_neg, E.den_ife, E.den_tup, E.den_lst, E.den_ix, E.den_sl, E.den_call, E.den_blt, E.den_isi, E.den_mth, E.den_lc, E.den_dct, E.den_ifr, P.den_nil, P.den_cons, xPr0_eq, xPrC_eq, xDct_eq, L.den_nil, L.den_cons, B.den_one, B.den_cons, T.den_tru, T.den_cmp, T.den_chn, T.den_nt, T.den_bop, BT.den_one, BT.den_cons, O.den_no, O.den_on, OT.den_no, OT.den_on, I.den_src, I.den_zip, I.den_rg1, I.den_rg2, S.den_set, S.den_ret, S.den_retN, S.den_run, S.den_pass, S.den_ifs, S.den_fr, S.den_put, Ss.den_nil, Ss.den_one, Ss.den_cons, Tg.den_nm, Tg.den_tp, Tgs.den_nil, Tgs.den_cons, Tgs.many, bind_ok, xLoc_0, xLoc_s, xC_eq, xBin_eq, x1_eq, xA_eq, xArg0_eq, xArgC_eq, xChn_eq, asB_eq, xB_eq, xTru_eq, xNotT_eq, xNot_eq, xIf_eq, bopC_eq, bopTC_eq, xSl_eq, xPart0_eq, xPart1_eq, asI_eq, xMeth_eq, xSrc_eq, xI_eq, xSet_eq, xRet_eq, xRetN_eq, xDo_eq, xPass_eq, xSeq_eq, xIfS_eq, xPut_eq, gNm_eq, gsNil_eq, gsCons_eq, addI, subI, gtI, ltI, leI, geI, eqI, neI, intI, intB, truV_bl, isStr_str, beq_tt, beq_ff, beq_tf, beq_ft, nt_t, nt_f, List.set_cons_zero, List.set_cons_succ, if_tt, if_ff, ↓reduceIte, negV_int, Bf.f, Mt.f, Mt.ty, tstV, bind_bind]
  refine all_seq (lc_inv (m1 := m.enter) (xs := rngL 0 w) (Signs i c m.enter) (by simp only [E.den_loc, E.den_c, E.den_gc, E.den_bin, E.den_cmp, E.den_chn, E.den_bop, E.den_nt, E.den_neg, E.den_ife, E.den_tup, E.den_lst, E.den_ix, E.den_sl, E.den_call, E.den_blt, E.den_isi, E.den_mth, E.den_lc, E.den_dct, E.den_ifr, P.den_nil, P.den_cons, xPr0_eq, xPrC_eq, xDct_eq, L.den_nil, L.den_cons, B.den_one, B.den_cons, T.den_tru, T.den_cmp, T.den_chn, T.den_nt, T.den_bop, BT.den_one, BT.den_cons, O.den_no, O.den_on, OT.den_no, OT.den_on, I.den_src, I.den_zip, I.den_rg1, I.den_rg2, S.den_set, S.den_ret, S.den_retN, S.den_run, S.den_pass, S.den_ifs, S.den_fr, S.den_put, Ss.den_nil, Ss.den_one, Ss.den_cons, Tg.den_nm, Tg.den_tp, Tgs.den_nil, Tgs.den_cons, Tgs.many, bind_ok, xLoc_0, xLoc_s, xC_eq, xBin_eq, x1_eq, xA_eq, xArg0_eq, xArgC_eq, xChn_eq, asB_eq, xB_eq, xTru_eq, xNotT_eq, xNot_eq, xIf_eq, bopC_eq, bopTC_eq, xSl_eq, xPart0_eq, xPart1_eq, asI_eq, xMeth_eq, xSrc_eq, xI_eq, xSet_eq, xRet_eq, xRetN_eq, xDo_eq, xPass_eq, xSeq_eq, xIfS_eq, xPut_eq, gNm_eq, gsNil_eq, gsCons_eq, addI, subI, gtI, ltI, leI, geI, eqI, neI, intI, intB, truV_bl, isStr_str, beq_tt, beq_ff, beq_tf, beq_ft, nt_t, nt_f, List.set_cons_zero, List.set_cons_succ, if_tt, if_ff, ↓reduceIte, negV_int, Bf.f, Mt.f, Mt.ty, tstV]; exact rng1_eq (by omega)) (by rw [rngL_length]; exact Nat.le_trans (show w + 1 ≤ 5 by omega) (by decide)) ⟨[], rfl, (fun _ h => by cases h), rfl, Dr.of hg.enter hp⟩ ?_) ?_
  · rintro j x hx ys m1 ⟨a, rfl, ha, hl, hd⟩
    have hl2 := (List.getElem?_eq_some_iff.mp hx).1
    rw [rngL_length] at hl2
    have g1 := hd.gd hg.enter
    have n1 : i < m1.n := Nat.lt_of_lt_of_le hi hd.le
    simp only [E.den_loc, E.den_c, E.den_gc, E.den_bin, E.den_cmp, E.den_chn, E.den_bop, E.den_nt, E.den_neg, E.den_ife, E.den_tup, E.den_lst, E.den_ix, E.den_sl, E.den_call, E.den_blt, E.den_isi, E.den_mth, E.den_lc, E.den_dct, E.den_ifr, P.den_nil, P.den_cons, xPr0_eq, xPrC_eq, xDct_eq, L.den_nil, L.den_cons, B.den_one, B.den_cons, T.den_tru, T.den_cmp, T.den_chn, T.den_nt, T.den_bop, BT.den_one, BT.den_cons, O.den_no, O.den_on, OT.den_no, OT.den_on, I.den_src, I.den_zip, I.den_rg1, I.den_rg2, S.den_set, S.den_ret, S.den_retN, S.den_run, S.den_pass, S.den_ifs, S.den_fr, S.den_put, Ss.den_nil, Ss.den_one, Ss.den_cons, Tg.den_nm, Tg.den_tp, Tgs.den_nil, Tgs.den_cons, Tgs.many, bind_ok, xLoc_0, xLoc_s, xC_eq, xBin_eq, x1_eq, xA_eq, xArg0_eq, xArgC_eq, xChn_eq, asB_eq, xB_eq, xTru_eq, xNotT_eq, xNot_eq, xIf_eq, bopC_eq, bopTC_eq, xSl_eq, xPart0_eq, xPart1_eq, asI_eq, xMeth_eq, xSrc_eq, xI_eq, xSet_eq, xRet_eq, xRetN_eq, xDo_eq, xPass_eq, xSeq_eq, xIfS_eq, xPut_eq, gNm_eq, gsNil_eq, gsCons_eq, addI, subI, gtI, ltI, leI, geI, eqI, neI, intI, intB, truV_bl, isStr_str, beq_tt, beq_ff, beq_tf, beq_ft, nt_t, nt_f, List.set_cons_zero, List.set_cons_succ, if_tt, if_ff, ↓reduceIte, negV_int, Bf.f, Mt.f, Mt.ty, tstV, wipeM]
    refine all_ok (all_ok ⟨rfl, ?_⟩)
    simp only [E.den_loc, E.den_c, E.den_gc, E.den_bin, E.den_cmp, E.den_chn, E.den_bop, E.den_nt, E.den_neg, E.den_ife, E.den_tup, E.den_lst, E.den_ix, E.den_sl, E.den_call, E.den_blt, E.den_isi, E.den_mth, E.den_lc, E.den_dct, E.den_ifr, P.den_nil, P.den_cons, xPr0_eq, xPrC_eq, xDct_eq, L.den_nil, L.den_cons, B.den_one, B.den_cons, T.den_tru, T.den_cmp, T.den_chn, T.den_nt, T.den_bop, BT.den_one, BT.den_cons, O.den_no, O.den_on, OT.den_no, OT.den_on, I.den_src, I.den_zip, I.den_rg1, I.den_rg2, S.den_set, S.den_ret, S.den_retN, S.den_run, S.den_pass, S.den_ifs, S.den_fr, S.den_put, Ss.den_nil, Ss.den_one, Ss.den_cons, Tg.den_nm, Tg.den_tp, Tgs.den_nil, Tgs.den_cons, Tgs.many, bind_ok, xLoc_0, xLoc_s, xC_eq, xBin_eq, x1_eq, xA_eq, xArg0_eq, xArgC_eq, xChn_eq, asB_eq, xB_eq, xTru_eq, xNotT_eq, xNot_eq, xIf_eq, bopC_eq, bopTC_eq, xSl_eq, xPart0_eq, xPart1_eq, asI_eq, xMeth_eq, xSrc_eq, xI_eq, xSet_eq, xRet_eq, xRetN_eq, xDo_eq, xPass_eq, xSeq_eq, xIfS_eq, xPut_eq, gNm_eq, gsNil_eq, gsCons_eq, addI, subI, gtI, ltI, leI, geI, eqI, neI, intI, intB, truV_bl, isStr_str, beq_tt, beq_ff, beq_tf, beq_ft, nt_t, nt_f, List.set_cons_zero, List.set_cons_succ, if_tt, if_ff, ↓reduceIte, negV_int, Bf.f, Mt.f, Mt.ty, tstV, mkLst_ok (show [MV.str [73], .str [73], .str [88], .str [89], .str [90]].length ≤ 1000000 by decide)]
    refine (of_all (go := go) (gt := gt) eo et g1.push (Nat.lt_succ_of_lt n1) (by rw [get_push_old n1]; exact hd.pot hg.enter hi) (by omega) get_push_same (by decide) (by decide) (un_lit (.inl rfl))).mono (fun v m2 h => ?_) (fun _ _ _ h => h)
    obtain ⟨hv, rfl⟩ := h
    have hs : ∃ s, v = .str [s] ∧ isL s := by
      simp only [List.mem_cons, List.not_mem_nil, or_false] at hv
      rcases hv with rfl | rfl | rfl | rfl | rfl
      · exact ⟨73, rfl, .inl rfl⟩
      · exact ⟨73, rfl, .inl rfl⟩
      · exact ⟨88, rfl, .inr (.inl rfl)⟩
      · exact ⟨89, rfl, .inr (.inr (.inl rfl))⟩
      · exact ⟨90, rfl, .inr (.inr (.inr rfl))⟩
    obtain ⟨s, rfl, hs⟩ := hs
    refine ⟨a ++ [s], by rw [List.map_append] <;> rfl, fun x hx => ?_, by rw [List.length_append, hl] <;> rfl, (hd.push hi).pt⟩
    rcases List.mem_append.mp hx with h | h
    · exact ha x h
    · rw [List.mem_singleton.mp h]
      exact hs
  · rintro v m1 ⟨ys, m2, ⟨a, rfl, ha, hl, hd⟩, rfl, rfl⟩
    rw [rngL_length] at hl hd
    simp only [E.den_loc, E.den_c, E.den_gc, E.den_bin, E.den_cmp, E.den_chn, E.den_bop, E.den_nt, E.den_neg, E.den_ife, E.den_tup, E.den_lst, E.den_ix, E.den_sl, E.den_call, E.den_blt, E.den_isi, E.den_mth, E.den_lc, E.den_dct, E.den_ifr, P.den_nil, P.den_cons, xPr0_eq, xPrC_eq, xDct_eq, L.den_nil, L.den_cons, B.den_one, B.den_cons, T.den_tru, T.den_cmp, T.den_chn, T.den_nt, T.den_bop, BT.den_one, BT.den_cons, O.den_no, O.den_on, OT.den_no, OT.den_on, I.den_src, I.den_zip, I.den_rg1, I.den_rg2, S.den_set, S.den_ret, S.den_retN, S.den_run, S.den_pass, S.den_ifs, S.den_fr, S.den_put, Ss.den_nil, Ss.den_one, Ss.den_cons, Tg.den_nm, Tg.den_tp, Tgs.den_nil, Tgs.den_cons, Tgs.many, bind_ok, xLoc_0, xLoc_s, xC_eq, xBin_eq, x1_eq, xA_eq, xArg0_eq, xArgC_eq, xChn_eq, asB_eq, xB_eq, xTru_eq, xNotT_eq, xNot_eq, xIf_eq, bopC_eq, bopTC_eq, xSl_eq, xPart0_eq, xPart1_eq, asI_eq, xMeth_eq, xSrc_eq, xI_eq, xSet_eq, xRet_eq, xRetN_eq, xDo_eq, xPass_eq, xSeq_eq, xIfS_eq, xPut_eq, gNm_eq, gsNil_eq, gsCons_eq, addI, subI, gtI, ltI, leI, geI, eqI, neI, intI, intB, truV_bl, isStr_str, beq_tt, beq_ff, beq_tf, beq_ft, nt_t, nt_f, List.set_cons_zero, List.set_cons_succ, if_tt, if_ff, ↓reduceIte, negV_int, Bf.f, Mt.f, Mt.ty, tstV, bind_bind, join_new (show a.length ≤ 1000 by omega)]
    have g2 := hd.gd hg.enter
    have n2 : i < m2.n := Nat.lt_of_lt_of_le hi hd.le
    have g3 : Gd (m2.push (.lst (a.map fun c => .str [c]))) := g2.push
    simp only [mkLst_ok (show [MV.int 1, .int 1, .int (-1)].length ≤ 1000000 by decide), bind_ok]
    have hp2 := hd.pot hg.enter hi
    refine all_seq (of_all (go := go) (gt := gt) (i := i) (c := c + w) eo et g3.push (Nat.lt_succ_of_lt (Nat.lt_succ_of_lt n2)) (by rw [get_push_old (Nat.lt_succ_of_lt n2), get_push_old n2]; exact hp2) (by omega) get_push_same (by decide) (by decide) (un_lit (.inr rfl))) fun v m3 h => ?_
    obtain ⟨hv, rfl⟩ := h
    have hs : ∃ s : Int, v = .int s ∧ (s = 1 ∨ s = -1) := by
      simp only [List.mem_cons, List.not_mem_nil, or_false] at hv
      rcases hv with rfl | rfl | rfl
      · exact ⟨_, rfl, .inl rfl⟩
      · exact ⟨_, rfl, .inl rfl⟩
      · exact ⟨_, rfl, .inr rfl⟩
    obtain ⟨s, rfl, hs⟩ := hs
    rw [show mkTup [MV.int s, .str a] _ = .ok (.tup [MV.int s, .str a]) _ from rfl, bind_ok]
    refine all_ok ?_
    show (fin m.n _ _).HA _ _
    rw [Dr.fin (((hd.push hi).push hi).pt (d := c + w + 1)) hg hi (by rw [MV.under, MV.unders, MV.unders, MV.unders, under_int, under_str] <;> rfl)]
    exact all_ok ⟨s, a, rfl, hs, ha, hl, rfl⟩
/-! do they pass -/
theorem notin2_L {x y : Nat} (hx : isL x) (hy : isL y) : cmpV .NotIn (.str [73]) (.str [x, y]) m = .ok (.bl (!(x == 73) && !(y == 73))) m := by
  rcases hx with rfl | rfl | rfl | rfl <;> rcases hy with rfl | rfl | rfl | rfl <;> rfl
theorem lpass_c {g : Nat} (e : tab[g]? = some (.df 2 4 lpassIR)) (hg : Gd m) (ha : ∀ c ∈ a, isL c) (hb : ∀ c ∈ b, isL c) (hl : a.length ≤ 4) : clN tab (k + 1) g [.str a, .str b] m = .ok (.bl (passB a b)) m := by
  rw [cl_df e]
  refine call_rt rfl hg (m' := m.enter.push (.lst ((a.zip b).filterMap fun p => bif meetB p.1 p.2 then some (.int 1) else none))) ?_ (.push .refl) under_bl
  rw [show frameV 4 [MV.str a, MV.str b] = [some (.str a), some (.str b), none, none] from rfl]
  have lc := lc_prs (m := m.enter) (a := a) (b := b) (vs := [2, 3]) (s := [some (.str a), some (.str b), none, none]) (i := 0) (j := 1) (g := gTp 2 (gsCons (gNm 2) (gsCons (gNm 3) gsNil))) (t := some (bopTC true (xB (xBin (cmpV .NotEq) (xLoc 2) (xLoc 3))) (xB (xBin (cmpV .NotIn) (xC (.str [73])) (xBin (binV .Add) (xLoc 2) (xLoc 3)))))) (e := xC (.int 1)) (fun x y => bif meetB x y then some (.int 1) else none) rfl rfl (by omega) fun x y hm => by
    obtain ⟨hx, hy⟩ := mem_zip_L ha hb hm
    have h1 := ne_L (m := m.enter) hx hy
    have h2 := notin2_L (m := m.enter) hx hy
    unfold meetB
    cases e1 : (x == y) with
    | true =>
      rw [e1] at h1
      refine ⟨[some (.str a), some (.str b), some (.str [x]), some (.str [y])], rfl, ?_⟩
      simp only [E.den_loc, E.den_c, E.den_gc, E.den_bin, E.den_cmp, E.den_chn, E.den_bop, E.den_nt, E.den_neg, E.den_ife, E.den_tup, E.den_lst, E.den_ix, E.den_sl, E.den_call, E.den_blt, E.den_isi, E.den_mth, E.den_lc, E.den_dct, E.den_ifr, P.den_nil, P.den_cons, xPr0_eq, xPrC_eq, xDct_eq, L.den_nil, L.den_cons, B.den_one, B.den_cons, T.den_tru, T.den_cmp, T.den_chn, T.den_nt, T.den_bop, BT.den_one, BT.den_cons, O.den_no, O.den_on, OT.den_no, OT.den_on, I.den_src, I.den_zip, I.den_rg1, I.den_rg2, S.den_set, S.den_ret, S.den_retN, S.den_run, S.den_pass, S.den_ifs, S.den_fr, S.den_put, Ss.den_nil, Ss.den_one, Ss.den_cons, Tg.den_nm, Tg.den_tp, Tgs.den_nil, Tgs.den_cons, Tgs.many, bind_ok, xLoc_0, xLoc_s, xC_eq, xBin_eq, x1_eq, xA_eq, xArg0_eq, xArgC_eq, xChn_eq, asB_eq, xB_eq, xTru_eq, xNotT_eq, xNot_eq, xIf_eq, bopC_eq, bopTC_eq, xSl_eq, xPart0_eq, xPart1_eq, asI_eq, xMeth_eq, xSrc_eq, xI_eq, xSet_eq, xRet_eq, xRetN_eq, xDo_eq, xPass_eq, xSeq_eq, xIfS_eq, xPut_eq, gNm_eq, gsNil_eq, gsCons_eq, addI, subI, gtI, ltI, leI, geI, eqI, neI, intI, intB, truV_bl, isStr_str, beq_tt, beq_ff, beq_tf, beq_ft, nt_t, nt_f, List.set_cons_zero, List.set_cons_succ, if_tt, if_ff, ↓reduceIte, negV_int, Bf.f, Mt.f, Mt.ty, tstV, h1]
    | false =>
      rw [e1] at h1
      cases e2 : (!(x == 73) && !(y == 73)) with
      | true =>
        rw [e2] at h2
        refine ⟨[some (.str a), some (.str b), some (.str [x]), some (.str [y])], rfl, ?_, rfl⟩
        simp only [E.den_loc, E.den_c, E.den_gc, E.den_bin, E.den_cmp, E.den_chn, E.den_bop, E.den_nt, E.den_neg, E.den_ife, E.den_tup, E.den_lst, E.den_ix, E.den_sl, E.den_call, E.den_blt, E.den_isi, E.den_mth, E.den_lc, E.den_dct, E.den_ifr, P.den_nil, P.den_cons, xPr0_eq, xPrC_eq, xDct_eq, L.den_nil, L.den_cons, B.den_one, B.den_cons, T.den_tru, T.den_cmp, T.den_chn, T.den_nt, T.den_bop, BT.den_one, BT.den_cons, O.den_no, O.den_on, OT.den_no, OT.den_on, I.den_src, I.den_zip, I.den_rg1, I.den_rg2, S.den_set, S.den_ret, S.den_retN, S.den_run, S.den_pass, S.den_ifs, S.den_fr, S.den_put, Ss.den_nil, Ss.den_one, Ss.den_cons, Tg.den_nm, Tg.den_tp, Tgs.den_nil, Tgs.den_cons, Tgs.many, bind_ok, xLoc_0, xLoc_s, xC_eq, xBin_eq, x1_eq, xA_eq, xArg0_eq, xArgC_eq, xChn_eq, asB_eq, xB_eq, xTru_eq, xNotT_eq, xNot_eq, xIf_eq, bopC_eq, bopTC_eq, xSl_eq, xPart0_eq, xPart1_eq, asI_eq, xMeth_eq, xSrc_eq, xI_eq, xSet_eq, xRet_eq, xRetN_eq, xDo_eq, xPass_eq, xSeq_eq, xIfS_eq, xPut_eq, gNm_eq, gsNil_eq, gsCons_eq, addI, subI, gtI, ltI, leI, geI, eqI, neI, intI, intB, truV_bl, isStr_str, beq_tt, beq_ff, beq_tf, beq_ft, nt_t, nt_f, List.set_cons_zero, List.set_cons_succ, if_tt, if_ff, ↓reduceIte, negV_int, Bf.f, Mt.f, Mt.ty, tstV, h1, add_L, h2]
      | false =>
        rw [e2] at h2
        refine ⟨[some (.str a), some (.str b), some (.str [x]), some (.str [y])], rfl, ?_⟩
        simp only [E.den_loc, E.den_c, E.den_gc, E.den_bin, E.den_cmp, E.den_chn, E.den_bop, E.den_nt, E.den_neg, E.den_ife, E.den_tup, E.den_lst, E.den_ix, E.den_sl, E.den_call, E.den_blt, E.den_isi, E.den_mth, E.den_lc, E.den_dct, E.den_ifr, P.den_nil, P.den_cons, xPr0_eq, xPrC_eq, xDct_eq, L.den_nil, L.den_cons, B.den_one, B.den_cons, T.den_tru, T.den_cmp, T.den_chn, T.den_nt, T.den_bop, BT.den_one, BT.den_cons, O.den_no, O.den_on, OT.den_no, OT.den_on, I.den_src, I.den_zip, I.den_rg1, I.den_rg2, S.den_set, S.den_ret, S.den_retN, S.den_run, S.den_pass, S.den_ifs, S.den_fr, S.den_put, Ss.den_nil, Ss.den_one, Ss.den_cons, Tg.den_nm, Tg.den_tp, Tgs.den_nil, Tgs.den_cons, Tgs.many, bind_ok, xLoc_0, xLoc_s, xC_eq, xBin_eq, x1_eq, xA_eq, xArg0_eq, xArgC_eq, xChn_eq, asB_eq, xB_eq, xTru_eq, xNotT_eq, xNot_eq, xIf_eq, bopC_eq, bopTC_eq, xSl_eq, xPart0_eq, xPart1_eq, asI_eq, xMeth_eq, xSrc_eq, xI_eq, xSet_eq, xRet_eq, xRetN_eq, xDo_eq, xPass_eq, xSeq_eq, xIfS_eq, xPut_eq, gNm_eq, gsNil_eq, gsCons_eq, addI, subI, gtI, ltI, leI, geI, eqI, neI, intI, intB, truV_bl, isStr_str, beq_tt, beq_ff, beq_tf, beq_ft, nt_t, nt_f, List.set_cons_zero, List.set_cons_succ, if_tt, if_ff, ↓reduceIte, negV_int, Bf.f, Mt.f, Mt.ty, tstV, h1, add_L, h2]
  simp only [lpassIR, E.den_loc, E.den_c, E.den_gc, E.den_bin, E.den_cmp, E.den_chn, E.den_bop, E.den_nt, E.den_neg, E.den_ife, E.den_tup, E.den_lst, E.den_ix, E.den_sl, E.den_call, E.den_blt, E.den_isi, E.den_mth, E.den_lc, E.den_dct, E.den_ifr, P.den_nil, P.den_cons, xPr0_eq, xPrC_eq, xDct_eq, L.den_nil, L.den_cons, B.den_one, B.den_cons, T.den_tru, T.den_cmp, T.den_chn, T.den_nt, T.den_bop, BT.den_one, BT.den_cons, O.den_no, O.den_on, OT.den_no, OT.den_on, I.den_src, I.den_zip, I.den_rg1, I.den_rg2, S.den_set, S.den_ret, S.den_retN, S.den_run, S.den_pass, S.den_ifs, S.den_fr, S.den_put, Ss.den_nil, Ss.den_one, Ss.den_cons, Tg.den_nm, Tg.den_tp, Tgs.den_nil, Tgs.den_cons, Tgs.many, bind_ok, xLoc_0, xLoc_s, xC_eq, xBin_eq, x1_eq, xA_eq, xArg0_eq, xArgC_eq, xChn_eq, asB_eq, xB_eq, xTru_eq, xNotT_eq, xNot_eq, xIf_eq, bopC_eq, bopTC_eq, xSl_eq, xPart0_eq, xPart1_eq, asI_eq, xMeth_eq, xSrc_eq, xI_eq, xSet_eq, xRet_eq, xRetN_eq, xDo_eq, xPass_eq, xSeq_eq, xIfS_eq, xPut_eq, gNm_eq, gsNil_eq, gsCons_eq, addI, subI, gtI, ltI, leI, geI, eqI, neI, intI, intB, truV_bl, isStr_str, beq_tt, beq_ff, beq_tf, beq_ft, nt_t, nt_f, List.set_cons_zero, List.set_cons_succ, if_tt, if_ff, ↓reduceIte, negV_int, Bf.f, Mt.f, Mt.ty, tstV, lc, len_lst get_push_same, modI two_pos, passB]
  rw [filt_len (a.zip b) meetB (fun x _ => .int 1), eqb_mod]
/-! signs side by side -/
def two (a b : List Nat) : List MV := (a.zip b).map fun p => .str [p.1, p.2]
theorem lc_two0 {vs : List Nat} {s : St} {i j : Nat} {ei ej : X} (hi : ei s m = .ok (.str a) m) (hj : ej s m = .ok (.str b) m) (ha : a.length ≤ 1000) (hs : ∀ x y, ∃ s1, gTp 2 (gsCons (gNm i) (gsCons (gNm j) gsNil)) (.tup [.str [x], .str [y]]) (wipeM s vs) m = .ok s1 m ∧ xLoc i s1 m = .ok (.str [x]) m ∧ xLoc j s1 m = .ok (.str [y]) m) :
    xLc vs (xI zipV (xArgC ei (xArgC ej xArg0))) (gTp 2 (gsCons (gNm i) (gsCons (gNm j) gsNil))) Option.none (xBin (binV .Add) (xLoc i) (xLoc j)) s m = .ok (.ref m.n) (m.push (.lst (two a b))) := by
  rw [lc_pure (both fun x y => some (.str [x, y])) (m1 := m) (sr := .zip (.imm (a.map fun c => .str [c])) (.imm (b.map fun c => .str [c]))) (xs := prs a b) (by simp only [xI_eq, xArgC_eq, xArg0_eq, hi, hj, bind_ok, zip_str]) (by show (a.map _).length + 1 ≤ big; rw [List.length_map]; exact Nat.le_trans (show a.length + 1 ≤ 1001 by omega) (by decide)) (its_prs a b) (len_prs a b), fm_prs _ (fun x y => some (.str [x, y])) (fun _ _ => rfl), fm_some (fun p : Nat × Nat => MV.str [p.1, p.2])]
  · rfl
  · intro v hv
    obtain ⟨q, hq, rfl⟩ := List.mem_map.mp hv
    obtain ⟨s1, h1, h2, h3⟩ := hs q.1 q.2
    refine ⟨s1, h1, rfl, ?_⟩
    rw [xBin_eq, h2, bind_ok, h3, bind_ok]
    rfl
def both2 (f : Nat → Nat → Option MV) (v : MV) : Option MV := match v with
  | .str [x, y] => f x y
  | _ => none
theorem fm_two {β : Type} (f : MV → Option β) (g : Nat → Nat → Option β) (h : ∀ x y, f (.str [x, y]) = g x y) (a b : List Nat) : (two a b).filterMap f = (a.zip b).filterMap fun p => g p.1 p.2 := by
  unfold two
  rw [List.filterMap_map]
  exact fm_congr fun (p : Nat × Nat) => h p.1 p.2
theorem lc_two {vs : List Nat} {g : XG} {t : Option XB} {e : X} {s : St} {i l : Nat} (f : Nat → Nat → Option MV) (hi : xLoc i s m = .ok (.ref l) m) (hl : m.get l = some (.lst (two a b))) (ha : a.length ≤ 1000)
    (hf : ∀ x y, (x, y) ∈ a.zip b → ItemDoes g (tstV t) e (wipeM s vs) m (.str [x, y]) (f x y)) :
    xLc vs (xSrc (xLoc i)) g t e s m = .ok (.ref m.n) (m.push (.lst ((a.zip b).filterMap fun p => f p.1 p.2))) := by
  have hz : (Src.liv l 0).size m = (two a b).length := by
    unfold Src.size
    rw [hl]
  have hn : (two a b).length ≤ a.length := by
    unfold two
    rw [List.length_map, List.length_zip]
    omega
  rw [lc_pure (both2 f) (m1 := m) (sr := .liv l 0) (xs := two a b) (by
    rw [xSrc_eq, hi, bind_ok]
    unfold srcV
    dsimp only
    rw [hl]) (by rw [hz]; exact Nat.le_trans (show (two a b).length + 1 ≤ 1001 by omega) (by decide)) (its_list hl) (by rw [hz]; exact Nat.le_refl _), fm_two _ f (fun _ _ => rfl)]
  intro v hv
  obtain ⟨q, hq, rfl⟩ := List.mem_map.mp hv
  exact hf q.1 q.2 hq
/-! the letters made -/
def tblM : List (MV × MV) := [(.str [88, 89], .str [90]), (.str [89, 88], .str [90]), (.str [89, 90], .str [88]), (.str [90, 89], .str [88]), (.str [88, 90], .str [89]), (.str [90, 88], .str [89])]
def dflt (x y : Nat) : List Nat := bif x == y then [73] else rep1 73 [] [x, y]
theorem get_tbl {l x y : Nat} (h : m.get l = some (.dct false tblM)) (hx : isL x) (hy : isL y) : getV (.ref l) [.str [x, y], .str (dflt x y)] m = .ok (.str [mk x y]) m := by
  unfold getV
  dsimp only
  rw [h]
  rcases hx with rfl | rfl | rfl | rfl <;> rcases hy with rfl | rfl | rfl | rfl <;> rfl
theorem disp_tbl : mkDct m.n [(.str [88, 89], .str [90]), (.str [89, 88], .str [90]), (.str [89, 90], .str [88]), (.str [90, 89], .str [88]), (.str [88, 90], .str [89]), (.str [90, 88], .str [89])] (m.push (.dct false [])) = .ok (.ref m.n) ((m.push (.dct false [])).wr m.n (.dct false tblM) (.tup [.str [90], .str [90], .str [88], .str [88], .str [89], .str [89]])) := by
  unfold mkDct
  rw [get_push_same]
  rfl
/-- a new object written over, by what stands under all -/
theorem wr_new (hg : Gd m) {o p : MO} {v : MV} (hv : ∀ n, v.under n = true) : (m.push o).wr m.n p v = m.push p := by
  obtain ⟨n, lo, os, sc⟩ := m
  have e : ((⟨n, lo, os, sc⟩ : MH).push o).wr n p v = ⟨n + 1, lo, (o :: os).set (n + 1 - 1 - n) p, sc⟩ := by
    have : (((⟨n, lo, os, sc⟩ : MH).push o).wr n p v).lo = lo := by
      rw [wr_lo]
      conv => rhs; rw [← List.map_id lo]
      refine List.map_congr_left fun l _ => ?_
      rw [hv]
      cases Nat.blt n l <;> rfl
    show (⟨n + 1, (((⟨n, lo, os, sc⟩ : MH).push o).wr n p v).lo, _, sc⟩ : MH) = _
    rw [this] <;> rfl
  rw [e, show n + 1 - 1 - n = 0 by omega]
  rfl
theorem ixS0 {x y : Nat} : ixV (.str [x, y]) (.int 0) m = .ok (.str [x]) m := rfl
theorem ixS1 {x y : Nat} : ixV (.str [x, y]) (.int 1) m = .ok (.str [y]) m := rfl
theorem isDct_of {l : Nat} {kvs : List (MV × MV)} (h : m.get l = some (.dct false kvs)) : isDct (.ref l) m = true := by
  unfold isDct
  dsimp only
  rw [h]
theorem rep2 {x y : Nat} : replV 73 [] (.str [x, y]) m = .ok (.str (rep1 73 [] [x, y])) m := rfl
theorem lmade_c {g : Nat} (e : tab[g]? = some (.df 2 7 lmadeIR)) (hg : Gd m) (ha : ∀ c ∈ a, isL c) (hb : ∀ c ∈ b, isL c) (hl : a.length ≤ 4) : clN tab (k + 1) g [.str a, .str b] m = .ok (.str (mkS a b)) m := by
  rw [cl_df e]
  refine call_rt rfl hg (m' := ((m.enter.push (.dct false tblM)).push (.lst (two a b))).push (.lst ((mkS a b).map fun c => .str [c]))) ?_ (.push (.push (.push .refl))) under_str
  rw [show frameV 7 [MV.str a, MV.str b] = [some (.str a), some (.str b), none, none, none, none, none] from rfl]
  have w1 : (m.enter.push (.dct false [])).wr m.enter.n (.dct false tblM) (.tup [.str [90], .str [90], .str [88], .str [88], .str [89], .str [89]]) = m.enter.push (.dct false tblM) := wr_new hg.enter fun n => by
    rw [MV.under]
    simp only [MV.unders, under_str]
    rfl
  have l0 := lc_two0 (m := m.enter.push (.dct false tblM)) (a := a) (b := b) (vs := [4, 5]) (s := [some (.str a), some (.str b), some (.ref m.enter.n), none, none, none, none]) (i := 4) (j := 5) (ei := xLoc 0) (ej := xLoc 1) rfl rfl (by omega) fun x y => ⟨_, rfl, rfl, rfl⟩
  have gl : ((m.enter.push (.dct false tblM)).push (.lst (two a b))).get m.enter.n = some (.dct false tblM) := get_2
  have l1 := lc_two (m := (m.enter.push (.dct false tblM)).push (.lst (two a b))) (a := a) (b := b) (vs := [6]) (s := [some (.str a), some (.str b), some (.ref m.enter.n), some (.ref (m.enter.n + 1)), none, none, none]) (i := 3) (l := m.enter.n + 1) (g := gNm 6) (t := Option.none) (e := xMeth isDct getV (xLoc 2) (xArgC (xLoc 6) (xArgC (xIf (xB (xBin (cmpV .Eq) (xBin ixV (xLoc 6) (xC (.int 0))) (xBin ixV (xLoc 6) (xC (.int 1))))) (xC (.str [73])) (x1 (replV 73 []) (xLoc 6))) xArg0))) (fun x y => some (.str [mk x y])) rfl get_push_same (by omega) fun x y hm => by
    obtain ⟨hx, hy⟩ := mem_zip_L ha hb hm
    refine ⟨[some (.str a), some (.str b), some (.ref m.enter.n), some (.ref (m.enter.n + 1)), none, none, some (.str [x, y])], rfl, rfl, ?_⟩
    have hq := eq_L (m := (m.enter.push (.dct false tblM)).push (.lst (two a b))) hx hy
    have hgt := get_tbl (m := (m.enter.push (.dct false tblM)).push (.lst (two a b))) gl hx hy
    unfold dflt at hgt
    cases c1 : x == y with
    | true =>
      rw [c1] at hq hgt
      simp only [E.den_loc, E.den_c, E.den_gc, E.den_bin, E.den_cmp, E.den_chn, E.den_bop, E.den_nt, E.den_neg, E.den_ife, E.den_tup, E.den_lst, E.den_ix, E.den_sl, E.den_call, E.den_blt, E.den_isi, E.den_mth, E.den_lc, E.den_dct, E.den_ifr, P.den_nil, P.den_cons, xPr0_eq, xPrC_eq, xDct_eq, L.den_nil, L.den_cons, B.den_one, B.den_cons, T.den_tru, T.den_cmp, T.den_chn, T.den_nt, T.den_bop, BT.den_one, BT.den_cons, O.den_no, O.den_on, OT.den_no, OT.den_on, I.den_src, I.den_zip, I.den_rg1, I.den_rg2, S.den_set, S.den_ret, S.den_retN, S.den_run, S.den_pass, S.den_ifs, S.den_fr, S.den_put, Ss.den_nil, Ss.den_one, Ss.den_cons, Tg.den_nm, Tg.den_tp, Tgs.den_nil, Tgs.den_cons, Tgs.many, bind_ok, xLoc_0, xLoc_s, xC_eq, xBin_eq, x1_eq, xA_eq, xArg0_eq, xArgC_eq, xChn_eq, asB_eq, xB_eq, xTru_eq, xNotT_eq, xNot_eq, xIf_eq, bopC_eq, bopTC_eq, xSl_eq, xPart0_eq, xPart1_eq, asI_eq, xMeth_eq, xSrc_eq, xI_eq, xSet_eq, xRet_eq, xRetN_eq, xDo_eq, xPass_eq, xSeq_eq, xIfS_eq, xPut_eq, gNm_eq, gsNil_eq, gsCons_eq, addI, subI, gtI, ltI, leI, geI, eqI, neI, intI, intB, truV_bl, isStr_str, beq_tt, beq_ff, beq_tf, beq_ft, nt_t, nt_f, List.set_cons_zero, List.set_cons_succ, if_tt, if_ff, ↓reduceIte, negV_int, Bf.f, Mt.f, Mt.ty, tstV, isDct_of gl, ixS0, ixS1, hq, hgt, cond_true]
      simpa only [cond_true] using hgt
    | false =>
      rw [c1] at hq hgt
      simp only [E.den_loc, E.den_c, E.den_gc, E.den_bin, E.den_cmp, E.den_chn, E.den_bop, E.den_nt, E.den_neg, E.den_ife, E.den_tup, E.den_lst, E.den_ix, E.den_sl, E.den_call, E.den_blt, E.den_isi, E.den_mth, E.den_lc, E.den_dct, E.den_ifr, P.den_nil, P.den_cons, xPr0_eq, xPrC_eq, xDct_eq, L.den_nil, L.den_cons, B.den_one, B.den_cons, T.den_tru, T.den_cmp, T.den_chn, T.den_nt, T.den_bop, BT.den_one, BT.den_cons, O.den_no, O.den_on, OT.den_no, OT.den_on, I.den_src, I.den_zip, I.den_rg1, I.den_rg2, S.den_set, S.den_ret, S.den_retN, S.den_run, S.den_pass, S.den_ifs, S.den_fr, S.den_put, Ss.den_nil, Ss.den_one, Ss.den_cons, Tg.den_nm, Tg.den_tp, Tgs.den_nil, Tgs.den_cons, Tgs.many, bind_ok, xLoc_0, xLoc_s, xC_eq, xBin_eq, x1_eq, xA_eq, xArg0_eq, xArgC_eq, xChn_eq, asB_eq, xB_eq, xTru_eq, xNotT_eq, xNot_eq, xIf_eq, bopC_eq, bopTC_eq, xSl_eq, xPart0_eq, xPart1_eq, asI_eq, xMeth_eq, xSrc_eq, xI_eq, xSet_eq, xRet_eq, xRetN_eq, xDo_eq, xPass_eq, xSeq_eq, xIfS_eq, xPut_eq, gNm_eq, gsNil_eq, gsCons_eq, addI, subI, gtI, ltI, leI, geI, eqI, neI, intI, intB, truV_bl, isStr_str, beq_tt, beq_ff, beq_tf, beq_ft, nt_t, nt_f, List.set_cons_zero, List.set_cons_succ, if_tt, if_ff, ↓reduceIte, negV_int, Bf.f, Mt.f, Mt.ty, tstV, isDct_of gl, ixS0, ixS1, hq, rep2, hgt, cond_false]
      simpa only [cond_false] using hgt
  have e2 : ((a.zip b).filterMap fun p => some (MV.str [mk p.1 p.2])) = (mkS a b).map fun c => .str [c] := by
    rw [fm_some (fun p : Nat × Nat => MV.str [mk p.1 p.2])]
    unfold mkS
    rw [List.map_map] <;> rfl
  rw [e2] at l1
  have hm := mkS_len a b
  have n1 : (m.enter.push (.dct false tblM)).n = m.enter.n + 1 := rfl
  simp only [lmadeIR, E.den_loc, E.den_c, E.den_gc, E.den_bin, E.den_cmp, E.den_chn, E.den_bop, E.den_nt, E.den_neg, E.den_ife, E.den_tup, E.den_lst, E.den_ix, E.den_sl, E.den_call, E.den_blt, E.den_isi, E.den_mth, E.den_lc, E.den_dct, E.den_ifr, P.den_nil, P.den_cons, xPr0_eq, xPrC_eq, xDct_eq, L.den_nil, L.den_cons, B.den_one, B.den_cons, T.den_tru, T.den_cmp, T.den_chn, T.den_nt, T.den_bop, BT.den_one, BT.den_cons, O.den_no, O.den_on, OT.den_no, OT.den_on, I.den_src, I.den_zip, I.den_rg1, I.den_rg2, S.den_set, S.den_ret, S.den_retN, S.den_run, S.den_pass, S.den_ifs, S.den_fr, S.den_put, Ss.den_nil, Ss.den_one, Ss.den_cons, Tg.den_nm, Tg.den_tp, Tgs.den_nil, Tgs.den_cons, Tgs.many, bind_ok, xLoc_0, xLoc_s, xC_eq, xBin_eq, x1_eq, xA_eq, xArg0_eq, xArgC_eq, xChn_eq, asB_eq, xB_eq, xTru_eq, xNotT_eq, xNot_eq, xIf_eq, bopC_eq, bopTC_eq, xSl_eq, xPart0_eq, xPart1_eq, asI_eq, xMeth_eq, xSrc_eq, xI_eq, xSet_eq, xRet_eq, xRetN_eq, xDo_eq, xPass_eq, xSeq_eq, xIfS_eq, xPut_eq, gNm_eq, gsNil_eq, gsCons_eq, addI, subI, gtI, ltI, leI, geI, eqI, neI, intI, intB, truV_bl, isStr_str, beq_tt, beq_ff, beq_tf, beq_ft, nt_t, nt_f, List.set_cons_zero, List.set_cons_succ, if_tt, if_ff, ↓reduceIte, negV_int, Bf.f, Mt.f, Mt.ty, tstV, disp_tbl, w1, l0, n1, l1, join_new (show (mkS a b).length ≤ 1000 by omega)]
/-! the product of two words -/
theorem sir_L {x y : Nat} (hx : isL x) (hy : isL y) : cmpV .In (.str [x, y]) (.tup [.str [89, 88], .str [90, 89], .str [88, 90]]) m = .ok (.bl (ris y x)) m := by
  rcases hx with rfl | rfl | rfl | rfl <;> rcases hy with rfl | rfl | rfl | rfl <;> rfl
theorem mkTup3 {x y z : MV} : mkTup [x, y, z] m = .ok (.tup [x, y, z]) m := rfl
theorem cnt_two {s : St} {i l j : Nat} {tup : X} (f : Nat → Nat → Bool) (hi : xLoc i s m = .ok (.ref l) m) (hl : m.get l = some (.lst (two a b))) (ha : a.length ≤ 1000)
    (hf : ∀ x y, (x, y) ∈ a.zip b → ∃ s1, gNm j (.str [x, y]) (wipeM s [j]) m = .ok s1 m ∧ xLoc j s1 m = .ok (.str [x, y]) m ∧ ∃ ts, tup s1 m = .ok (.tup ts) m ∧ cmpV .In (.str [x, y]) (.tup ts) m = .ok (.bl (f x y)) m) :
    xLc [j] (xSrc (xLoc i)) (gNm j) (some (xB (xBin (cmpV .In) (xLoc j) tup))) (xC (.int 1)) s m = .ok (.ref m.n) (m.push (.lst ((a.zip b).filterMap fun p => bif f p.1 p.2 then some (.int 1) else none))) := by
  refine lc_two (fun x y => bif f x y then some (.int 1) else none) hi hl ha fun x y hm => ?_
  obtain ⟨s1, h1, h2, ts, h3, h4⟩ := hf x y hm
  have ev : tstV (some (xB (xBin (cmpV .In) (xLoc j) tup))) s1 m = .ok (f x y) m := by
    simp only [E.den_loc, E.den_c, E.den_gc, E.den_bin, E.den_cmp, E.den_chn, E.den_bop, E.den_nt, E.den_neg, E.den_ife, E.den_tup, E.den_lst, E.den_ix, E.den_sl, E.den_call, E.den_blt, E.den_isi, E.den_mth, E.den_lc, E.den_dct, E.den_ifr, P.den_nil, P.den_cons, xPr0_eq, xPrC_eq, xDct_eq, L.den_nil, L.den_cons, B.den_one, B.den_cons, T.den_tru, T.den_cmp, T.den_chn, T.den_nt, T.den_bop, BT.den_one, BT.den_cons, O.den_no, O.den_on, OT.den_no, OT.den_on, I.den_src, I.den_zip, I.den_rg1, I.den_rg2, S.den_set, S.den_ret, S.den_retN, S.den_run, S.den_pass, S.den_ifs, S.den_fr, S.den_put, Ss.den_nil, Ss.den_one, Ss.den_cons, Tg.den_nm, Tg.den_tp, Tgs.den_nil, Tgs.den_cons, Tgs.many, bind_ok, xLoc_0, xLoc_s, xC_eq, xBin_eq, x1_eq, xA_eq, xArg0_eq, xArgC_eq, xChn_eq, asB_eq, xB_eq, xTru_eq, xNotT_eq, xNot_eq, xIf_eq, bopC_eq, bopTC_eq, xSl_eq, xPart0_eq, xPart1_eq, asI_eq, xMeth_eq, xSrc_eq, xI_eq, xSet_eq, xRet_eq, xRetN_eq, xDo_eq, xPass_eq, xSeq_eq, xIfS_eq, xPut_eq, gNm_eq, gsNil_eq, gsCons_eq, addI, subI, gtI, ltI, leI, geI, eqI, neI, intI, intB, truV_bl, isStr_str, beq_tt, beq_ff, beq_tf, beq_ft, nt_t, nt_f, List.set_cons_zero, List.set_cons_succ, if_tt, if_ff, ↓reduceIte, negV_int, Bf.f, Mt.f, Mt.ty, tstV, h2, h3, h4]
  cases e : f x y with
  | true =>
    rw [e] at ev
    exact ⟨s1, h1, ev, rfl⟩
  | false =>
    rw [e] at ev
    exact ⟨s1, h1, ev⟩
theorem sg_if {b : Bool} : (bif b then (1 : Int) else -1) = 1 ∨ (bif b then (1 : Int) else -1) = -1 := by cases b <;> simp
theorem pm_mul {s t : Int} (hs : s = 1 ∨ s = -1) (ht : t = 1 ∨ t = -1) : s * t = 1 ∨ s * t = -1 := by
  rcases hs with rfl | rfl <;> rcases ht with rfl | rfl <;> decide
theorem mul_pm {s t : Int} (hs : s = 1 ∨ s = -1) : binV .Mult (.int s) (.int t) m = .ok (.int (s * t)) m := mulI (.inl (by rcases hs with rfl | rfl <;> rfl))
theorem lprod_c {g gm : Nat} (e : tab[g]? = some (.df 2 8 (lprodIR gm))) (em : tab[gm]? = some (.df 2 7 lmadeIR)) {s t : Int} (hs : s = 1 ∨ s = -1) (ht : t = 1 ∨ t = -1) (hg : Gd m) (ha : ∀ c ∈ a, isL c) (hb : ∀ c ∈ b, isL c) (hl : a.length ≤ 4) :
    clN tab (k + 2) g [.tup [.int s, .str a], .tup [.int t, .str b]] m = .ok (.tup [.int (s * t * (bif plusB a b then 1 else -1)), .str (mkS a b)]) m := by
  rw [cl_df e]
  obtain ⟨h1, e1⟩ : ∃ z, z = m.enter.push (.lst (two a b)) := ⟨_, rfl⟩
  obtain ⟨h2, e2⟩ : ∃ z, z = h1.push (.lst ((a.zip b).filterMap fun p => bif ris p.1 p.2 then some (.int 1) else none)) := ⟨_, rfl⟩
  obtain ⟨h3, e3⟩ : ∃ z, z = h2.push (.lst ((a.zip b).filterMap fun p => bif ris p.2 p.1 then some (.int 1) else none)) := ⟨_, rfl⟩
  have g1 : Gd h1 := by rw [e1]; exact hg.enter.push
  have g2 : Gd h2 := by rw [e2]; exact g1.push
  have g3 : Gd h3 := by rw [e3]; exact g2.push
  refine call_rt rfl hg (m' := h3) ?_ (by rw [e3, e2, e1]; exact .push (.push (.push .refl))) (by rw [MV.under, MV.unders, MV.unders, MV.unders, under_int, under_str] <;> rfl)
  rw [show frameV 8 [MV.tup [.int s, .str a], MV.tup [.int t, .str b]] = [some (.tup [.int s, .str a]), some (.tup [.int t, .str b]), none, none, none, none, none, none] from rfl]
  have l0 := lc_two0 (m := m.enter) (a := a) (b := b) (vs := [5, 6]) (s := [some (.tup [.int s, .str a]), some (.tup [.int t, .str b]), none, none, none, none, none, none]) (i := 5) (j := 6) (ei := xBin ixV (xLoc 0) (xC (.int 1))) (ej := xBin ixV (xLoc 1) (xC (.int 1))) rfl rfl (by omega) fun x y => ⟨_, rfl, rfl, rfl⟩
  rw [← e1] at l0
  have gt1 : h1.get m.enter.n = some (.lst (two a b)) := by rw [e1]; exact get_push_same
  have gt2 : h2.get m.enter.n = some (.lst (two a b)) := by rw [e2, e1]; exact get_2
  have l1 := cnt_two (m := h1) (a := a) (b := b) (s := [some (.tup [.int s, .str a]), some (.tup [.int t, .str b]), some (.ref m.enter.n), none, none, none, none, none]) (i := 2) (l := m.enter.n) (j := 7) (tup := xA mkTup (xArgC (xC (.str [88, 89])) (xArgC (xC (.str [89, 90])) (xArgC (xC (.str [90, 88])) xArg0)))) ris rfl gt1 (by omega) fun x y hm => by
    obtain ⟨hx, hy⟩ := mem_zip_L ha hb hm
    exact ⟨_, rfl, rfl, _, rfl, ris_L hx hy⟩
  have l2 := cnt_two (m := h2) (a := a) (b := b) (s := [some (.tup [.int s, .str a]), some (.tup [.int t, .str b]), some (.ref m.enter.n), some (.int ((cntB ris a b : Nat) : Int)), none, none, none, none]) (i := 2) (l := m.enter.n) (j := 7) (tup := xA mkTup (xArgC (xC (.str [89, 88])) (xArgC (xC (.str [90, 89])) (xArgC (xC (.str [88, 90])) xArg0)))) (fun x y => ris y x) rfl gt2 (by omega) fun x y hm => by
    obtain ⟨hx, hy⟩ := mem_zip_L ha hb hm
    exact ⟨_, rfl, rfl, _, rfl, sir_L hx hy⟩
  rw [← e2] at l1
  rw [← e3] at l2
  have n1 : lenV [.ref h1.n] h2 = .ok (.int ((cntB ris a b : Nat) : Int)) h2 := by
    rw [len_lst (by rw [e2]; exact get_push_same), filt_len (a.zip b) ris (fun _ _ => .int 1)] <;> rfl
  have n2 : lenV [.ref h2.n] h3 = .ok (.int ((cntB (fun x y => ris y x) a b : Nat) : Int)) h3 := by
    rw [len_lst (by rw [e3]; exact get_push_same), filt_len (a.zip b) (fun x y => ris y x) (fun _ _ => .int 1)] <;> rfl
  have md : clN tab (k + 1) gm [.str a, .str b] h3 = .ok (.str (mkS a b)) h3 := lmade_c em g3 ha hb hl
  have q : ((cntB ris a b : Nat) : Int) - ((cntB (fun x y => ris y x) a b : Nat) : Int) = quaB a b := rfl
  have sg : (if plusB a b = true then (1 : Int) else -1) = bif plusB a b then 1 else -1 := by cases plusB a b <;> rfl
  simp only [lprodIR, E.den_loc, E.den_c, E.den_gc, E.den_bin, E.den_cmp, E.den_chn, E.den_bop, E.den_nt, E.den_neg, E.den_ife, E.den_tup, E.den_lst, E.den_ix, E.den_sl, E.den_call, E.den_blt, E.den_isi, E.den_mth, E.den_lc, E.den_dct, E.den_ifr, P.den_nil, P.den_cons, xPr0_eq, xPrC_eq, xDct_eq, L.den_nil, L.den_cons, B.den_one, B.den_cons, T.den_tru, T.den_cmp, T.den_chn, T.den_nt, T.den_bop, BT.den_one, BT.den_cons, O.den_no, O.den_on, OT.den_no, OT.den_on, I.den_src, I.den_zip, I.den_rg1, I.den_rg2, S.den_set, S.den_ret, S.den_retN, S.den_run, S.den_pass, S.den_ifs, S.den_fr, S.den_put, Ss.den_nil, Ss.den_one, Ss.den_cons, Tg.den_nm, Tg.den_tp, Tgs.den_nil, Tgs.den_cons, Tgs.many, bind_ok, xLoc_0, xLoc_s, xC_eq, xBin_eq, x1_eq, xA_eq, xArg0_eq, xArgC_eq, xChn_eq, asB_eq, xB_eq, xTru_eq, xNotT_eq, xNot_eq, xIf_eq, bopC_eq, bopTC_eq, xSl_eq, xPart0_eq, xPart1_eq, asI_eq, xMeth_eq, xSrc_eq, xI_eq, xSet_eq, xRet_eq, xRetN_eq, xDo_eq, xPass_eq, xSeq_eq, xIfS_eq, xPut_eq, gNm_eq, gsNil_eq, gsCons_eq, addI, subI, gtI, ltI, leI, geI, eqI, neI, intI, intB, truV_bl, isStr_str, beq_tt, beq_ff, beq_tf, beq_ft, nt_t, nt_f, List.set_cons_zero, List.set_cons_succ, if_tt, if_ff, ↓reduceIte, negV_int, Bf.f, Mt.f, Mt.ty, tstV, l0, l1, l2, n1, n2, q, ixT0, ixT1, mul_pm hs, mul_pm (pm_mul hs ht), modI (show (0 : Int) < 4 by decide), md]
  have hq : (quaB a b % 4 == 0) = plusB a b := rfl
  rw [hq]
  cases plusB a b <;> simp only [E.den_loc, E.den_c, E.den_gc, E.den_bin, E.den_cmp, E.den_chn, E.den_bop, E.den_nt, E.den_neg, E.den_ife, E.den_tup, E.den_lst, E.den_ix, E.den_sl, E.den_call, E.den_blt, E.den_isi, E.den_mth, E.den_lc, E.den_dct, E.den_ifr, P.den_nil, P.den_cons, xPr0_eq, xPrC_eq, xDct_eq, L.den_nil, L.den_cons, B.den_one, B.den_cons, T.den_tru, T.den_cmp, T.den_chn, T.den_nt, T.den_bop, BT.den_one, BT.den_cons, O.den_no, O.den_on, OT.den_no, OT.den_on, I.den_src, I.den_zip, I.den_rg1, I.den_rg2, S.den_set, S.den_ret, S.den_retN, S.den_run, S.den_pass, S.den_ifs, S.den_fr, S.den_put, Ss.den_nil, Ss.den_one, Ss.den_cons, Tg.den_nm, Tg.den_tp, Tgs.den_nil, Tgs.den_cons, Tgs.many, bind_ok, xLoc_0, xLoc_s, xC_eq, xBin_eq, x1_eq, xA_eq, xArg0_eq, xArgC_eq, xChn_eq, asB_eq, xB_eq, xTru_eq, xNotT_eq, xNot_eq, xIf_eq, bopC_eq, bopTC_eq, xSl_eq, xPart0_eq, xPart1_eq, asI_eq, xMeth_eq, xSrc_eq, xI_eq, xSet_eq, xRet_eq, xRetN_eq, xDo_eq, xPass_eq, xSeq_eq, xIfS_eq, xPut_eq, gNm_eq, gsNil_eq, gsCons_eq, addI, subI, gtI, ltI, leI, geI, eqI, neI, intI, intB, truV_bl, isStr_str, beq_tt, beq_ff, beq_tf, beq_ft, nt_t, nt_f, List.set_cons_zero, List.set_cons_succ, if_tt, if_ff, ↓reduceIte, negV_int, Bf.f, Mt.f, Mt.ty, tstV, mul_pm (pm_mul hs ht), ixT0, ixT1, md, mkTup2, cond_true, cond_false, if_neg Bool.false_ne_true]
/-! repr of a text, equal texts -/
def rpS (l : List Nat) : List Nat := (PyData.shown (.str ⟨l.toArray⟩)).cps.toList
theorem repr_str {l : List Nat} (h : l.length ≤ 1000) (hc : ∀ c ∈ l, c < 1000) : reprV [.str l] m = .ok (.str (rpS l)) m := by
  unfold reprV
  dsimp only
  have e1 : okM m 40 (.str l) = true := by
    show (l.all fun c => Nat.blt c 1114112) = true
    refine List.all_eq_true.mpr fun c h => ?_
    exact Nat.ble_eq_true_of_le (Nat.le_trans (hc c h) (by decide))
  have e2 : dat m 40 (.str l) = some (.str ⟨l.toArray⟩) := rfl
  rw [e1, e2]
  dsimp only
  have e3 : ((PyData.str ⟨l.toArray⟩).showable && Nat.ble (PyData.str ⟨l.toArray⟩).shown.length big) = true := by
    have := StrLaws.reprText_len ⟨l.toArray⟩ (fun c h => Nat.lt_of_lt_of_le (hc c (by simpa using h)) (by decide))
    have e : (⟨l.toArray⟩ : Str).length = l.length := List.size_toArray
    rw [e] at this
    show (true && Nat.ble (reprText ⟨l.toArray⟩).length big) = true
    rw [Bool.true_and]
    exact Nat.ble_eq_true_of_le (Nat.le_trans this (Nat.le_trans (show 10 * l.length + 2 ≤ 10002 by omega) (by decide)))
  rw [e3]
  rfl
def inW (c : Nat) : Prop := c = 45 ∨ isL c
theorem reprC {c : Nat} (h : inW c) : Builtin.Str.reprChar 39 c = [c] := by
  rcases h with rfl | rfl | rfl | rfl | rfl <;> decide +kernel
theorem fold_repr : ∀ (l : List Nat) (acc : Array Nat), (∀ c ∈ l, inW c) → (l.foldl (fun out c => out ++ (Builtin.Str.reprChar 39 c).toArray) acc).toList = acc.toList ++ l
  | [], acc, _ => by simp
  | c :: l, acc, h => by
    rw [List.foldl_cons, fold_repr l _ (fun x hx => h x (List.mem_cons_of_mem _ hx)), reprC (h c (List.mem_cons_self ..))]
    simp
theorem rpS_w {l : List Nat} (h : ∀ c ∈ l, inW c) : rpS l = 39 :: l ++ [39] := by
  have hq : reprQuote ⟨l.toArray⟩ = 39 := by
    unfold reprQuote
    have : (⟨l.toArray⟩ : Str).cps.contains 39 = false := by
      show l.toArray.contains 39 = false
      rw [List.contains_toArray]
      cases e : l.contains 39 with
      | false => rfl
      | true =>
        have := h 39 (List.contains_iff_mem.mp e)
        rcases this with h | h | h | h | h <;> cases h
    rw [this] <;> rfl
  unfold rpS
  show (reprText ⟨l.toArray⟩).cps.toList = _
  unfold reprText
  rw [hq]
  show (Array.push (Array.foldl (fun out c => out ++ (Builtin.Str.reprChar 39 c).toArray) #[39] l.toArray) 39).toList = _
  rw [Array.toList_push, ← Array.foldl_toList, fold_repr l _ h]
  simp
theorem inW_wd {n : Bool} (ha : ∀ c ∈ a, isL c) : ∀ c ∈ wd n a, inW c := fun c hc => by
  cases n with
  | true =>
    rcases List.mem_cons.mp hc with rfl | hc
    · exact .inl rfl
    · exact .inr (ha c hc)
  | false => exact .inr (ha c hc)
theorem eqS_S {p : List Nat} (h : ∀ c ∈ p, c < 1114112) : cmpV .Eq (.str p) (.str p) m = .ok (.bl true) m := by
  show optB (if (okM m 40 (.str p) && okM m 40 (.str p)) = true then some (eqM m 40 (.str p) (.str p)) else none) _ m = _
  have e1 : okM m 40 (.str p) = true := by
    show (p.all fun c => Nat.blt c 1114112) = true
    exact List.all_eq_true.mpr fun c hc => Nat.ble_eq_true_of_le (h c hc)
  have e2 : eqM m 40 (.str p) (.str p) = true := by
    show (p == p) = true
    exact beq_self_eq_true _
  rw [e1, e2] <;> rfl
theorem neS_S {p : List Nat} (h : ∀ c ∈ p, c < 1114112) : cmpV .NotEq (.str p) (.str p) m = .ok (.bl false) m := by
  show optB (if (okM m 40 (.str p) && okM m 40 (.str p)) = true then some (eqM m 40 (.str p) (.str p)) else none) _ m = _
  have e1 : okM m 40 (.str p) = true := by
    show (p.all fun c => Nat.blt c 1114112) = true
    exact List.all_eq_true.mpr fun c hc => Nat.ble_eq_true_of_le (h c hc)
  have e2 : eqM m 40 (.str p) (.str p) = true := by
    show (p == p) = true
    exact beq_self_eq_true _
  rw [e1, e2] <;> rfl
theorem wd_small {n : Bool} (ha : ∀ c ∈ a, isL c) : ∀ c ∈ wd n a, c < 1000 := fun c hc => by
  have h : ∀ c ∈ a, c < 1000 := fun c hc => by
    rcases ha c hc with rfl | rfl | rfl | rfl <;> decide
  cases n with
  | true =>
    rcases List.mem_cons.mp hc with rfl | hc
    · decide
    · exact h c hc
  | false => exact h c hc
end
end
end Dv
/-! CT: the last line of a law; walks over lists of the heap; lists joined. -/
namespace Dv
noncomputable section
open PySem L2 PyProof.Rows
section
variable {Ew : Nat → MV → MH → Prop}
/-- a comprehension over a list of the heap that stays as it is -/
theorem lcV_invL {g : XG} {t : XB} {e : X} {s : St} {a : Nat} {xs : List MV} (I : Nat → List MV → MH → Prop) : ∀ (d j k : Nat) (acc : List MV) (m : MH), xs.length = j + d → d < k → m.get a = some (.lst xs) → I j acc m →
    (∀ (i : Nat) (x : MV), xs[i]? = some x → ∀ ys m, m.get a = some (.lst xs) → I i ys m → (g x s m).HA (fun s1 m1 => (t s1 m1).HA (fun b m2 => b = true ∧ (e s1 m2).HA (fun y m3 => m3.get a = some (.lst xs) ∧ I (i + 1) (ys ++ [y]) m3) Ew) Ew) Ew) →
    (lcV g t e s k (.liv a j) m).HA (fun ys m' => I xs.length (acc ++ ys) m') Ew
  | d, j, 0, _, _, _, hk, _, _, _ => absurd hk (Nat.not_lt_zero _)
  | 0, j, k + 1, acc, m, hl, _, hm, hi, _ => by
    have hst : (Src.liv a j).step m = .done := by
      unfold Src.step
      rw [hm]
      dsimp only
      rw [List.getElem?_eq_none (by omega)]
      dsimp only
      rw [if_pos (by omega)]
    rw [lcV_succ, hst]
    refine all_ok ?_
    rw [List.append_nil, hl, Nat.add_zero]
    exact hi
  | d + 1, j, k + 1, acc, m, hl, hk, hm, hi, hs => by
    have hj : j < xs.length := by omega
    have hst : (Src.liv a j).step m = .it xs[j] (.liv a (j + 1)) := by
      unfold Src.step
      rw [hm]
      dsimp only
      rw [List.getElem?_eq_getElem hj]
    rw [lcV_succ, hst]
    show R.HA ((g xs[j] s m).bind _) _ _
    refine all_seq (hs j xs[j] (List.getElem?_eq_getElem hj) acc m hm hi) fun s1 m1 h1 => all_seq h1 fun b m2 h2 => ?_
    obtain ⟨rfl, h2⟩ := h2
    refine all_seq h2 fun y m3 h3 => all_seq (lcV_invL I d (j + 1) k (acc ++ [y]) m3 (by omega) (Nat.lt_of_succ_lt_succ hk) h3.1 h3.2 hs) fun ys m4 h4 => ?_
    refine all_ok ?_
    show I _ (acc ++ (y :: ys)) m4
    rw [List.append_assoc] at h4
    exact h4
theorem lc_invL {vs : List Nat} {src : XI} {g : XG} {t : Option XB} {e : X} {s : St} {m m1 : MH} {a : Nat} {xs : List MV} (I : Nat → List MV → MH → Prop) (hs : src s m = .ok (.liv a 0) m1) (hm : m1.get a = some (.lst xs)) (hz : xs.length + 1 ≤ big) (h0 : I 0 [] m1)
    (h : ∀ (i : Nat) (x : MV), xs[i]? = some x → ∀ ys m, m.get a = some (.lst xs) → I i ys m → (g x (wipeM s vs) m).HA (fun s1 m1 => (tstV t s1 m1).HA (fun b m2 => b = true ∧ (e s1 m2).HA (fun y m3 => m3.get a = some (.lst xs) ∧ I (i + 1) (ys ++ [y]) m3) Ew) Ew) Ew) :
    (xLc vs src g t e s m).HA (fun v m' => ∃ ys m2, I xs.length ys m2 ∧ v = .ref m2.n ∧ m' = m2.push (.lst ys)) Ew := by
  have e1 : (Src.liv a 0).size m1 = xs.length := by
    unfold Src.size
    rw [hm]
  unfold xLc
  rw [hs, bind_ok, e1, Nat.ble_eq_true_of_le hz]
  dsimp only
  refine all_seq (lcV_invL I xs.length 0 (xs.length + 1) [] m1 (by omega) (Nat.lt_succ_self _) hm h0 h) fun ys m2 h2 => ?_
  exact all_ok ⟨ys, m2, h2, rfl, rfl⟩
end
theorem addL {m : MH} {i j : Nat} {xs ys : List MV} (hi : m.get i = some (.lst xs)) (hj : m.get j = some (.lst ys)) (hz : xs.length + ys.length ≤ 1000000) : binV .Add (.ref i) (.ref j) m = .ok (.ref m.n) (m.push (.lst (xs ++ ys))) := by
  unfold binV lstAt
  dsimp only
  rw [hi, hj]
  dsimp only
  rw [if_pos (leB hz)] <;> rfl
theorem src_lst {m : MH} {i : Nat} {xs : List MV} (hi : m.get i = some (.lst xs)) : srcV (.ref i) m = .ok (.liv i 0) m := by
  unfold srcV
  dsimp only
  rw [hi]
/-- heaps as long as m or longer, whose levels are m's -/
structure Mx (m m' : MH) : Prop where
  lo : m'.lo = m.lo
  gd : Gd m'
theorem bools_tt : ∀ n : Nat, bools (List.replicate n (.bl true)) = some (List.replicate n true)
  | 0 => rfl
  | n + 1 => by
    rw [List.replicate_succ, bools, bools_tt n] <;> rfl
theorem all_tt {m : MH} {n : Nat} : allV (fun bs => bs.all id) [.ref m.n] (m.push (.lst (List.replicate n (.bl true)))) = .ok (.bl true) (m.push (.lst (List.replicate n (.bl true)))) := by
  unfold allV
  dsimp only
  rw [get_push_same]
  dsimp only
  rw [bools_tt]
  dsimp only
  rw [show (List.replicate n true).all id = true from by
    induction n with
    | zero => rfl
    | succ n ih => rw [List.replicate_succ, List.all_cons, ih] <;> rfl]
/-- the last line of a law -/
theorem law_tail {tab : List Ent} {k gr gp gc j : Nat} {lim : Nat} {s : St} {m : MH} (er : tab[gr]? = some (.sp 1 rightV)) (ep : tab[gp]? = some (.sp 2 potV)) (ec : tab[gc]? = some (.sp 2 cellsV)) (hl : 0 < lim) (hl2 : lim < 64) (hg : Gd m) (h0 : xLoc 0 s m = .ok .scr m)
    (hs : ∀ x m, ∃ s1, gNm j x (wipeM s [j]) m = .ok s1 m ∧ xLoc 0 s1 m = .ok .scr m ∧ xLoc j s1 m = .ok x m) :
    (xA (allV fun bs => bs.all id) (xArgC (xLc [j] (xSrc (xA (clN tab (k + 1) gc) (xArgC (xLoc 0) (xArgC (xC (.int (lim : Int))) xArg0)))) (gNm j) Option.none (xA (clN tab (k + 1) gr) (xArgC (xA (clN tab (k + 1) gp) (xArgC (xLoc 0) (xArgC (xLoc j) xArg0))) xArg0))) xArg0) s m).HA (fun v m' => v = .bl true ∧ m'.lo = m.lo) fun _ _ _ => False := by
  have hc : clN tab (k + 1) gc [.scr, .int (lim : Int)] m = .cho lim fun i => .ok (.ref m.n) (m.push (.lst (rngL 0 (i + 1)))) := by
    rw [cl_sp ec]
    unfold cellsV
    dsimp only
    rw [decide_eq_true (show (0 : Int) < (lim : Int) by omega), decide_eq_true (show (lim : Int) < 64 by omega)]
    rfl
  rw [xA_eq, xArgC_eq]
  refine all_seq (Q := fun xs m' => ∃ (n : Nat) (m2 : MH), xs = [.ref m2.n] ∧ m' = m2.push (.lst (List.replicate n (.bl true))) ∧ m2.lo = m.lo) ?_ fun xs m1 h => ?_
  · have src : xSrc (xA (clN tab (k + 1) gc) (xArgC (xLoc 0) (xArgC (xC (.int (lim : Int))) xArg0))) s m = .cho lim fun i => .ok (.liv m.n 0) (m.push (.lst (rngL 0 (i + 1)))) := by
      have h00 : xLoc 0 s m = .ok .scr m := h0
      rw [xSrc_eq, xA_eq, xArgC_eq, h00, bind_ok, xArgC_eq, xC_eq, bind_ok, xArg0_eq, bind_ok, bind_ok, bind_ok, hc, bind_cho]
      congr 1
      funext i
      rw [bind_ok, src_lst get_push_same]
    unfold xLc
    rw [src, bind_cho, bind_cho]
    refine all_cho fun i hi => ?_
    have key : (xLc [j] (fun s1 m1 => .ok (.liv m.n 0) (m.push (.lst (rngL 0 (i + 1))))) (gNm j) Option.none (xA (clN tab (k + 1) gr) (xArgC (xA (clN tab (k + 1) gp) (xArgC (xLoc 0) (xArgC (xLoc j) xArg0))) xArg0)) s m).HA (fun v m' => ∃ (ys : List MV) (m2 : MH), (ys = List.replicate (rngL 0 (i + 1)).length (.bl true) ∧ Mx m m2) ∧ v = .ref m2.n ∧ m' = m2.push (.lst ys)) fun _ _ _ => False := by
      refine lc_invL (a := m.n) (xs := rngL 0 (i + 1)) (m1 := m.push (.lst (rngL 0 (i + 1)))) (fun q ys m' => ys = List.replicate q (.bl true) ∧ Mx m m') rfl get_push_same (by rw [rngL_length]; exact Nat.le_trans (show i + 1 + 1 ≤ 100 by omega) (by decide)) ⟨rfl, rfl, hg.push⟩ ?_
      rintro q x hx ys m1 hm1 ⟨rfl, hlo, hgd⟩
      have hq := (List.getElem?_eq_some_iff.mp hx).1
      rw [rngL_length] at hq
      have := rngL_get _ _ _ _ hx
      subst this
      obtain ⟨s1, e1, e2, e3⟩ := hs (.int (0 + (q : Int))) m1
      rw [e1]
      refine all_ok (all_ok ⟨rfl, ?_⟩)
      have hp : clN tab (k + 1) gp [.scr, .int (0 + (q : Int))] m1 = .ok (.ref m1.n) (m1.push (.pot 0)) := by
        rw [cl_sp ep]
        unfold potV
        dsimp only
        rw [decide_eq_true (show (0 : Int) ≤ 0 + (q : Int) by omega), decide_eq_true (show (0 : Int) + (q : Int) < 64 by omega)]
        rfl
      have hr : clN tab (k + 1) gr [.ref m1.n] (m1.push (.pot 0)) = .ok (.bl true) ((m1.push (.pot 0)).wr m1.n .gone .non) := by
        rw [cl_sp er]
        unfold rightV
        dsimp only
        rw [get_push_same]
        rfl
      have hw : (m1.push (.pot 0)).wr m1.n .gone .non = m1.push .gone := wr_new hgd fun n => under_non
      rw [xA_eq, xArgC_eq, xA_eq, xArgC_eq, e2, bind_ok, xArgC_eq, e3, bind_ok, xArg0_eq, bind_ok, bind_ok, bind_ok, hp, bind_ok, xArg0_eq, bind_ok, bind_ok, hr, hw]
      refine all_ok ⟨?_, ?_, hlo, hgd.push⟩
      · rw [get_push_old (get_lt hm1)]
        exact hm1
      · rw [List.replicate_succ']
    refine all_bind ?_
    refine (show R.HA _ _ _ from key).mono (fun v m' h => ?_) fun _ _ _ h => h
    obtain ⟨ys, m2, ⟨rfl, hx⟩, rfl, rfl⟩ := h
    rw [xArg0_eq, bind_ok]
    exact all_ok ⟨_, m2, rfl, rfl, hx.lo⟩
  · obtain ⟨n, m2, rfl, rfl, h⟩ := h
    rw [all_tt]
    exact all_ok ⟨rfl, h⟩
end
end Dv
/-! C2: functions that hand back a new list. -/
namespace Dv
noncomputable section
open PySem L2 PyProof.Rows
theorem under_ref {n i : Nat} (h : n ≤ i) : MV.under n (.ref i) = false := by
  rw [MV.under]
  cases e : Nat.blt i n with
  | false => rfl
  | true => exact absurd (Nat.le_of_ble_eq_true (show Nat.ble (i + 1) n = true from e)) (by omega)
theorem cut_grow {m m' : MH} (h : Gd m) (g : Grow m.enter m') : m'.cut m.n = m := by
  have e := fin_grow h g (under_non (n := m.n))
  obtain ⟨xs, rfl⟩ := g.form
  rw [fin_in (ls := m.lo) rfl under_non] at e
  injection e
/-- a new object handed back: it stands next to the old ones, all else is gone -/
theorem fin_new {m m' : MH} {i : Nat} {o : MO} (h : Gd m) (g : Grow m.enter m') (hi : m.n ≤ i) (ho : m'.get i = some o) (hu : o.under m.n = true) : fin m.n (.ref i) m' = .ok (.ref m.n) (m.push o) := by
  have hc := cut_grow h g
  have hl : m'.lo = m.n :: m.lo := by
    obtain ⟨xs, rfl⟩ := g.form
    rfl
  unfold fin
  rw [hl]
  dsimp only
  rw [Nat.beq_refl]
  dsimp only
  rw [under_ref hi]
  dsimp only
  rw [ho]
  dsimp only
  rw [hu, hc]
theorem call_new {m m' : MH} {np ns i : Nat} {b : XZ} {xs : List MV} {o : MO} (hl : xs.length = np) (h : Gd m) (e : b (frameV ns xs) m.enter = .ok (.rt (.ref i)) m') (g : Grow m.enter m') (hi : m.n ≤ i) (ho : m'.get i = some o) (hu : o.under m.n = true) : callD np ns b xs m = .ok (.ref m.n) (m.push o) := by
  rw [callD_eq hl, e, callR_rt, fin_new h g hi ho hu]
/-! ### heaps whose old objects stand -/
structure Ext (m m' : MH) : Prop where
  lo : m'.lo = m.lo
  le : m.n ≤ m'.n
  os : m'.os.drop (m'.n - m.n) = m.os
  len : m'.os.length = m'.n
  sc : m'.sc = m.sc
section
variable {m m' : MH}
theorem Ext.refl (h : Gd m) : Ext m m := ⟨rfl, Nat.le_refl _, by rw [Nat.sub_self, List.drop_zero], h.len, rfl⟩
theorem Ext.push (e : Ext m m') {o : MO} : Ext m (m'.push o) := ⟨e.lo, Nat.le_succ_of_le e.le, by
  have := e.le
  show (o :: m'.os).drop (m'.n + 1 - m.n) = m.os
  rw [show m'.n + 1 - m.n = (m'.n - m.n) + 1 by omega, List.drop_succ_cons, e.os], congrArg Nat.succ e.len, e.sc⟩
theorem Ext.gd (e : Ext m m') (h : Gd m) : Gd m' := ⟨fun l hl => Nat.le_trans (h.lo l (by rw [← e.lo]; exact hl)) e.le, e.len⟩
theorem Ext.get (e : Ext m m') {j : Nat} (hj : j < m.n) : m'.get j = m.get j := by
  have := e.le
  unfold MH.get
  rw [if_pos (by omega), if_pos hj, ← e.os, List.getElem?_drop]
  congr 1
  omega
theorem Ext.wr (e : Ext m m') (h : Gd m) {i : Nat} (hi : m.n ≤ i) (hi2 : i < m'.n) {o : MO} {v : MV} : Ext m (m'.wr i o v) where
  lo := by
    rw [wr_lo, e.lo]
    conv => rhs; rw [← List.map_id m.lo]
    refine List.map_congr_left fun l hl => ?_
    have : Nat.blt i l = false := by
      cases q : Nat.blt i l with
      | false => rfl
      | true => exact absurd (Nat.le_of_ble_eq_true (show Nat.ble (i + 1) l = true from q)) (by have := h.lo l hl; omega)
    rw [this] <;> rfl
  le := e.le
  os := by
    show (m'.os.set (m'.n - 1 - i) o).drop (m'.n - m.n) = m.os
    rw [List.drop_set_of_lt (by omega), e.os]
  len := by show (m'.os.set _ _).length = m'.n; rw [List.length_set, e.len]
  sc := e.sc
theorem Ext.trans {m2 : MH} (e : Ext m m') (f : Ext m' m2) : Ext m m2 where
  lo := f.lo.trans e.lo
  le := Nat.le_trans e.le f.le
  os := by
    have := e.le
    have := f.le
    rw [← e.os, ← f.os, List.drop_drop]
    congr 1
    omega
  len := f.len
  sc := f.sc.trans e.sc
theorem cut_ext (h : Gd m) (e : Ext m.enter m') : m'.cut m.n = m := by
  obtain ⟨n', lo', os', sc'⟩ := m'
  obtain ⟨h1, h2, h3, h4, h5⟩ := e
  have k1 : lo' = m.n :: m.lo := h1
  have k3 : os'.drop (n' - m.n) = m.os := h3
  have k5 : sc' = m.sc := h5
  show (⟨m.n, capL m.n lo'.tail, os'.drop (n' - m.n), sc'⟩ : MH) = m
  rw [k3, k1, k5]
  show (⟨m.n, capL m.n m.lo, m.os, m.sc⟩ : MH) = m
  rw [capL_eq h.lo]
theorem fin_ext {v : MV} (h : Gd m) (e : Ext m.enter m') (hv : v.under m.n = true) : fin m.n v m' = .ok v m := by
  rw [fin_in (ls := m.lo) e.lo hv, cut_ext h e]
theorem fin_newE {i : Nat} {o : MO} (h : Gd m) (e : Ext m.enter m') (hi : m.n ≤ i) (ho : m'.get i = some o) (hu : o.under m.n = true) : fin m.n (.ref i) m' = .ok (.ref m.n) (m.push o) := by
  unfold fin
  rw [show m'.lo = m.n :: m.lo from e.lo]
  dsimp only
  rw [Nat.beq_refl]
  dsimp only
  rw [under_ref hi]
  dsimp only
  rw [ho]
  dsimp only
  rw [hu, cut_ext h e]
theorem call_rtE {np ns : Nat} {b : XZ} {xs : List MV} {v : MV} (hl : xs.length = np) (h : Gd m) (e : b (frameV ns xs) m.enter = .ok (.rt v) m') (g : Ext m.enter m') (hv : v.under m.n = true) : callD np ns b xs m = .ok v m := by
  rw [callD_eq hl, e, callR_rt, fin_ext h g hv]
theorem call_newE {np ns i : Nat} {b : XZ} {xs : List MV} {o : MO} (hl : xs.length = np) (h : Gd m) (e : b (frameV ns xs) m.enter = .ok (.rt (.ref i)) m') (g : Ext m.enter m') (hi : m.n ≤ i) (ho : m'.get i = some o) (hu : o.under m.n = true) : callD np ns b xs m = .ok (.ref m.n) (m.push o) := by
  rw [callD_eq hl, e, callR_rt, fin_newE h g hi ho hu]
end
end
end Dv
/-! ### the law law_k06_whole_words_as_what_they_do -/
namespace Lw
noncomputable section
open PySem L2 PyProof.Rows Dv
abbrev pr : Program := PySem.Challenge.pw_roundfaults_k06_whole_words_as_what_they
def st (i : Nat) : Stmt := pr.main.body.getD i (.Pass ⟨0, 0, 0, 0⟩)
def dd (i : Nat) : He.DefD := stD (st i)
def fnL : List He.DefD := dd 13 :: dd 14 :: dd 15 :: dd 16 :: dd 17 :: dd 18 :: dd 19 :: dd 20 :: dd 21 :: dd 22 :: dd 23 :: dd 24 :: dd 25 :: dd 28 :: dd 34 :: dd 36 :: dd 32 :: dd 33 :: dd 35 :: dd 37 :: dd 30 :: dd 29 :: dd 38 :: dd 27 :: dd 31 :: dd 39 :: []
def frL : List Str := ("abs" : Str) :: ("all" : Str) :: ("int" : Str) :: ("isinstance" : Str) :: ("len" : Str) :: ("list" : Str) :: ("max" : Str) :: ("min" : Str) :: ("range" : Str) :: ("repr" : Str) :: ("str" : Str) :: ("tuple" : Str) :: ("zip" : Str) :: []
def faL : List He.Fa := .glo "is_letters" :: .glo "is_word" :: .glo "bare" :: .glo "sign_in" :: .glo "word_of" :: .glo "check_two" :: .glo "do_pass" :: .glo "made_letter" :: .glo "made" :: .glo "quarters" :: .glo "made_sign" :: .glo "passes" :: .glo "times" :: .glo "_law_take" :: .glo "_law_all_bits" :: .glo "_law_word_in" :: .glo "_law_word_text" :: .glo "_law_done" :: .glo "_law_both_done" :: .glo "_law_is_pair_right" :: .glo "_law_of" :: .glo "_law_drawn_word" :: .glo "_law_right" :: .glo "_law_pot" :: .glo "_law_cells" :: .glo "law" :: .free "abs" :: .free "all" :: .free "int" :: .free "isinstance" :: .free "len" :: .free "list" :: .free "max" :: .free "min" :: .free "range" :: .free "repr" :: .free "str" :: .free "tuple" :: .free "zip" :: []
def gvL : List (Str × MV) := ("MINUS", .str [45]) :: ("MOST_WIRES", .int 4) :: ("SIGNS", .str [73, 88, 89, 90]) :: ("NONE", .str [73]) :: ("PAIR", .int 2) :: ("FOUR", .int 4) :: ("RISING", .tup [.str [88, 89], .str [89, 90], .str [90, 88]]) :: []
def b__law_take : Ss := (.cons (.ifs (.cmp .Gt (.ix (.loc 0) (.c (.int 0))) (.c (.int 0))) (.cons (.set (.bin .Mod (.blt .int (.cons (.ix (.loc 0) (.c (.int 0))) .nil)) (.loc 1)) (.nm 4)) (.cons (.put (.loc 0) (.c (.int 0)) (.bin .FloorDiv (.ix (.loc 0) (.c (.int 0))) (.loc 1))) (.one (.ret (.loc 4))))) .nil) (.cons (.put (.loc 0) (.c (.int 2)) (.bin .Add (.ix (.loc 0) (.c (.int 2))) (.c (.int 1)))) (.cons (.set (.ix (.lst (.cons (.c (.int 2147483647)) (.cons (.c (.int 2147483629)) (.cons (.c (.int 2147483587)) (.cons (.c (.int 2147483579)) (.cons (.c (.int 2147483563)) .nil)))))) (.bin .Mod (.blt .int (.cons (.ix (.loc 0) (.c (.int 2))) .nil)) (.c (.int 5)))) (.nm 2)) (.cons (.set (.bin .Mod (.blt .int (.cons (.bin .Pow (.blt .int (.cons (.bin .Add (.bin .Add (.ix (.loc 0) (.c (.int 1))) (.bin .Mult (.bin .Mult (.c (.int 93229)) (.ix (.loc 0) (.c (.int 2)))) (.ix (.loc 0) (.c (.int 2))))) (.c (.int 143))) .nil)) (.c (.int 3))) .nil)) (.loc 2)) (.nm 3)) (.one (.ret (.bin .Mod (.blt .int (.cons (.bin .FloorDiv (.bin .Mult (.loc 3) (.bin .Add (.bin .Mod (.blt .int (.cons (.loc 3) .nil)) (.c (.int 10109))) (.bin .Mult (.c (.int 137)) (.ix (.loc 0) (.c (.int 2)))))) (.c (.int 149))) .nil)) (.loc 1))))))))
abbrev f__law_take : Ent := .df 2 5 b__law_take
def b__law_all_bits : Ss := (.cons (.set (.lst (.cons (.tup .nil) .nil)) (.nm 1)) (.cons (.fr (.rg1 (.cons (.loc 0) .nil)) (.nm 2) (.one (.set (.bin .Add (.lc [3] (.src (.loc 1)) (.nm 3) .no (.bin .Add (.loc 3) (.tup (.cons (.c (.int 0)) .nil)))) (.lc [3] (.src (.loc 1)) (.nm 3) .no (.bin .Add (.loc 3) (.tup (.cons (.c (.int 1)) .nil))))) (.nm 1)))) (.one (.ret (.loc 1)))))
abbrev f__law_all_bits : Ent := .df 1 4 b__law_all_bits
def b__law_word_in : Ss := (.one (.ret (.ife (.cmp .Eq (.sl (.loc 0) .no (.on (.c (.int 1)))) (.c (.str [45]))) (.tup (.cons (.neg (.c (.int 1))) (.cons (.sl (.loc 0) (.on (.c (.int 1))) .no) .nil))) (.tup (.cons (.c (.int 1)) (.cons (.loc 0) .nil))))))
abbrev f__law_word_in : Ent := .df 1 1 b__law_word_in
def b__law_word_text : Ss := (.one (.ret (.bin .Add (.bin .Mult (.c (.str [45])) (.blt .int (.cons (.cmp .Lt (.ix (.loc 0) (.c (.int 0))) (.c (.int 0))) .nil))) (.ix (.loc 0) (.c (.int 1))))))
abbrev f__law_word_text : Ent := .df 1 1 b__law_word_text
def b__law_done : Ss := (.cons (.set (.bin .Add (.loc 1) (.ife (.cmp .Gt (.ix (.loc 0) (.c (.int 0))) (.c (.int 0))) (.c (.int 0)) (.c (.int 2)))) (.nm 1)) (.cons (.set (.lst .nil) (.nm 3)) (.cons (.fr (.zip (.cons (.ix (.loc 0) (.c (.int 1))) (.cons (.loc 2) .nil))) (.tp (.cons (.nm 4) (.cons (.nm 5) .nil))) (.cons (.set (.bin .Add (.loc 1) (.ix (.dct (.cons (.c (.str [73])) (.c (.int 0)) (.cons (.c (.str [88])) (.c (.int 0)) (.cons (.c (.str [89])) (.bin .Add (.c (.int 1)) (.bin .Mult (.c (.int 2)) (.loc 5))) (.cons (.c (.str [90])) (.bin .Mult (.c (.int 2)) (.loc 5)) .nil))))) (.loc 4))) (.nm 1)) (.one (.run (.mth .app (.loc 3) (.cons (.ife (.cmp .In (.loc 4) (.c (.str [88, 89]))) (.bin .Sub (.c (.int 1)) (.loc 5)) (.loc 5)) .nil)))))) (.one (.ret (.tup (.cons (.bin .Mod (.loc 1) (.c (.int 4))) (.cons (.blt .tuple (.cons (.loc 3) .nil)) .nil))))))))
abbrev f__law_done : Ent := .df 3 6 b__law_done
def b__law_both_done : Ss := (.cons (.set (.call 29 (.cons (.loc 1) (.cons (.c (.int 0)) (.cons (.loc 2) .nil)))) (.tp (.cons (.nm 3) (.cons (.nm 4) .nil)))) (.one (.ret (.call 29 (.cons (.loc 0) (.cons (.loc 3) (.cons (.loc 4) .nil)))))))
abbrev f__law_both_done : Ent := .df 3 5 b__law_both_done
def b__law_is_pair_right : Ss := (.cons (.set (.tup (.cons (.call 28 (.cons (.loc 0) .nil)) (.cons (.call 28 (.cons (.loc 1) .nil)) .nil))) (.tp (.cons (.nm 5) (.cons (.nm 6) .nil)))) (.cons (.set (.call 26 (.cons (.blt .len (.cons (.ix (.loc 0) (.c (.int 1))) .nil)) .nil)) (.nm 2)) (.cons (.set (.blt .all (.cons (.lc [7] (.src (.loc 2)) (.nm 7) .no (.cmp .Eq (.call 30 (.cons (.loc 0) (.cons (.loc 1) (.cons (.loc 7) .nil)))) (.call 30 (.cons (.loc 1) (.cons (.loc 0) (.cons (.loc 7) .nil)))))) .nil)) (.nm 3)) (.cons (.ifs (.cmp .NotEq (.blt .repr (.cons (.call 22 (.cons (.loc 5) (.cons (.loc 6) .nil))) .nil)) (.blt .repr (.cons (.loc 3) .nil))) (.one (.ret (.c (.bl false)))) .nil) (.cons (.ifs (.nt (.tru (.loc 3))) (.one (.ret (.c (.bl true)))) .nil) (.cons (.set (.call 27 (.cons (.call 23 (.cons (.loc 5) (.cons (.loc 6) .nil))) .nil)) (.nm 4)) (.one (.ret (.blt .all (.cons (.lc [7] (.src (.loc 2)) (.nm 7) .no (.cmp .Eq (.call 29 (.cons (.loc 4) (.cons (.c (.int 0)) (.cons (.loc 7) .nil)))) (.call 30 (.cons (.loc 0) (.cons (.loc 1) (.cons (.loc 7) .nil)))))) .nil))))))))))
abbrev f__law_is_pair_right : Ent := .df 2 8 b__law_is_pair_right
def b__law_of : Ss := (.one (.ret (.ix (.loc 1) (.call 25 (.cons (.loc 0) (.cons (.blt .len (.cons (.loc 1) .nil)) .nil))))))
abbrev f__law_of : Ent := .df 2 2 b__law_of
def b__law_drawn_word : Ss := (.cons (.set (.mth .join (.c (.str [])) (.cons (.lc [3] (.rg1 (.cons (.loc 1) .nil)) (.nm 3) .no (.call 32 (.cons (.loc 0) (.cons (.lst (.cons (.c (.str [73])) (.cons (.c (.str [73])) (.cons (.c (.str [88])) (.cons (.c (.str [89])) (.cons (.c (.str [90])) .nil)))))) .nil)))) .nil)) (.nm 2)) (.one (.ret (.tup (.cons (.call 32 (.cons (.loc 0) (.cons (.lst (.cons (.c (.int 1)) (.cons (.c (.int 1)) (.cons (.neg (.c (.int 1))) .nil)))) .nil))) (.cons (.loc 2) .nil))))))
abbrev f__law_drawn_word : Ent := .df 2 4 b__law_drawn_word
def b__law_right : Ss := (.cons (.set (.bin .Add (.c (.int 1)) (.call 25 (.cons (.loc 0) (.cons (.c (.int 4)) .nil)))) (.nm 1)) (.cons (.fr (.rg1 (.cons (.c (.int 10)) .nil)) (.nm 2) (.one (.ifs (.nt (.tru (.call 31 (.cons (.call 33 (.cons (.loc 0) (.cons (.loc 1) .nil))) (.cons (.call 33 (.cons (.loc 0) (.cons (.loc 1) .nil))) .nil))))) (.one (.ret (.c (.bl false)))) .nil))) (.one (.ret (.c (.bl true))))))
abbrev f__law_right : Ent := .df 1 3 b__law_right
def b__law_pot : Ss := (.cons (.set (.ife (.cmp .Lt (.loc 1) (.blt .len (.cons (.loc 0) .nil))) (.ix (.loc 0) (.loc 1)) (.bin .Add (.bin .Mult (.c (.int 109)) (.loc 1)) (.c (.int 275)))) (.nm 2)) (.cons (.set (.bin .Mult (.bin .Mod (.blt .int (.cons (.blt .abs (.cons (.loc 2) .nil)) .nil)) (.bin .Pow (.bin .Pow (.c (.int 10)) (.c (.int 60))) (.c (.int 5)))) (.blt .int (.cons (.cmp .GtE (.blt .abs (.cons (.loc 2) .nil)) (.bin .Pow (.c (.int 10)) (.c (.int 18)))) .nil))) (.nm 3)) (.cons (.set (.bin .Mod (.blt .int (.cons (.loc 2) .nil)) (.c (.int 2305843009213693951))) (.nm 4)) (.one (.ret (.lst (.cons (.loc 3) (.cons (.bin .Mod (.blt .int (.cons (.bin .Add (.bin .Add (.bin .Mult (.loc 4) (.c (.int 73813))) (.bin .Mult (.bin .Mult (.c (.int 7589)) (.loc 1)) (.loc 1))) (.c (.int 239))) .nil)) (.c (.int 2305843009213693921))) (.cons (.c (.int 0)) .nil)))))))))
abbrev f__law_pot : Ent := .df 2 5 b__law_pot
def b__law_cells : Ss := (.one (.ret (.lr1 (.blt .max (.cons (.c (.int 1)) (.cons (.blt .min (.cons (.loc 1) (.cons (.blt .len (.cons (.loc 0) .nil)) .nil))) .nil))))))
abbrev f__law_cells : Ent := .df 2 2 b__law_cells
def b_law : Ss := (.one (.ret (.blt .all (.cons (.lc [1] (.src (.call 36 (.cons (.loc 0) (.cons (.c (.int 6)) .nil)))) (.nm 1) .no (.call 34 (.cons (.call 35 (.cons (.loc 0) (.cons (.loc 1) .nil))) .nil))) .nil))))
abbrev f_law : Ent := .df 1 2 b_law
def enA : List En := ("", 0, e0) :: ("", 0, e1) :: ("", 0, e2) :: ("", 0, e3) :: ("", 0, e4) :: ("", 0, e5) :: ("", 0, e6) :: ("is_letters", 1, e7) :: ("is_word", 1, e8) :: ("bare", 1, e9) :: ("sign_in", 1, e10) :: ("word_of", 2, e11) :: ("check_two", 2, e12) :: ("", 0, e13) :: ("", 0, e14) :: ("do_pass", 2, e15) :: ("made_letter", 2, e16) :: ("made", 2, e17) :: ("quarters", 2, e18) :: ("made_sign", 2, e19) :: ("", 0, e20) :: ("", 0, e21) :: ("passes", 2, e22) :: ("times", 2, e23) :: ("", 0, e24) :: ("_law_take", 2, .sp 2 takeV) :: ("_law_all_bits", 1, f__law_all_bits) :: ("_law_word_in", 1, f__law_word_in) :: ("_law_word_text", 1, f__law_word_text) :: ("_law_done", 3, f__law_done) :: ("_law_both_done", 3, f__law_both_done) :: ("_law_is_pair_right", 2, f__law_is_pair_right) :: ("_law_of", 2, f__law_of) :: ("_law_drawn_word", 2, f__law_drawn_word) :: ("_law_right", 1, f__law_right) :: ("", 0, f__law_pot) :: ("", 0, f__law_cells) :: ("", 0, f_law) :: []
abbrev tbA : Tb := ⟨nmE enA, gvL, frL⟩
abbrev taA : List Ent := enE enA
def enB : List En := ("", 0, e0) :: ("", 0, e1) :: ("", 0, e2) :: ("", 0, e3) :: ("", 0, e4) :: ("", 0, e5) :: ("", 0, e6) :: ("", 0, e7) :: ("", 0, e8) :: ("", 0, e9) :: ("", 0, e10) :: ("", 0, e11) :: ("", 0, e12) :: ("", 0, e13) :: ("", 0, e14) :: ("", 0, e15) :: ("", 0, e16) :: ("", 0, e17) :: ("", 0, e18) :: ("", 0, e19) :: ("", 0, e20) :: ("", 0, e21) :: ("", 0, e22) :: ("", 0, e23) :: ("", 0, e24) :: ("", 0, .sp 2 takeV) :: ("", 0, f__law_all_bits) :: ("", 0, f__law_word_in) :: ("", 0, f__law_word_text) :: ("", 0, f__law_done) :: ("", 0, f__law_both_done) :: ("", 0, f__law_is_pair_right) :: ("", 0, f__law_of) :: ("", 0, f__law_drawn_word) :: ("_law_right", 1, .sp 1 rightV) :: ("_law_pot", 2, .sp 2 potV) :: ("_law_cells", 2, .sp 2 cellsV) :: ("law", 1, f_law) :: []
abbrev tbB : Tb := ⟨nmE enB, gvL, frL⟩
abbrev taB : List Ent := enE enB
def tbT : Tb := ⟨[("_law_take", 2)], [], ["int"]⟩
def tbP : Tb := ⟨[("_law_pot", 2)], [], ["int", "abs", "len"]⟩
def tbC : Tb := ⟨[("_law_cells", 2)], [], ["list", "range", "max", "min", "len"]⟩
def bT : Ss := takeIR 93229 143 10109 137 149
def bP : Ss := potIR 109 275 73813 7589 239
section
variable {K : PySem.W.Frag} {h : Heap} {mg : Str → Option Value} {G : Gl} {P : Program} {w : World} {base : Heap}
theorem chk_T : fxB tbT (dd 28) ["_law_pot_here", "_law_upto", "_law_digit", "_law_prime", "_law_blend"] ["_law_pot_here", "_law_upto"] bT = true := by decide +kernel
theorem bnd_T {f : Addr} {fd : FuncData} (F : FunD K "_law_take" (dd 28).qual (dd 28).params (dd 28).body (dd 28).scope [] [] f fd) : Binds K fd ["_law_pot_here", "_law_upto"] [] := F.bindsN fun _ _ _ _ _ _ us hl => match us, hl with | [_, _], _ => by kernel_rfl
theorem def_T (X : K.In h) (Ng : h.Ns mainGlobals mg) (c : SaysX faL gvL fnL K) : DefOk K mg tbT "_law_take" 2 5 bT :=
  def_of X Ng c 13 13 (d := dd 28) (N := ["_law_pot_here", "_law_upto", "_law_digit", "_law_prime", "_law_blend"]) (ps := ["_law_pot_here", "_law_upto"]) (by kernel_rfl) (by kernel_rfl) (by kernel_rfl) (by kernel_rfl) (by kernel_rfl) (by kernel_rfl) chk_T rfl rfl fun f fd F => bnd_T F
theorem chk_P : fxB tbP (dd 27) ["_law_script", "_law_place", "_law_cell", "_law_own", "_law_small"] ["_law_script", "_law_place"] bP = true := by decide +kernel
theorem bnd_P {f : Addr} {fd : FuncData} (F : FunD K "_law_pot" (dd 27).qual (dd 27).params (dd 27).body (dd 27).scope [] [] f fd) : Binds K fd ["_law_script", "_law_place"] [] := F.bindsN fun _ _ _ _ _ _ us hl => match us, hl with | [_, _], _ => by kernel_rfl
theorem def_P (X : K.In h) (Ng : h.Ns mainGlobals mg) (c : SaysX faL gvL fnL K) : DefOk K mg tbP "_law_pot" 2 5 bP :=
  def_of X Ng c 23 23 (d := dd 27) (N := ["_law_script", "_law_place", "_law_cell", "_law_own", "_law_small"]) (ps := ["_law_script", "_law_place"]) (by kernel_rfl) (by kernel_rfl) (by kernel_rfl) (by kernel_rfl) (by kernel_rfl) (by kernel_rfl) chk_P rfl rfl fun f fd F => bnd_P F
theorem chk_C : fxB tbC (dd 31) ["_law_script", "_law_limit"] ["_law_script", "_law_limit"] cellsIR = true := by decide +kernel
theorem bnd_C {f : Addr} {fd : FuncData} (F : FunD K "_law_cells" (dd 31).qual (dd 31).params (dd 31).body (dd 31).scope [] [] f fd) : Binds K fd ["_law_script", "_law_limit"] [] := F.bindsN fun _ _ _ _ _ _ us hl => match us, hl with | [_, _], _ => by kernel_rfl
theorem def_C (X : K.In h) (Ng : h.Ns mainGlobals mg) (c : SaysX faL gvL fnL K) : DefOk K mg tbC "_law_cells" 2 2 cellsIR :=
  def_of X Ng c 24 24 (d := dd 31) (N := ["_law_script", "_law_limit"]) (ps := ["_law_script", "_law_limit"]) (by kernel_rfl) (by kernel_rfl) (by kernel_rfl) (by kernel_rfl) (by kernel_rfl) (by kernel_rfl) chk_C rfl rfl fun f fd F => bnd_C F
theorem chk_A34 : fxB tbA (dd 38) ["_law_pot_here", "_law_wires", "_law_lap"] ["_law_pot_here"] b__law_right = true := by decide +kernel
theorem bnd_A34 {f : Addr} {fd : FuncData} (F : FunD K "_law_right" (dd 38).qual (dd 38).params (dd 38).body (dd 38).scope [] [] f fd) : Binds K fd ["_law_pot_here"] [] := F.bindsN fun _ _ _ _ _ _ us hl => match us, hl with | [_], _ => by kernel_rfl
theorem def_A34 (X : K.In h) (Ng : h.Ns mainGlobals mg) (c : SaysX faL gvL fnL K) : DefOk K mg tbA "_law_right" 1 3 b__law_right :=
  def_of X Ng c 22 22 (d := dd 38) (N := ["_law_pot_here", "_law_wires", "_law_lap"]) (ps := ["_law_pot_here"]) (by kernel_rfl) (by kernel_rfl) (by kernel_rfl) (by kernel_rfl) (by kernel_rfl) (by kernel_rfl) chk_A34 rfl rfl fun f fd F => bnd_A34 F
theorem chk_A31 : fxB tbA (dd 37) ["_law_one", "_law_other", "_law_rows", "_law_due", "_law_whole", "_law_mine", "_law_its", "_law_bits"] ["_law_one", "_law_other"] b__law_is_pair_right = true := by decide +kernel
theorem bnd_A31 {f : Addr} {fd : FuncData} (F : FunD K "_law_is_pair_right" (dd 37).qual (dd 37).params (dd 37).body (dd 37).scope [] [] f fd) : Binds K fd ["_law_one", "_law_other"] [] := F.bindsN fun _ _ _ _ _ _ us hl => match us, hl with | [_, _], _ => by kernel_rfl
theorem def_A31 (X : K.In h) (Ng : h.Ns mainGlobals mg) (c : SaysX faL gvL fnL K) : DefOk K mg tbA "_law_is_pair_right" 2 8 b__law_is_pair_right :=
  def_of X Ng c 19 19 (d := dd 37) (N := ["_law_one", "_law_other", "_law_rows", "_law_due", "_law_whole", "_law_mine", "_law_its", "_law_bits"]) (ps := ["_law_one", "_law_other"]) (by kernel_rfl) (by kernel_rfl) (by kernel_rfl) (by kernel_rfl) (by kernel_rfl) (by kernel_rfl) chk_A31 rfl rfl fun f fd F => bnd_A31 F
theorem chk_A22 : fxB tbA (dd 24) ["one", "other"] ["one", "other"] pg22 = true := by decide +kernel
theorem bnd_A22 {f : Addr} {fd : FuncData} (F : FunD K "passes" (dd 24).qual (dd 24).params (dd 24).body (dd 24).scope [] [] f fd) : Binds K fd ["one", "other"] [] := F.bindsN fun _ _ _ _ _ _ us hl => match us, hl with | [_, _], _ => by kernel_rfl
theorem def_A22 (X : K.In h) (Ng : h.Ns mainGlobals mg) (c : SaysX faL gvL fnL K) : DefOk K mg tbA "passes" 2 2 pg22 :=
  def_of X Ng c 11 11 (d := dd 24) (N := ["one", "other"]) (ps := ["one", "other"]) (by kernel_rfl) (by kernel_rfl) (by kernel_rfl) (by kernel_rfl) (by kernel_rfl) (by kernel_rfl) chk_A22 rfl rfl fun f fd F => bnd_A22 F
theorem chk_A9 : fxB tbA (dd 15) ["word"] ["word"] pg9 = true := by decide +kernel
theorem bnd_A9 {f : Addr} {fd : FuncData} (F : FunD K "bare" (dd 15).qual (dd 15).params (dd 15).body (dd 15).scope [] [] f fd) : Binds K fd ["word"] [] := F.bindsN fun _ _ _ _ _ _ us hl => match us, hl with | [_], _ => by kernel_rfl
theorem def_A9 (X : K.In h) (Ng : h.Ns mainGlobals mg) (c : SaysX faL gvL fnL K) : DefOk K mg tbA "bare" 1 1 pg9 :=
  def_of X Ng c 2 2 (d := dd 15) (N := ["word"]) (ps := ["word"]) (by kernel_rfl) (by kernel_rfl) (by kernel_rfl) (by kernel_rfl) (by kernel_rfl) (by kernel_rfl) chk_A9 rfl rfl fun f fd F => bnd_A9 F
theorem chk_A12 : fxB tbA (dd 18) ["one", "other", "value"] ["one", "other"] pg12 = true := by decide +kernel
theorem bnd_A12 {f : Addr} {fd : FuncData} (F : FunD K "check_two" (dd 18).qual (dd 18).params (dd 18).body (dd 18).scope [] [] f fd) : Binds K fd ["one", "other"] [] := F.bindsN fun _ _ _ _ _ _ us hl => match us, hl with | [_, _], _ => by kernel_rfl
theorem def_A12 (X : K.In h) (Ng : h.Ns mainGlobals mg) (c : SaysX faL gvL fnL K) : DefOk K mg tbA "check_two" 2 3 pg12 :=
  def_of X Ng c 5 5 (d := dd 18) (N := ["one", "other", "value"]) (ps := ["one", "other"]) (by kernel_rfl) (by kernel_rfl) (by kernel_rfl) (by kernel_rfl) (by kernel_rfl) (by kernel_rfl) chk_A12 rfl rfl fun f fd F => bnd_A12 F
theorem chk_A8 : fxB tbA (dd 14) ["value"] ["value"] pg8 = true := by decide +kernel
theorem bnd_A8 {f : Addr} {fd : FuncData} (F : FunD K "is_word" (dd 14).qual (dd 14).params (dd 14).body (dd 14).scope [] [] f fd) : Binds K fd ["value"] [] := F.bindsN fun _ _ _ _ _ _ us hl => match us, hl with | [_], _ => by kernel_rfl
theorem def_A8 (X : K.In h) (Ng : h.Ns mainGlobals mg) (c : SaysX faL gvL fnL K) : DefOk K mg tbA "is_word" 1 1 pg8 :=
  def_of X Ng c 1 1 (d := dd 14) (N := ["value"]) (ps := ["value"]) (by kernel_rfl) (by kernel_rfl) (by kernel_rfl) (by kernel_rfl) (by kernel_rfl) (by kernel_rfl) chk_A8 rfl rfl fun f fd F => bnd_A8 F
theorem chk_A7 : fxB tbA (dd 13) ["value", "sign"] ["value"] pg7 = true := by decide +kernel
theorem bnd_A7 {f : Addr} {fd : FuncData} (F : FunD K "is_letters" (dd 13).qual (dd 13).params (dd 13).body (dd 13).scope [] [] f fd) : Binds K fd ["value"] [] := F.bindsN fun _ _ _ _ _ _ us hl => match us, hl with | [_], _ => by kernel_rfl
theorem def_A7 (X : K.In h) (Ng : h.Ns mainGlobals mg) (c : SaysX faL gvL fnL K) : DefOk K mg tbA "is_letters" 1 2 pg7 :=
  def_of X Ng c 0 0 (d := dd 13) (N := ["value", "sign"]) (ps := ["value"]) (by kernel_rfl) (by kernel_rfl) (by kernel_rfl) (by kernel_rfl) (by kernel_rfl) (by kernel_rfl) chk_A7 rfl rfl fun f fd F => bnd_A7 F
theorem chk_A15 : fxB tbA (dd 19) ["one", "other", "met", "here", "there"] ["one", "other"] pg15 = true := by decide +kernel
theorem bnd_A15 {f : Addr} {fd : FuncData} (F : FunD K "do_pass" (dd 19).qual (dd 19).params (dd 19).body (dd 19).scope [] [] f fd) : Binds K fd ["one", "other"] [] := F.bindsN fun _ _ _ _ _ _ us hl => match us, hl with | [_, _], _ => by kernel_rfl
theorem def_A15 (X : K.In h) (Ng : h.Ns mainGlobals mg) (c : SaysX faL gvL fnL K) : DefOk K mg tbA "do_pass" 2 5 pg15 :=
  def_of X Ng c 6 6 (d := dd 19) (N := ["one", "other", "met", "here", "there"]) (ps := ["one", "other"]) (by kernel_rfl) (by kernel_rfl) (by kernel_rfl) (by kernel_rfl) (by kernel_rfl) (by kernel_rfl) chk_A15 rfl rfl fun f fd F => bnd_A15 F
theorem chk_A23 : fxB tbA (dd 25) ["one", "other", "first", "second"] ["one", "other"] pg23 = true := by decide +kernel
theorem bnd_A23 {f : Addr} {fd : FuncData} (F : FunD K "times" (dd 25).qual (dd 25).params (dd 25).body (dd 25).scope [] [] f fd) : Binds K fd ["one", "other"] [] := F.bindsN fun _ _ _ _ _ _ us hl => match us, hl with | [_, _], _ => by kernel_rfl
theorem def_A23 (X : K.In h) (Ng : h.Ns mainGlobals mg) (c : SaysX faL gvL fnL K) : DefOk K mg tbA "times" 2 4 pg23 :=
  def_of X Ng c 12 12 (d := dd 25) (N := ["one", "other", "first", "second"]) (ps := ["one", "other"]) (by kernel_rfl) (by kernel_rfl) (by kernel_rfl) (by kernel_rfl) (by kernel_rfl) (by kernel_rfl) chk_A23 rfl rfl fun f fd F => bnd_A23 F
theorem chk_A10 : fxB tbA (dd 16) ["word"] ["word"] pg10 = true := by decide +kernel
theorem bnd_A10 {f : Addr} {fd : FuncData} (F : FunD K "sign_in" (dd 16).qual (dd 16).params (dd 16).body (dd 16).scope [] [] f fd) : Binds K fd ["word"] [] := F.bindsN fun _ _ _ _ _ _ us hl => match us, hl with | [_], _ => by kernel_rfl
theorem def_A10 (X : K.In h) (Ng : h.Ns mainGlobals mg) (c : SaysX faL gvL fnL K) : DefOk K mg tbA "sign_in" 1 1 pg10 :=
  def_of X Ng c 3 3 (d := dd 16) (N := ["word"]) (ps := ["word"]) (by kernel_rfl) (by kernel_rfl) (by kernel_rfl) (by kernel_rfl) (by kernel_rfl) (by kernel_rfl) chk_A10 rfl rfl fun f fd F => bnd_A10 F
theorem chk_A11 : fxB tbA (dd 17) ["sign", "letters"] ["sign", "letters"] pg11 = true := by decide +kernel
theorem bnd_A11 {f : Addr} {fd : FuncData} (F : FunD K "word_of" (dd 17).qual (dd 17).params (dd 17).body (dd 17).scope [] [] f fd) : Binds K fd ["sign", "letters"] [] := F.bindsN fun _ _ _ _ _ _ us hl => match us, hl with | [_, _], _ => by kernel_rfl
theorem def_A11 (X : K.In h) (Ng : h.Ns mainGlobals mg) (c : SaysX faL gvL fnL K) : DefOk K mg tbA "word_of" 2 2 pg11 :=
  def_of X Ng c 4 4 (d := dd 17) (N := ["sign", "letters"]) (ps := ["sign", "letters"]) (by kernel_rfl) (by kernel_rfl) (by kernel_rfl) (by kernel_rfl) (by kernel_rfl) (by kernel_rfl) chk_A11 rfl rfl fun f fd F => bnd_A11 F
theorem chk_A17 : fxB tbA (dd 21) ["one", "other", "here", "there"] ["one", "other"] pg17 = true := by decide +kernel
theorem bnd_A17 {f : Addr} {fd : FuncData} (F : FunD K "made" (dd 21).qual (dd 21).params (dd 21).body (dd 21).scope [] [] f fd) : Binds K fd ["one", "other"] [] := F.bindsN fun _ _ _ _ _ _ us hl => match us, hl with | [_, _], _ => by kernel_rfl
theorem def_A17 (X : K.In h) (Ng : h.Ns mainGlobals mg) (c : SaysX faL gvL fnL K) : DefOk K mg tbA "made" 2 4 pg17 :=
  def_of X Ng c 8 8 (d := dd 21) (N := ["one", "other", "here", "there"]) (ps := ["one", "other"]) (by kernel_rfl) (by kernel_rfl) (by kernel_rfl) (by kernel_rfl) (by kernel_rfl) (by kernel_rfl) chk_A17 rfl rfl fun f fd F => bnd_A17 F
theorem chk_A16 : fxB tbA (dd 20) ["here", "there", "sign"] ["here", "there"] pg16 = true := by decide +kernel
theorem bnd_A16 {f : Addr} {fd : FuncData} (F : FunD K "made_letter" (dd 20).qual (dd 20).params (dd 20).body (dd 20).scope [] [] f fd) : Binds K fd ["here", "there"] [] := F.bindsN fun _ _ _ _ _ _ us hl => match us, hl with | [_, _], _ => by kernel_rfl
theorem def_A16 (X : K.In h) (Ng : h.Ns mainGlobals mg) (c : SaysX faL gvL fnL K) : DefOk K mg tbA "made_letter" 2 3 pg16 :=
  def_of X Ng c 7 7 (d := dd 20) (N := ["here", "there", "sign"]) (ps := ["here", "there"]) (by kernel_rfl) (by kernel_rfl) (by kernel_rfl) (by kernel_rfl) (by kernel_rfl) (by kernel_rfl) chk_A16 rfl rfl fun f fd F => bnd_A16 F
theorem chk_A19 : fxB tbA (dd 23) ["one", "other"] ["one", "other"] pg19 = true := by decide +kernel
theorem bnd_A19 {f : Addr} {fd : FuncData} (F : FunD K "made_sign" (dd 23).qual (dd 23).params (dd 23).body (dd 23).scope [] [] f fd) : Binds K fd ["one", "other"] [] := F.bindsN fun _ _ _ _ _ _ us hl => match us, hl with | [_, _], _ => by kernel_rfl
theorem def_A19 (X : K.In h) (Ng : h.Ns mainGlobals mg) (c : SaysX faL gvL fnL K) : DefOk K mg tbA "made_sign" 2 2 pg19 :=
  def_of X Ng c 10 10 (d := dd 23) (N := ["one", "other"]) (ps := ["one", "other"]) (by kernel_rfl) (by kernel_rfl) (by kernel_rfl) (by kernel_rfl) (by kernel_rfl) (by kernel_rfl) chk_A19 rfl rfl fun f fd F => bnd_A19 F
theorem chk_A18 : fxB tbA (dd 22) ["one", "other", "rising", "falling", "here", "there"] ["one", "other"] pg18 = true := by decide +kernel
theorem bnd_A18 {f : Addr} {fd : FuncData} (F : FunD K "quarters" (dd 22).qual (dd 22).params (dd 22).body (dd 22).scope [] [] f fd) : Binds K fd ["one", "other"] [] := F.bindsN fun _ _ _ _ _ _ us hl => match us, hl with | [_, _], _ => by kernel_rfl
theorem def_A18 (X : K.In h) (Ng : h.Ns mainGlobals mg) (c : SaysX faL gvL fnL K) : DefOk K mg tbA "quarters" 2 6 pg18 :=
  def_of X Ng c 9 9 (d := dd 22) (N := ["one", "other", "rising", "falling", "here", "there"]) (ps := ["one", "other"]) (by kernel_rfl) (by kernel_rfl) (by kernel_rfl) (by kernel_rfl) (by kernel_rfl) (by kernel_rfl) chk_A18 rfl rfl fun f fd F => bnd_A18 F
theorem chk_A26 : fxB tbA (dd 34) ["_law_wires", "_law_found", "_law_wire", "_law_row"] ["_law_wires"] b__law_all_bits = true := by decide +kernel
theorem bnd_A26 {f : Addr} {fd : FuncData} (F : FunD K "_law_all_bits" (dd 34).qual (dd 34).params (dd 34).body (dd 34).scope [] [] f fd) : Binds K fd ["_law_wires"] [] := F.bindsN fun _ _ _ _ _ _ us hl => match us, hl with | [_], _ => by kernel_rfl
theorem def_A26 (X : K.In h) (Ng : h.Ns mainGlobals mg) (c : SaysX faL gvL fnL K) : DefOk K mg tbA "_law_all_bits" 1 4 b__law_all_bits :=
  def_of X Ng c 14 14 (d := dd 34) (N := ["_law_wires", "_law_found", "_law_wire", "_law_row"]) (ps := ["_law_wires"]) (by kernel_rfl) (by kernel_rfl) (by kernel_rfl) (by kernel_rfl) (by kernel_rfl) (by kernel_rfl) chk_A26 rfl rfl fun f fd F => bnd_A26 F
theorem chk_A27 : fxB tbA (dd 36) ["_law_text"] ["_law_text"] b__law_word_in = true := by decide +kernel
theorem bnd_A27 {f : Addr} {fd : FuncData} (F : FunD K "_law_word_in" (dd 36).qual (dd 36).params (dd 36).body (dd 36).scope [] [] f fd) : Binds K fd ["_law_text"] [] := F.bindsN fun _ _ _ _ _ _ us hl => match us, hl with | [_], _ => by kernel_rfl
theorem def_A27 (X : K.In h) (Ng : h.Ns mainGlobals mg) (c : SaysX faL gvL fnL K) : DefOk K mg tbA "_law_word_in" 1 1 b__law_word_in :=
  def_of X Ng c 15 15 (d := dd 36) (N := ["_law_text"]) (ps := ["_law_text"]) (by kernel_rfl) (by kernel_rfl) (by kernel_rfl) (by kernel_rfl) (by kernel_rfl) (by kernel_rfl) chk_A27 rfl rfl fun f fd F => bnd_A27 F
theorem chk_A28 : fxB tbA (dd 32) ["_law_word"] ["_law_word"] b__law_word_text = true := by decide +kernel
theorem bnd_A28 {f : Addr} {fd : FuncData} (F : FunD K "_law_word_text" (dd 32).qual (dd 32).params (dd 32).body (dd 32).scope [] [] f fd) : Binds K fd ["_law_word"] [] := F.bindsN fun _ _ _ _ _ _ us hl => match us, hl with | [_], _ => by kernel_rfl
theorem def_A28 (X : K.In h) (Ng : h.Ns mainGlobals mg) (c : SaysX faL gvL fnL K) : DefOk K mg tbA "_law_word_text" 1 1 b__law_word_text :=
  def_of X Ng c 16 16 (d := dd 32) (N := ["_law_word"]) (ps := ["_law_word"]) (by kernel_rfl) (by kernel_rfl) (by kernel_rfl) (by kernel_rfl) (by kernel_rfl) (by kernel_rfl) chk_A28 rfl rfl fun f fd F => bnd_A28 F
theorem chk_A29 : fxB tbA (dd 33) ["_law_word", "_law_turns_here", "_law_bits", "_law_found", "_law_letter", "_law_bit"] ["_law_word", "_law_turns_here", "_law_bits"] b__law_done = true := by decide +kernel
theorem bnd_A29 {f : Addr} {fd : FuncData} (F : FunD K "_law_done" (dd 33).qual (dd 33).params (dd 33).body (dd 33).scope [] [] f fd) : Binds K fd ["_law_word", "_law_turns_here", "_law_bits"] [] := F.bindsN fun _ _ _ _ _ _ us hl => match us, hl with | [_, _, _], _ => by kernel_rfl
theorem def_A29 (X : K.In h) (Ng : h.Ns mainGlobals mg) (c : SaysX faL gvL fnL K) : DefOk K mg tbA "_law_done" 3 6 b__law_done :=
  def_of X Ng c 17 17 (d := dd 33) (N := ["_law_word", "_law_turns_here", "_law_bits", "_law_found", "_law_letter", "_law_bit"]) (ps := ["_law_word", "_law_turns_here", "_law_bits"]) (by kernel_rfl) (by kernel_rfl) (by kernel_rfl) (by kernel_rfl) (by kernel_rfl) (by kernel_rfl) chk_A29 rfl rfl fun f fd F => bnd_A29 F
theorem chk_A30 : fxB tbA (dd 35) ["_law_lead", "_law_second", "_law_bits", "_law_turns_here", "_law_later"] ["_law_lead", "_law_second", "_law_bits"] b__law_both_done = true := by decide +kernel
theorem bnd_A30 {f : Addr} {fd : FuncData} (F : FunD K "_law_both_done" (dd 35).qual (dd 35).params (dd 35).body (dd 35).scope [] [] f fd) : Binds K fd ["_law_lead", "_law_second", "_law_bits"] [] := F.bindsN fun _ _ _ _ _ _ us hl => match us, hl with | [_, _, _], _ => by kernel_rfl
theorem def_A30 (X : K.In h) (Ng : h.Ns mainGlobals mg) (c : SaysX faL gvL fnL K) : DefOk K mg tbA "_law_both_done" 3 5 b__law_both_done :=
  def_of X Ng c 18 18 (d := dd 35) (N := ["_law_lead", "_law_second", "_law_bits", "_law_turns_here", "_law_later"]) (ps := ["_law_lead", "_law_second", "_law_bits"]) (by kernel_rfl) (by kernel_rfl) (by kernel_rfl) (by kernel_rfl) (by kernel_rfl) (by kernel_rfl) chk_A30 rfl rfl fun f fd F => bnd_A30 F
theorem chk_A33 : fxB tbA (dd 29) ["_law_pot_here", "_law_wires", "_law_letters", "_law_wire"] ["_law_pot_here", "_law_wires"] b__law_drawn_word = true := by decide +kernel
theorem bnd_A33 {f : Addr} {fd : FuncData} (F : FunD K "_law_drawn_word" (dd 29).qual (dd 29).params (dd 29).body (dd 29).scope [] [] f fd) : Binds K fd ["_law_pot_here", "_law_wires"] [] := F.bindsN fun _ _ _ _ _ _ us hl => match us, hl with | [_, _], _ => by kernel_rfl
theorem def_A33 (X : K.In h) (Ng : h.Ns mainGlobals mg) (c : SaysX faL gvL fnL K) : DefOk K mg tbA "_law_drawn_word" 2 4 b__law_drawn_word :=
  def_of X Ng c 21 21 (d := dd 29) (N := ["_law_pot_here", "_law_wires", "_law_letters", "_law_wire"]) (ps := ["_law_pot_here", "_law_wires"]) (by kernel_rfl) (by kernel_rfl) (by kernel_rfl) (by kernel_rfl) (by kernel_rfl) (by kernel_rfl) chk_A33 rfl rfl fun f fd F => bnd_A33 F
theorem chk_A32 : fxB tbA (dd 30) ["_law_pot_here", "_law_some"] ["_law_pot_here", "_law_some"] b__law_of = true := by decide +kernel
theorem bnd_A32 {f : Addr} {fd : FuncData} (F : FunD K "_law_of" (dd 30).qual (dd 30).params (dd 30).body (dd 30).scope [] [] f fd) : Binds K fd ["_law_pot_here", "_law_some"] [] := F.bindsN fun _ _ _ _ _ _ us hl => match us, hl with | [_, _], _ => by kernel_rfl
theorem def_A32 (X : K.In h) (Ng : h.Ns mainGlobals mg) (c : SaysX faL gvL fnL K) : DefOk K mg tbA "_law_of" 2 2 b__law_of :=
  def_of X Ng c 20 20 (d := dd 30) (N := ["_law_pot_here", "_law_some"]) (ps := ["_law_pot_here", "_law_some"]) (by kernel_rfl) (by kernel_rfl) (by kernel_rfl) (by kernel_rfl) (by kernel_rfl) (by kernel_rfl) chk_A32 rfl rfl fun f fd F => bnd_A32 F
theorem chk_B37 : fxB tbB (dd 39) ["_law_script", "_law_place"] ["_law_script"] b_law = true := by decide +kernel
theorem bnd_B37 {f : Addr} {fd : FuncData} (F : FunD K "law" (dd 39).qual (dd 39).params (dd 39).body (dd 39).scope [] [] f fd) : Binds K fd ["_law_script"] [] := F.bindsN fun _ _ _ _ _ _ us hl => match us, hl with | [_], _ => by kernel_rfl
theorem def_B37 (X : K.In h) (Ng : h.Ns mainGlobals mg) (c : SaysX faL gvL fnL K) : DefOk K mg tbB "law" 1 2 b_law :=
  def_of X Ng c 25 25 (d := dd 39) (N := ["_law_script", "_law_place"]) (ps := ["_law_script"]) (by kernel_rfl) (by kernel_rfl) (by kernel_rfl) (by kernel_rfl) (by kernel_rfl) (by kernel_rfl) chk_B37 rfl rfl fun f fd F => bnd_B37 F
theorem frAll (X : K.In h) (Ng : h.Ns mainGlobals mg) (c : SaysX faL gvL fnL K) : ∀ x ∈ frL, mg x = none := free_all X Ng c (by decide +kernel)
theorem frSome (X : K.In h) (Ng : h.Ns mainGlobals mg) (c : SaysX faL gvL fnL K) {l : List Str} (hl : l.all (fun y => faL.any (isFree y)) = true) : ∀ x ∈ l, mg x = none := free_all X Ng c hl
theorem tk (X : G.K.In h) (Ng : h.Ns mainGlobals mg) (c : SaysX faL gvL fnL G.K) : FnAt0 G takeV 1 P w mg base "_law_take" 2 :=
  take_ok (by decide) (by decide) (by decide) (by decide) (by decide) (one_fn (def_T X Ng c) (frSome X Ng c (by decide +kernel)))
theorem pk (X : G.K.In h) (Ng : h.Ns mainGlobals mg) (c : SaysX faL gvL fnL G.K) : FnAt0 G potV 1 P w mg base "_law_pot" 2 :=
  pot_ok (by decide) (by decide) (by decide) (one_fn (def_P X Ng c) (frSome X Ng c (by decide +kernel)))
theorem ck (X : G.K.In h) (Ng : h.Ns mainGlobals mg) (c : SaysX faL gvL fnL G.K) : FnAt0 G cellsV 1 P w mg base "_law_cells" 2 :=
  cells_ok (one_fn (def_C X Ng c) (frSome X Ng c (by decide +kernel)))
theorem progA (X : G.K.In h) (Ng : h.Ns mainGlobals mg) (c : SaysX faL gvL fnL G.K) : Prog G P w mg base tbA taA 1 :=
  prog_of (.cons (.inl rfl) (.cons (.inl rfl) (.cons (.inl rfl) (.cons (.inl rfl) (.cons (.inl rfl) (.cons (.inl rfl) (.cons (.inl rfl) (.cons (.inr ⟨rfl, def_A7 X Ng c⟩) (.cons (.inr ⟨rfl, def_A8 X Ng c⟩) (.cons (.inr ⟨rfl, def_A9 X Ng c⟩) (.cons (.inr ⟨rfl, def_A10 X Ng c⟩) (.cons (.inr ⟨rfl, def_A11 X Ng c⟩) (.cons (.inr ⟨rfl, def_A12 X Ng c⟩) (.cons (.inl rfl) (.cons (.inl rfl) (.cons (.inr ⟨rfl, def_A15 X Ng c⟩) (.cons (.inr ⟨rfl, def_A16 X Ng c⟩) (.cons (.inr ⟨rfl, def_A17 X Ng c⟩) (.cons (.inr ⟨rfl, def_A18 X Ng c⟩) (.cons (.inr ⟨rfl, def_A19 X Ng c⟩) (.cons (.inl rfl) (.cons (.inl rfl) (.cons (.inr ⟨rfl, def_A22 X Ng c⟩) (.cons (.inr ⟨rfl, def_A23 X Ng c⟩) (.cons (.inl rfl) (.cons (.inr ⟨rfl, tk X Ng c⟩) (.cons (.inr ⟨rfl, def_A26 X Ng c⟩) (.cons (.inr ⟨rfl, def_A27 X Ng c⟩) (.cons (.inr ⟨rfl, def_A28 X Ng c⟩) (.cons (.inr ⟨rfl, def_A29 X Ng c⟩) (.cons (.inr ⟨rfl, def_A30 X Ng c⟩) (.cons (.inr ⟨rfl, def_A31 X Ng c⟩) (.cons (.inr ⟨rfl, def_A32 X Ng c⟩) (.cons (.inr ⟨rfl, def_A33 X Ng c⟩) (.cons (.inr ⟨rfl, def_A34 X Ng c⟩) (.cons (.inl rfl) (.cons (.inl rfl) (.cons (.inl rfl) .nil)))))))))))))))))))))))))))))))))))))) (fun q hq => gvK_ok X Ng (c.gvs hq)) (frAll X Ng c)
end

/-! k06's mathematics: what words do to rows of bits. -/
section
def bi (b : Bool) : Int := bif b then 1 else 0
/-- the quarters of a letter on a bit; the bit behind it -/
def ph (x : Nat) (b : Bool) : Int := bif x == 89 then 1 + 2 * bi b else bif x == 90 then 2 * bi b else 0
def fl (x : Nat) (b : Bool) : Bool := bif x == 88 || x == 89 then !b else b
def phS : List Nat → List Bool → Int
  | x :: a, b :: r => ph x b + phS a r
  | _, _ => 0
def flS : List Nat → List Bool → List Bool
  | x :: a, b :: r => fl x b :: flS a r
  | _, _ => []
theorem flS_len : ∀ (a : List Nat) (r : List Bool), a.length = r.length → (flS a r).length = r.length
  | [], [], _ => rfl
  | [], _ :: _, h => by simp at h
  | _ :: _, [], h => by simp at h
  | x :: a, b :: r, h => by
    rw [flS, List.length_cons, List.length_cons, flS_len a r (by simpa using h)]
theorem fl_com {x y : Nat} (hx : isL x) (hy : isL y) (b : Bool) : fl x (fl y b) = fl y (fl x b) ∧ fl x (fl y b) = fl (mk x y) b := by
  rcases hx with rfl | rfl | rfl | rfl <;> rcases hy with rfl | rfl | rfl | rfl <;> cases b <;> exact ⟨rfl, rfl⟩
theorem ph_com {x y : Nat} (hx : isL x) (hy : isL y) (b : Bool) : (ph y b + ph x (fl y b) - ph x b - ph y (fl x b) - 2 * (b2n (meetB x y) : Int)) % 4 = 0 := by
  rcases hx with rfl | rfl | rfl | rfl <;> rcases hy with rfl | rfl | rfl | rfl <;> cases b <;> rfl
theorem ph_mk {x y : Nat} (hx : isL x) (hy : isL y) (b : Bool) : (ph y b + ph x (fl y b) - ph (mk x y) b - qz x y) % 4 = 0 := by
  rcases hx with rfl | rfl | rfl | rfl <;> rcases hy with rfl | rfl | rfl | rfl <;> cases b <;> rfl
theorem doS : ∀ (a b : List Nat) (r : List Bool), (∀ x ∈ a, isL x) → (∀ x ∈ b, isL x) → a.length = b.length → r.length = a.length →
    flS a (flS b r) = flS b (flS a r) ∧ flS a (flS b r) = flS (mkS a b) r ∧ (phS b r + phS a (flS b r) - phS a r - phS b (flS a r) - 2 * (metN a b : Int)) % 4 = 0 ∧ (phS b r + phS a (flS b r) - phS (mkS a b) r - quaB a b) % 4 = 0
  | [], [], [], _, _, _, _ => ⟨rfl, rfl, rfl, rfl⟩
  | x :: a, y :: b, c :: r, ha, hb, h1, h2 => by
    obtain ⟨i1, i2, i3, i4⟩ := doS a b r (fun w h => ha w (List.mem_cons_of_mem _ h)) (fun w h => hb w (List.mem_cons_of_mem _ h)) (by simpa using h1) (by simpa using h2)
    have hx := ha _ (List.mem_cons_self ..)
    have hy := hb _ (List.mem_cons_self ..)
    obtain ⟨e1, e2⟩ := fl_com hx hy c
    have e3 := ph_com hx hy c
    have e4 := ph_mk hx hy c
    rw [mkS_cons, met_cons, qua_cons]
    simp only [flS, phS]
    refine ⟨?_, ?_, ?_, ?_⟩
    · rw [e1, i1]
    · rw [e2, i2]
    · omega
    · omega
  | [], _ :: _, _, _, _, h, _ => by simp at h
  | _ :: _, [], _, _, _, h, _ => by simp at h
  | [], [], _ :: _, _, _, _, h => by simp at h
  | _ :: _, _ :: _, [], _, _, _, h => by simp at h
/-- the quarters of a sign -/
def sq (n : Bool) : Int := bif n then 2 else 0
/-- both words done, either way, tell the same just if they pass -/
theorem both_eq {n p : Bool} {a b : List Nat} {r : List Bool} (ha : ∀ x ∈ a, isL x) (hb : ∀ x ∈ b, isL x) (h1 : a.length = b.length) (h2 : r.length = a.length) :
    ((((0 + sq p + phS b r) % 4 + sq n + phS a (flS b r)) % 4 == ((0 + sq n + phS a r) % 4 + sq p + phS b (flS a r)) % 4) && (flS a (flS b r) == flS b (flS a r))) = passB a b := by
  obtain ⟨e1, _, e3, _⟩ := doS a b r ha hb h1 h2
  rw [e1, beq_self_eq_true, Bool.and_true, pass_met]
  by_cases h : metN a b % 2 = 0
  · rw [h]
    refine (beq_iff_eq.mpr ?_).trans rfl
    omega
  · rw [beq_eq_false_iff_ne.mpr h]
    refine beq_eq_false_iff_ne.mpr ?_
    omega
theorem whole_eq {n p : Bool} {a b : List Nat} {r : List Bool} (ha : ∀ x ∈ a, isL x) (hb : ∀ x ∈ b, isL x) (h1 : a.length = b.length) (h2 : r.length = a.length) (hp : passB a b = true) :
    (((0 + sq (minB n p a b) + phS (mkS a b) r) % 4 == ((0 + sq p + phS b r) % 4 + sq n + phS a (flS b r)) % 4) && (flS (mkS a b) r == flS a (flS b r))) = true := by
  obtain ⟨_, e2, _, e4⟩ := doS a b r ha hb h1 h2
  have ev := qua_even ha hb hp
  rw [e2, beq_self_eq_true, Bool.and_true]
  have k : sq (minB n p a b) % 4 = (sq n + sq p + quaB a b) % 4 := by
    unfold minB plusB
    have : quaB a b % 4 = 0 ∨ quaB a b % 4 = 2 := by omega
    rcases this with h | h
    · rw [h]
      have : (sq n + sq p + quaB a b) % 4 = (sq n + sq p) % 4 := by omega
      rw [this]
      cases n <;> cases p <;> rfl
    · rw [h]
      have : (sq n + sq p + quaB a b) % 4 = (sq n + sq p + 2) % 4 := by omega
      rw [this]
      cases n <;> cases p <;> rfl
  refine beq_iff_eq.mpr ?_
  omega
end
/-! k06's functions. -/
section
variable {k : Nat} {m : MH} {a b : List Nat} {r : List Bool}
def bt (b : Bool) : MV := .int (bi b)
theorem do_at : taA[29]? = some (.df 3 6 b__law_done) := rfl
def doneB : Ss := match b__law_done with
  | .cons _ (.cons _ (.cons (.fr _ _ b) _)) => b
  | _ => .nil
def phD (c : Bool) : List (MV × MV) := [(.str [73], .int 0), (.str [88], .int 0), (.str [89], .int (1 + 2 * bi c)), (.str [90], .int (2 * bi c))]
theorem disp_ph {c : Bool} (hg : Gd m) : mkDct m.n (phD c) (m.push (.dct false [])) = .ok (.ref m.n) (m.push (.dct false (phD c))) := by
  have h : mkDct m.n (phD c) (m.push (.dct false [])) = .ok (.ref m.n) ((m.push (.dct false [])).wr m.n (.dct false (phD c)) (.tup [.int 0, .int 0, .int (1 + 2 * bi c), .int (2 * bi c)])) := by
    unfold mkDct
    rw [get_push_same]
    rfl
  rw [h, wr_new hg fun n => by
    rw [MV.under]
    simp only [MV.unders, under_int]
    rfl]
theorem ix_ph {l x : Nat} {c : Bool} (h : m.get l = some (.dct false (phD c))) (hx : isL x) : ixV (.ref l) (.str [x]) m = .ok (.int (ph x c)) m := by
  unfold ixV
  dsimp only
  rw [h]
  rcases hx with rfl | rfl | rfl | rfl <;> rfl
theorem in_XY {x : Nat} (hx : isL x) : cmpV .In (.str [x]) (.str [88, 89]) m = .ok (.bl (x == 88 || x == 89)) m := by
  rcases hx with rfl | rfl | rfl | rfl <;> rfl
theorem mul2 {i : Int} : binV .Mult (.int 2) (.int i) m = .ok (.int (2 * i)) m := mulI (.inl rfl)
theorem sub_bi {c : Bool} : 1 - bi c = bi (!c) := by cases c <;> rfl
theorem app_ok {i : Nat} {xs : List MV} {y : MV} (h : m.get i = some (.lst xs)) (hl : xs.length ≤ 1000) : appV (.ref i) [y] m = .ok .non (m.wr i (.lst (xs ++ [y])) y) := by
  unfold appV
  dsimp only
  rw [h]
  dsimp only
  rw [if_pos (show Nat.blt xs.length big = true from leB (x := xs.length + 1) (by omega))]
theorem isLst_of {i : Nat} {xs : List MV} (h : m.get i = some (.lst xs)) : isLst (.ref i) m = true := by
  unfold isLst
  dsimp only
  rw [h]
theorem step_zi {x y : MV} {xs ys : List MV} : Src.step m (.zip (.imm (x :: xs)) (.imm (y :: ys))) = .it (.tup [x, y]) (.zip (.imm xs) (.imm ys)) := rfl
theorem fl_if {x : Nat} {c : Bool} : fl x c = if (x == 88 || x == 89) = true then !c else c := by
  unfold fl
  cases (x == 88 || x == 89) <;> rfl
theorem loop_done {cl : Cl} {M : MH} (hM : Gd M) {w0 b0 : MV} {f : Nat} (hf : M.n ≤ f) : ∀ (a : List Nat) (r : List Bool) (k : Nat) (t : Int) (acc : List MV) (x4 x5 : Option MV) (m : MH), (∀ c ∈ a, isL c) → a.length = r.length → a.length < k → acc.length + a.length ≤ 1000 → Ext M m → f < m.n → m.get f = some (.lst acc) →
    ∃ y4 y5 m2, loopV (gTp 2 (gsCons (gNm 4) (gsCons (gNm 5) gsNil))) (doneB.den cl) k (.zip (.imm (a.map fun c => .str [c])) (.imm (r.map bt))) [some w0, some (.int t), some b0, some (.ref f), x4, x5] m = .ok (.nx [some w0, some (.int (t + phS a r)), some b0, some (.ref f), y4, y5]) m2 ∧ Ext M m2 ∧ m2.get f = some (.lst (acc ++ (flS a r).map bt))
  | _, _, 0, _, _, _, _, _, _, _, hk, _, _, _, _ => absurd hk (Nat.not_lt_zero _)
  | [], [], k + 1, t, acc, x4, x5, m, _, _, _, _, he, _, hg => ⟨x4, x5, m, by
    rw [phS, Int.add_zero]
    · rfl
    · intros; contradiction, he, by rw [flS, List.map_nil, List.append_nil]; exact hg; intros; contradiction⟩
  | [], _ :: _, _ + 1, _, _, _, _, _, _, h, _, _, _, _, _ => by simp at h
  | _ :: _, [], _ + 1, _, _, _, _, _, _, h, _, _, _, _, _ => by simp at h
  | x :: a, c :: r, k + 1, t, acc, x4, x5, m, ha, hl, hk, hz, he, hfn, hg => by
    have hx := ha x (List.mem_cons_self ..)
    have gm := he.gd hM
    have e1 : Ext M (m.push (.dct false (phD c))) := he.push
    have hg1 : (m.push (.dct false (phD c))).get f = some (.lst acc) := by rw [get_push_old hfn]; exact hg
    have hz2 : acc.length + (a.length + 1) ≤ 1000 := hz
    have e2 : Ext M ((m.push (.dct false (phD c))).wr f (.lst (acc ++ [bt (fl x c)])) (bt (fl x c))) := e1.wr hM hf (Nat.lt_succ_of_lt hfn)
    have hg2 : ((m.push (.dct false (phD c))).wr f (.lst (acc ++ [bt (fl x c)])) (bt (fl x c))).get f = some (.lst (acc ++ [bt (fl x c)])) := by
      rw [get_wr _ (e1.gd hM).len (Nat.lt_succ_of_lt hfn), if_pos rfl]
    obtain ⟨y4, y5, m2, ih, i2, i3⟩ := loop_done (cl := cl) hM (w0 := w0) (b0 := b0) hf a r k (t + ph x c) (acc ++ [bt (fl x c)]) (some (.str [x])) (some (bt c)) _ (fun w h => ha w (List.mem_cons_of_mem _ h)) (by simpa using hl) (Nat.lt_of_succ_lt_succ hk) (by rw [List.length_append, List.length_singleton]; omega) e2 (Nat.lt_succ_of_lt hfn) hg2
    refine ⟨y4, y5, m2, ?_, i2, ?_⟩
    · rw [phS, ← Int.add_assoc, ← ih]
      rw [List.map_cons, List.map_cons, loopV_succ, step_zi]
      dsimp only
      have d1 := disp_ph (m := m) (c := c) gm
      unfold phD at d1
      have d2 := ix_ph (m := m.push (.dct false (phD c))) (l := m.n) (c := c) get_push_same hx
      unfold phD at d2
      have d3 := in_XY (m := m.push (.dct false (phD c))) hx
      unfold phD at d3
      have d4 := isLst_of hg1
      unfold phD at d4
      have d5 := app_ok (y := bt (fl x c)) hg1 (by omega)
      unfold phD at d5
      have d6 := @fl_if x c
      unfold bt at d5 ⊢
      cases q : (x == 88 || x == 89) with
      | true =>
        rw [q] at d3 d6
        rw [d6, if_pos rfl] at d5 ⊢
        simp only [doneB, b__law_done, gTpT_eq (show [MV.str [x], MV.int (bi c)].length = 2 from rfl), E.den_loc, E.den_c, E.den_gc, E.den_bin, E.den_cmp, E.den_chn, E.den_bop, E.den_nt, E.den_neg, E.den_ife, E.den_tup, E.den_lst, E.den_ix, E.den_sl, E.den_call, E.den_blt, E.den_isi, E.den_mth, E.den_lc, E.den_dct, E.den_ifr, P.den_nil, P.den_cons, xPr0_eq, xPrC_eq, xDct_eq, L.den_nil, L.den_cons, B.den_one, B.den_cons, T.den_tru, T.den_cmp, T.den_chn, T.den_nt, T.den_bop, BT.den_one, BT.den_cons, O.den_no, O.den_on, OT.den_no, OT.den_on, I.den_src, I.den_zip, I.den_rg1, I.den_rg2, S.den_set, S.den_ret, S.den_retN, S.den_run, S.den_pass, S.den_ifs, S.den_fr, S.den_put, Ss.den_nil, Ss.den_one, Ss.den_cons, Tg.den_nm, Tg.den_tp, Tgs.den_nil, Tgs.den_cons, Tgs.many, bind_ok, xLoc_0, xLoc_s, xC_eq, xBin_eq, x1_eq, xA_eq, xArg0_eq, xArgC_eq, xChn_eq, asB_eq, xB_eq, xTru_eq, xNotT_eq, xNot_eq, xIf_eq, bopC_eq, bopTC_eq, xSl_eq, xPart0_eq, xPart1_eq, asI_eq, xMeth_eq, xSrc_eq, xI_eq, xSet_eq, xRet_eq, xRetN_eq, xDo_eq, xPass_eq, xSeq_eq, xIfS_eq, xPut_eq, gNm_eq, gsNil_eq, gsCons_eq, addI, subI, gtI, ltI, leI, geI, eqI, neI, intI, intB, truV_bl, isStr_str, beq_tt, beq_ff, beq_tf, beq_ft, nt_t, nt_f, List.set_cons_zero, List.set_cons_succ, if_tt, if_ff, ↓reduceIte, negV_int, Bf.f, Mt.f, Mt.ty, tstV, mul2, d1, d2, d3, d4, sub_bi, d5]
        rfl
      | false =>
        rw [q] at d3 d6
        rw [d6, if_neg Bool.false_ne_true] at d5 ⊢
        simp only [doneB, b__law_done, gTpT_eq (show [MV.str [x], MV.int (bi c)].length = 2 from rfl), E.den_loc, E.den_c, E.den_gc, E.den_bin, E.den_cmp, E.den_chn, E.den_bop, E.den_nt, E.den_neg, E.den_ife, E.den_tup, E.den_lst, E.den_ix, E.den_sl, E.den_call, E.den_blt, E.den_isi, E.den_mth, E.den_lc, E.den_dct, E.den_ifr, P.den_nil, P.den_cons, xPr0_eq, xPrC_eq, xDct_eq, L.den_nil, L.den_cons, B.den_one, B.den_cons, T.den_tru, T.den_cmp, T.den_chn, T.den_nt, T.den_bop, BT.den_one, BT.den_cons, O.den_no, O.den_on, OT.den_no, OT.den_on, I.den_src, I.den_zip, I.den_rg1, I.den_rg2, S.den_set, S.den_ret, S.den_retN, S.den_run, S.den_pass, S.den_ifs, S.den_fr, S.den_put, Ss.den_nil, Ss.den_one, Ss.den_cons, Tg.den_nm, Tg.den_tp, Tgs.den_nil, Tgs.den_cons, Tgs.many, bind_ok, xLoc_0, xLoc_s, xC_eq, xBin_eq, x1_eq, xA_eq, xArg0_eq, xArgC_eq, xChn_eq, asB_eq, xB_eq, xTru_eq, xNotT_eq, xNot_eq, xIf_eq, bopC_eq, bopTC_eq, xSl_eq, xPart0_eq, xPart1_eq, asI_eq, xMeth_eq, xSrc_eq, xI_eq, xSet_eq, xRet_eq, xRetN_eq, xDo_eq, xPass_eq, xSeq_eq, xIfS_eq, xPut_eq, gNm_eq, gsNil_eq, gsCons_eq, addI, subI, gtI, ltI, leI, geI, eqI, neI, intI, intB, truV_bl, isStr_str, beq_tt, beq_ff, beq_tf, beq_ft, nt_t, nt_f, List.set_cons_zero, List.set_cons_succ, if_tt, if_ff, ↓reduceIte, negV_int, Bf.f, Mt.f, Mt.ty, tstV, mul2, d1, d2, d3, d4, sub_bi, d5]
        rfl
    · rw [flS, List.map_cons]
      rw [List.append_assoc] at i3
      exact i3
theorem zip_tb (a : List Nat) (ys : List MV) : zipV [.str a, .tup ys] m = .ok (.zip (.imm (a.map fun c => .str [c])) (.imm ys)) m := rfl
theorem tup_ok {i : Nat} {xs : List MV} (h : m.get i = some (.lst xs)) (hl : xs.length ≤ 1000) : tupleV [.ref i] m = .ok (.tup xs) m := by
  unfold tupleV itemsOf
  dsimp only
  rw [h]
def dn (t : Int) (r : List Bool) : MV := .tup [.int t, .tup (r.map bt)]
theorem under_bits {n : Nat} : ∀ r : List Bool, MV.unders n (r.map bt) = true
  | [] => by rw [List.map_nil, MV.unders]
  | b :: r => by
    rw [List.map_cons, MV.unders, under_bits r, bt, under_int] <;> rfl
theorem under_dn {n : Nat} {t : Int} {r : List Bool} : MV.under n (dn t r) = true := by
  rw [dn, MV.under, MV.unders, MV.unders, MV.unders, under_int, MV.under, under_bits] <;> rfl
theorem done_c {s t : Int} (hs : s = 1 ∨ s = -1) (hg : Gd m) (ha : ∀ c ∈ a, isL c) (hl : a.length = r.length) (h4 : a.length ≤ 4) :
    clN taA (k + 1) 29 [.tup [.int s, .str a], .int t, .tup (r.map bt)] m = .ok (dn ((t + sq (decide (s < 0)) + phS a r) % 4) (flS a r)) m := by
  rw [cl_df do_at]
  obtain ⟨hA, eA⟩ : ∃ z, z = m.enter.push (.lst []) := ⟨_, rfl⟩
  have xA : Ext m.enter hA := by rw [eA]; exact (Ext.refl hg.enter).push
  obtain ⟨y4, y5, m2, lp, x2, g2⟩ := loop_done (cl := clN taA k) hg.enter (w0 := .tup [.int s, .str a]) (b0 := .tup (r.map bt)) (f := m.n) (Nat.le_refl _) a r ((a.map fun c => MV.str [c]).length + 1) (t + sq (decide (s < 0))) [] none none hA ha hl (by rw [List.length_map]; omega) (by show 0 + a.length ≤ 1000; omega) xA (by rw [eA]; exact Nat.lt_succ_self _) (by rw [eA]; exact get_push_same)
  refine call_rtE (m' := m2) rfl hg ?_ x2 under_dn
  rw [show frameV 6 [MV.tup [.int s, .str a], .int t, .tup (r.map bt)] = [some (.tup [.int s, .str a]), some (.int t), some (.tup (r.map bt)), none, none, none] from rfl]
  have eb : b__law_done = .cons (.set (.bin .Add (.loc 1) (.ife (.cmp .Gt (.ix (.loc 0) (.c (.int 0))) (.c (.int 0))) (.c (.int 0)) (.c (.int 2)))) (.nm 1)) (.cons (.set (.lst .nil) (.nm 3)) (.cons (.fr (.zip (.cons (.ix (.loc 0) (.c (.int 1))) (.cons (.loc 2) .nil))) (.tp (.cons (.nm 4) (.cons (.nm 5) .nil))) doneB) (.one (.ret (.tup (.cons (.bin .Mod (.loc 1) (.c (.int 4))) (.cons (.blt .tuple (.cons (.loc 3) .nil)) .nil))))))) := rfl
  have ln : (flS a r).length = r.length := flS_len a r hl
  have tp := tup_ok (m := m2) (i := m.n) g2 (by rw [List.nil_append, List.length_map, ln, ← hl]; omega)
  have lk : mkLst [] m.enter = .ok (.ref m.n) hA := by rw [eA]; exact mkLst_ok (Nat.le_of_ble_eq_true rfl)
  rw [eb]
  rcases hs with rfl | rfl
  · have z0 : sq (decide ((1 : Int) < 0)) = 0 := rfl
    rw [z0] at lp ⊢
    simp only [E.den_loc, E.den_c, E.den_gc, E.den_bin, E.den_cmp, E.den_chn, E.den_bop, E.den_nt, E.den_neg, E.den_ife, E.den_tup, E.den_lst, E.den_ix, E.den_sl, E.den_call, E.den_blt, E.den_isi, E.den_mth, E.den_lc, E.den_dct, E.den_ifr, P.den_nil, P.den_cons, xPr0_eq, xPrC_eq, xDct_eq, L.den_nil, L.den_cons, B.den_one, B.den_cons, T.den_tru, T.den_cmp, T.den_chn, T.den_nt, T.den_bop, BT.den_one, BT.den_cons, O.den_no, O.den_on, OT.den_no, OT.den_on, I.den_src, I.den_zip, I.den_rg1, I.den_rg2, S.den_set, S.den_ret, S.den_retN, S.den_run, S.den_pass, S.den_ifs, S.den_fr, S.den_put, Ss.den_nil, Ss.den_one, Ss.den_cons, Tg.den_nm, Tg.den_tp, Tgs.den_nil, Tgs.den_cons, Tgs.many, bind_ok, xLoc_0, xLoc_s, xC_eq, xBin_eq, x1_eq, xA_eq, xArg0_eq, xArgC_eq, xChn_eq, asB_eq, xB_eq, xTru_eq, xNotT_eq, xNot_eq, xIf_eq, bopC_eq, bopTC_eq, xSl_eq, xPart0_eq, xPart1_eq, asI_eq, xMeth_eq, xSrc_eq, xI_eq, xSet_eq, xRet_eq, xRetN_eq, xDo_eq, xPass_eq, xSeq_eq, xIfS_eq, xPut_eq, gNm_eq, gsNil_eq, gsCons_eq, addI, subI, gtI, ltI, leI, geI, eqI, neI, intI, intB, truV_bl, isStr_str, beq_tt, beq_ff, beq_tf, beq_ft, nt_t, nt_f, List.set_cons_zero, List.set_cons_succ, if_tt, if_ff, ↓reduceIte, negV_int, Bf.f, Mt.f, Mt.ty, tstV, xFor_eq, ixT0, ixT1, zip_tb, Src.size, lk, show decide ((0 : Int) < 1) = true from rfl]
    rw [lp]
    simp only [E.den_loc, E.den_c, E.den_gc, E.den_bin, E.den_cmp, E.den_chn, E.den_bop, E.den_nt, E.den_neg, E.den_ife, E.den_tup, E.den_lst, E.den_ix, E.den_sl, E.den_call, E.den_blt, E.den_isi, E.den_mth, E.den_lc, E.den_dct, E.den_ifr, P.den_nil, P.den_cons, xPr0_eq, xPrC_eq, xDct_eq, L.den_nil, L.den_cons, B.den_one, B.den_cons, T.den_tru, T.den_cmp, T.den_chn, T.den_nt, T.den_bop, BT.den_one, BT.den_cons, O.den_no, O.den_on, OT.den_no, OT.den_on, I.den_src, I.den_zip, I.den_rg1, I.den_rg2, S.den_set, S.den_ret, S.den_retN, S.den_run, S.den_pass, S.den_ifs, S.den_fr, S.den_put, Ss.den_nil, Ss.den_one, Ss.den_cons, Tg.den_nm, Tg.den_tp, Tgs.den_nil, Tgs.den_cons, Tgs.many, bind_ok, xLoc_0, xLoc_s, xC_eq, xBin_eq, x1_eq, xA_eq, xArg0_eq, xArgC_eq, xChn_eq, asB_eq, xB_eq, xTru_eq, xNotT_eq, xNot_eq, xIf_eq, bopC_eq, bopTC_eq, xSl_eq, xPart0_eq, xPart1_eq, asI_eq, xMeth_eq, xSrc_eq, xI_eq, xSet_eq, xRet_eq, xRetN_eq, xDo_eq, xPass_eq, xSeq_eq, xIfS_eq, xPut_eq, gNm_eq, gsNil_eq, gsCons_eq, addI, subI, gtI, ltI, leI, geI, eqI, neI, intI, intB, truV_bl, isStr_str, beq_tt, beq_ff, beq_tf, beq_ft, nt_t, nt_f, List.set_cons_zero, List.set_cons_succ, if_tt, if_ff, ↓reduceIte, negV_int, Bf.f, Mt.f, Mt.ty, tstV, modI (show (0 : Int) < 4 by decide), tp, mkTup2]
    rfl
  · have z0 : sq (decide ((-1 : Int) < 0)) = 2 := rfl
    rw [z0] at lp ⊢
    simp only [E.den_loc, E.den_c, E.den_gc, E.den_bin, E.den_cmp, E.den_chn, E.den_bop, E.den_nt, E.den_neg, E.den_ife, E.den_tup, E.den_lst, E.den_ix, E.den_sl, E.den_call, E.den_blt, E.den_isi, E.den_mth, E.den_lc, E.den_dct, E.den_ifr, P.den_nil, P.den_cons, xPr0_eq, xPrC_eq, xDct_eq, L.den_nil, L.den_cons, B.den_one, B.den_cons, T.den_tru, T.den_cmp, T.den_chn, T.den_nt, T.den_bop, BT.den_one, BT.den_cons, O.den_no, O.den_on, OT.den_no, OT.den_on, I.den_src, I.den_zip, I.den_rg1, I.den_rg2, S.den_set, S.den_ret, S.den_retN, S.den_run, S.den_pass, S.den_ifs, S.den_fr, S.den_put, Ss.den_nil, Ss.den_one, Ss.den_cons, Tg.den_nm, Tg.den_tp, Tgs.den_nil, Tgs.den_cons, Tgs.many, bind_ok, xLoc_0, xLoc_s, xC_eq, xBin_eq, x1_eq, xA_eq, xArg0_eq, xArgC_eq, xChn_eq, asB_eq, xB_eq, xTru_eq, xNotT_eq, xNot_eq, xIf_eq, bopC_eq, bopTC_eq, xSl_eq, xPart0_eq, xPart1_eq, asI_eq, xMeth_eq, xSrc_eq, xI_eq, xSet_eq, xRet_eq, xRetN_eq, xDo_eq, xPass_eq, xSeq_eq, xIfS_eq, xPut_eq, gNm_eq, gsNil_eq, gsCons_eq, addI, subI, gtI, ltI, leI, geI, eqI, neI, intI, intB, truV_bl, isStr_str, beq_tt, beq_ff, beq_tf, beq_ft, nt_t, nt_f, List.set_cons_zero, List.set_cons_succ, if_tt, if_ff, ↓reduceIte, negV_int, Bf.f, Mt.f, Mt.ty, tstV, xFor_eq, ixT0, ixT1, zip_tb, Src.size, lk, show decide ((0 : Int) < -1) = false from rfl]
    rw [lp]
    simp only [E.den_loc, E.den_c, E.den_gc, E.den_bin, E.den_cmp, E.den_chn, E.den_bop, E.den_nt, E.den_neg, E.den_ife, E.den_tup, E.den_lst, E.den_ix, E.den_sl, E.den_call, E.den_blt, E.den_isi, E.den_mth, E.den_lc, E.den_dct, E.den_ifr, P.den_nil, P.den_cons, xPr0_eq, xPrC_eq, xDct_eq, L.den_nil, L.den_cons, B.den_one, B.den_cons, T.den_tru, T.den_cmp, T.den_chn, T.den_nt, T.den_bop, BT.den_one, BT.den_cons, O.den_no, O.den_on, OT.den_no, OT.den_on, I.den_src, I.den_zip, I.den_rg1, I.den_rg2, S.den_set, S.den_ret, S.den_retN, S.den_run, S.den_pass, S.den_ifs, S.den_fr, S.den_put, Ss.den_nil, Ss.den_one, Ss.den_cons, Tg.den_nm, Tg.den_tp, Tgs.den_nil, Tgs.den_cons, Tgs.many, bind_ok, xLoc_0, xLoc_s, xC_eq, xBin_eq, x1_eq, xA_eq, xArg0_eq, xArgC_eq, xChn_eq, asB_eq, xB_eq, xTru_eq, xNotT_eq, xNot_eq, xIf_eq, bopC_eq, bopTC_eq, xSl_eq, xPart0_eq, xPart1_eq, asI_eq, xMeth_eq, xSrc_eq, xI_eq, xSet_eq, xRet_eq, xRetN_eq, xDo_eq, xPass_eq, xSeq_eq, xIfS_eq, xPut_eq, gNm_eq, gsNil_eq, gsCons_eq, addI, subI, gtI, ltI, leI, geI, eqI, neI, intI, intB, truV_bl, isStr_str, beq_tt, beq_ff, beq_tf, beq_ft, nt_t, nt_f, List.set_cons_zero, List.set_cons_succ, if_tt, if_ff, ↓reduceIte, negV_int, Bf.f, Mt.f, Mt.ty, tstV, modI (show (0 : Int) < 4 by decide), tp, mkTup2]
    rfl
end
section
variable {k : Nat} {m : MH} {a b : List Nat} {r : List Bool}
theorem both_c {s t : Int} (hs : s = 1 ∨ s = -1) (ht : t = 1 ∨ t = -1) (hg : Gd m) (ha : ∀ c ∈ a, isL c) (hb : ∀ c ∈ b, isL c) (hl : a.length = b.length) (hr : r.length = a.length) (h4 : a.length ≤ 4) :
    clN taA (k + 2) 30 [.tup [.int s, .str a], .tup [.int t, .str b], .tup (r.map bt)] m = .ok (dn (((0 + sq (decide (t < 0)) + phS b r) % 4 + sq (decide (s < 0)) + phS a (flS b r)) % 4) (flS a (flS b r))) m := by
  rw [cl_df (tab := taA) (g := 30) rfl]
  refine call_rt rfl hg (m' := m.enter) ?_ .refl under_dn
  rw [show frameV 5 [MV.tup [.int s, .str a], .tup [.int t, .str b], .tup (r.map bt)] = [some (.tup [.int s, .str a]), some (.tup [.int t, .str b]), some (.tup (r.map bt)), none, none] from rfl]
  have d1 := done_c (k := k) (t := 0) ht hg.enter hb (r := r) (by omega) (by omega)
  have d2 := done_c (k := k) (t := (0 + sq (decide (t < 0)) + phS b r) % 4) (r := flS b r) hs hg.enter ha (by rw [flS_len b r (by omega)]; omega) h4
  have e : dn ((0 + sq (decide (t < 0)) + phS b r) % 4) (flS b r) = .tup [.int ((0 + sq (decide (t < 0)) + phS b r) % 4), .tup ((flS b r).map bt)] := rfl
  rw [e] at d1
  simp only [b__law_both_done, E.den_loc, E.den_c, E.den_gc, E.den_bin, E.den_cmp, E.den_chn, E.den_bop, E.den_nt, E.den_neg, E.den_ife, E.den_tup, E.den_lst, E.den_ix, E.den_sl, E.den_call, E.den_blt, E.den_isi, E.den_mth, E.den_lc, E.den_dct, E.den_ifr, P.den_nil, P.den_cons, xPr0_eq, xPrC_eq, xDct_eq, L.den_nil, L.den_cons, B.den_one, B.den_cons, T.den_tru, T.den_cmp, T.den_chn, T.den_nt, T.den_bop, BT.den_one, BT.den_cons, O.den_no, O.den_on, OT.den_no, OT.den_on, I.den_src, I.den_zip, I.den_rg1, I.den_rg2, S.den_set, S.den_ret, S.den_retN, S.den_run, S.den_pass, S.den_ifs, S.den_fr, S.den_put, Ss.den_nil, Ss.den_one, Ss.den_cons, Tg.den_nm, Tg.den_tp, Tgs.den_nil, Tgs.den_cons, Tgs.many, bind_ok, xLoc_0, xLoc_s, xC_eq, xBin_eq, x1_eq, xA_eq, xArg0_eq, xArgC_eq, xChn_eq, asB_eq, xB_eq, xTru_eq, xNotT_eq, xNot_eq, xIf_eq, bopC_eq, bopTC_eq, xSl_eq, xPart0_eq, xPart1_eq, asI_eq, xMeth_eq, xSrc_eq, xI_eq, xSet_eq, xRet_eq, xRetN_eq, xDo_eq, xPass_eq, xSeq_eq, xIfS_eq, xPut_eq, gNm_eq, gsNil_eq, gsCons_eq, addI, subI, gtI, ltI, leI, geI, eqI, neI, intI, intB, truV_bl, isStr_str, beq_tt, beq_ff, beq_tf, beq_ft, nt_t, nt_f, List.set_cons_zero, List.set_cons_succ, if_tt, if_ff, ↓reduceIte, negV_int, Bf.f, Mt.f, Mt.ty, tstV, d1, gTpT_eq (show [MV.int ((0 + sq (decide (t < 0)) + phS b r) % 4), .tup ((flS b r).map bt)].length = 2 from rfl), d2]
/-! rows of bits -/
def bitsL : Nat → List (List Bool)
  | 0 => [[]]
  | n + 1 => (bitsL n).map (· ++ [false]) ++ (bitsL n).map (· ++ [true])
theorem bitsL_len : ∀ n, (bitsL n).length = 2 ^ n
  | 0 => rfl
  | n + 1 => by
    rw [bitsL, List.length_append, List.length_map, List.length_map, bitsL_len n]
    omega
theorem bitsL_row : ∀ n, ∀ r ∈ bitsL n, r.length = n
  | 0, r, h => by
    rw [bitsL, List.mem_singleton] at h
    rw [h] <;> rfl
  | n + 1, r, h => by
    rw [bitsL, List.mem_append] at h
    rcases h with h | h <;> obtain ⟨q, hq, rfl⟩ := List.mem_map.mp h <;> rw [List.length_append, bitsL_row n q hq] <;> rfl
theorem bitsL_ne : ∀ n, bitsL n ≠ []
  | 0, h => by cases h
  | n + 1, h => by
    have := congrArg List.length h
    rw [bitsL_len] at this
    have h2 := Nat.two_pow_pos (n + 1)
    rw [this] at h2
    cases h2
def rowV (r : List Bool) : MV := .tup (r.map bt)
theorem pow_le {j w : Nat} (h : j ≤ w) (h4 : w ≤ 4) : 2 ^ j ≤ 16 := Nat.le_trans (Nat.pow_le_pow_right (by decide) (show j ≤ 4 by omega)) (by decide)
/-- a comprehension that puts a bit behind all rows -/
theorem lc_bit {cl : Cl} {i : Nat} {n : Nat} {c : Bool} {x0 x2 x3 : Option MV} (hn : n ≤ 4) (h : m.get i = some (.lst ((bitsL n).map rowV))) (z : Int) (hz : z = bi c) :
    xLc [3] (xSrc (xLoc 1)) (gNm 3) Option.none (xBin (binV .Add) (xLoc 3) (xA mkTup (xArgC (xC (.int z)) xArg0))) [x0, some (.ref i), x2, x3] m = .ok (.ref m.n) (m.push (.lst ((bitsL n).map fun r => rowV (r ++ [c])))) := by
  have hl : ((bitsL n).map rowV).length ≤ 16 := by rw [List.length_map, bitsL_len]; exact pow_le (Nat.le_refl n) hn
  have e : ((bitsL n).map rowV).filterMap (fun v => match v with
      | .tup ys => some (MV.tup (ys ++ [bt c]))
      | _ => none) = (bitsL n).map fun r => rowV (r ++ [c]) := by
    rw [List.filterMap_map]
    have : ((fun v => match v with
      | .tup ys => some (MV.tup (ys ++ [bt c]))
      | _ => none) ∘ rowV : List Bool → Option MV) = fun r => some (rowV (r ++ [c])) := by
      funext r
      show some (MV.tup (r.map bt ++ [bt c])) = some (.tup ((r ++ [c]).map bt))
      rw [List.map_append] <;> rfl
    rw [this, fm_some]
  rw [lc_pure (m1 := m) (sr := .liv i 0) (xs := (bitsL n).map rowV) (fun v => match v with
      | .tup ys => some (MV.tup (ys ++ [bt c]))
      | _ => none) (by
      rw [xSrc_eq, xLoc_s, xLoc_0, bind_ok, src_lst h]) (by
      unfold Src.size
      rw [h]
      exact Nat.le_trans (Nat.succ_le_succ hl) (by decide)) (its_list h) (by unfold Src.size; rw [h]; exact Nat.le_refl _), e]
  intro v hv
  obtain ⟨r, hr, rfl⟩ := List.mem_map.mp hv
  refine ⟨_, rfl, rfl, ?_⟩
  have hrl := bitsL_row n r hr
  subst hz
  simp only [E.den_loc, E.den_c, E.den_gc, E.den_bin, E.den_cmp, E.den_chn, E.den_bop, E.den_nt, E.den_neg, E.den_ife, E.den_tup, E.den_lst, E.den_ix, E.den_sl, E.den_call, E.den_blt, E.den_isi, E.den_mth, E.den_lc, E.den_dct, E.den_ifr, P.den_nil, P.den_cons, xPr0_eq, xPrC_eq, xDct_eq, L.den_nil, L.den_cons, B.den_one, B.den_cons, T.den_tru, T.den_cmp, T.den_chn, T.den_nt, T.den_bop, BT.den_one, BT.den_cons, O.den_no, O.den_on, OT.den_no, OT.den_on, I.den_src, I.den_zip, I.den_rg1, I.den_rg2, S.den_set, S.den_ret, S.den_retN, S.den_run, S.den_pass, S.den_ifs, S.den_fr, S.den_put, Ss.den_nil, Ss.den_one, Ss.den_cons, Tg.den_nm, Tg.den_tp, Tgs.den_nil, Tgs.den_cons, Tgs.many, bind_ok, xLoc_0, xLoc_s, xC_eq, xBin_eq, x1_eq, xA_eq, xArg0_eq, xArgC_eq, xChn_eq, asB_eq, xB_eq, xTru_eq, xNotT_eq, xNot_eq, xIf_eq, bopC_eq, bopTC_eq, xSl_eq, xPart0_eq, xPart1_eq, asI_eq, xMeth_eq, xSrc_eq, xI_eq, xSet_eq, xRet_eq, xRetN_eq, xDo_eq, xPass_eq, xSeq_eq, xIfS_eq, xPut_eq, gNm_eq, gsNil_eq, gsCons_eq, addI, subI, gtI, ltI, leI, geI, eqI, neI, intI, intB, truV_bl, isStr_str, beq_tt, beq_ff, beq_tf, beq_ft, nt_t, nt_f, List.set_cons_zero, List.set_cons_succ, if_tt, if_ff, ↓reduceIte, negV_int, Bf.f, Mt.f, Mt.ty, tstV, wipeM]
  show R.bind (mkTup [MV.int (bi c)] m) _ = _
  rw [show mkTup [MV.int (bi c)] m = .ok (.tup [.int (bi c)]) m from rfl, bind_ok]
  exact addT (Nat.le_trans (show (r.map bt).length + 1 ≤ 5 by rw [List.length_map, hrl]; omega) (by decide))
def bitB : Ss := match b__law_all_bits with
  | .cons _ (.cons (.fr _ _ b) _) => b
  | _ => .nil
theorem under_rows {n : Nat} : ∀ l : List (List Bool), MV.unders n (l.map rowV) = true
  | [] => by rw [List.map_nil, MV.unders]
  | r :: l => by
    rw [List.map_cons, MV.unders, under_rows l, rowV, MV.under, under_bits] <;> rfl
theorem loop_bits {cl : Cl} {M : MH} (hM : Gd M) {w : Nat} (hw : w ≤ 4) : ∀ (xs : List MV) (j k i : Nat) (x0 x2 x3 : Option MV) (m : MH), j + xs.length = w → xs.length < k → Ext M m → M.n ≤ i → m.get i = some (.lst ((bitsL j).map rowV)) →
    ∃ y2 y3 i2 m2, loopV (gNm 2) (bitB.den cl) k (.imm xs) [x0, some (.ref i), x2, x3] m = .ok (.nx [x0, some (.ref i2), y2, y3]) m2 ∧ Ext M m2 ∧ M.n ≤ i2 ∧ m2.get i2 = some (.lst ((bitsL w).map rowV))
  | _, _, 0, _, _, _, _, _, _, hk, _, _, _ => absurd hk (Nat.not_lt_zero _)
  | [], j, k + 1, i, x0, x2, x3, m, hj, _, he, hi, hg => ⟨x2, x3, i, m, rfl, he, hi, by
    have : j = w := hj
    rw [← this]
    exact hg⟩
  | x :: xs, j, k + 1, i, x0, x2, x3, m, hj, hk, he, hi, hg => by
    have hj2 : j + (xs.length + 1) = w := hj
    obtain ⟨hA, eA⟩ : ∃ z, z = m.push (.lst ((bitsL j).map fun r => rowV (r ++ [false]))) := ⟨_, rfl⟩
    obtain ⟨hB, eB⟩ : ∃ z, z = hA.push (.lst ((bitsL j).map fun r => rowV (r ++ [true]))) := ⟨_, rfl⟩
    have eAx : Ext M hA := by rw [eA]; exact he.push
    have eBx : Ext M hB := by rw [eB]; exact eAx.push
    have l1 := lc_bit (cl := cl) (m := m) (i := i) (n := j) (c := false) (x0 := x0) (x2 := some x) (x3 := x3) (by omega) hg 0 rfl
    have l2 := lc_bit (cl := cl) (m := hA) (i := i) (n := j) (c := true) (x0 := x0) (x2 := some x) (x3 := x3) (by omega) (by rw [eA, get_push_old (get_lt hg)]; exact hg) 1 rfl
    rw [← eA] at l1
    rw [← eB] at l2
    have gA : hB.get m.n = some (.lst ((bitsL j).map fun r => rowV (r ++ [false]))) := by rw [eB, eA]; exact get_2
    have gB : hB.get hA.n = some (.lst ((bitsL j).map fun r => rowV (r ++ [true]))) := by rw [eB]; exact get_push_same
    have pw := pow_le (j := j) (w := 4) (by omega) (Nat.le_refl 4)
    have ad := addL gA gB (by rw [List.length_map, List.length_map, bitsL_len]; omega)
    have er : ((bitsL j).map fun r => rowV (r ++ [false])) ++ ((bitsL j).map fun r => rowV (r ++ [true])) = (bitsL (j + 1)).map rowV := by
      rw [bitsL, List.map_append, List.map_map, List.map_map] <;> rfl
    rw [er] at ad
    obtain ⟨hC, eC⟩ : ∃ z, z = hB.push (.lst ((bitsL (j + 1)).map rowV)) := ⟨_, rfl⟩
    rw [← eC] at ad
    have eCx : Ext M hC := by rw [eC]; exact eBx.push
    obtain ⟨y2, y3, i2, m2, ih, i3, i4, i5⟩ := loop_bits (cl := cl) hM hw xs (j + 1) k hB.n x0 (some x) x3 hC (by omega) (Nat.lt_of_succ_lt_succ hk) eCx eBx.le (by rw [eC]; exact get_push_same)
    refine ⟨y2, y3, i2, m2, ?_, i3, i4, i5⟩
    rw [loop_cons, ← ih]
    simp only [bitB, b__law_all_bits, E.den_loc, E.den_c, E.den_gc, E.den_bin, E.den_cmp, E.den_chn, E.den_bop, E.den_nt, E.den_neg, E.den_ife, E.den_tup, E.den_lst, E.den_ix, E.den_sl, E.den_call, E.den_blt, E.den_isi, E.den_mth, E.den_lc, E.den_dct, E.den_ifr, P.den_nil, P.den_cons, xPr0_eq, xPrC_eq, xDct_eq, L.den_nil, L.den_cons, B.den_one, B.den_cons, T.den_tru, T.den_cmp, T.den_chn, T.den_nt, T.den_bop, BT.den_one, BT.den_cons, O.den_no, O.den_on, OT.den_no, OT.den_on, I.den_src, I.den_zip, I.den_rg1, I.den_rg2, S.den_set, S.den_ret, S.den_retN, S.den_run, S.den_pass, S.den_ifs, S.den_fr, S.den_put, Ss.den_nil, Ss.den_one, Ss.den_cons, Tg.den_nm, Tg.den_tp, Tgs.den_nil, Tgs.den_cons, Tgs.many, bind_ok, xLoc_0, xLoc_s, xC_eq, xBin_eq, x1_eq, xA_eq, xArg0_eq, xArgC_eq, xChn_eq, asB_eq, xB_eq, xTru_eq, xNotT_eq, xNot_eq, xIf_eq, bopC_eq, bopTC_eq, xSl_eq, xPart0_eq, xPart1_eq, asI_eq, xMeth_eq, xSrc_eq, xI_eq, xSet_eq, xRet_eq, xRetN_eq, xDo_eq, xPass_eq, xSeq_eq, xIfS_eq, xPut_eq, gNm_eq, gsNil_eq, gsCons_eq, addI, subI, gtI, ltI, leI, geI, eqI, neI, intI, intB, truV_bl, isStr_str, beq_tt, beq_ff, beq_tf, beq_ft, nt_t, nt_f, List.set_cons_zero, List.set_cons_succ, if_tt, if_ff, ↓reduceIte, negV_int, Bf.f, Mt.f, Mt.ty, tstV, l1, l2, ad]
theorem all_bits_c {w : Nat} (hg : Gd m) (hw : w ≤ 4) : clN taA (k + 1) 26 [.int (w : Int)] m = .ok (.ref m.n) (m.push (.lst ((bitsL w).map rowV))) := by
  rw [cl_df (tab := taA) (g := 26) rfl]
  obtain ⟨hA, eA⟩ : ∃ z, z = m.enter.push (.lst [.tup []]) := ⟨_, rfl⟩
  have xA : Ext m.enter hA := by rw [eA]; exact (Ext.refl hg.enter).push
  obtain ⟨y2, y3, i2, m2, lp, x2, hi2, g2⟩ := loop_bits (cl := clN taA k) hg.enter hw (rngL 0 w) 0 ((rngL 0 w).length + 1) m.n (some (.int (w : Int))) none none hA (by rw [rngL_length]; omega) (Nat.lt_succ_self _) xA (Nat.le_refl _) (by rw [eA]; exact get_push_same)
  refine call_newE (m' := m2) (i := i2) rfl hg ?_ x2 hi2 g2 (under_rows _)
  rw [show frameV 4 [MV.int (w : Int)] = [some (.int (w : Int)), none, none, none] from rfl]
  have eb : b__law_all_bits = .cons (.set (.lst (.cons (.tup .nil) .nil)) (.nm 1)) (.cons (.fr (.rg1 (.cons (.loc 0) .nil)) (.nm 2) bitB) (.one (.ret (.loc 1)))) := rfl
  have lk : mkLst [.tup []] m.enter = .ok (.ref m.n) hA := by rw [eA]; exact mkLst_ok (Nat.le_of_ble_eq_true rfl)
  have t0 : mkTup [] m.enter = .ok (.tup []) m.enter := rfl
  rw [eb]
  simp only [E.den_loc, E.den_c, E.den_gc, E.den_bin, E.den_cmp, E.den_chn, E.den_bop, E.den_nt, E.den_neg, E.den_ife, E.den_tup, E.den_lst, E.den_ix, E.den_sl, E.den_call, E.den_blt, E.den_isi, E.den_mth, E.den_lc, E.den_dct, E.den_ifr, P.den_nil, P.den_cons, xPr0_eq, xPrC_eq, xDct_eq, L.den_nil, L.den_cons, B.den_one, B.den_cons, T.den_tru, T.den_cmp, T.den_chn, T.den_nt, T.den_bop, BT.den_one, BT.den_cons, O.den_no, O.den_on, OT.den_no, OT.den_on, I.den_src, I.den_zip, I.den_rg1, I.den_rg2, S.den_set, S.den_ret, S.den_retN, S.den_run, S.den_pass, S.den_ifs, S.den_fr, S.den_put, Ss.den_nil, Ss.den_one, Ss.den_cons, Tg.den_nm, Tg.den_tp, Tgs.den_nil, Tgs.den_cons, Tgs.many, bind_ok, xLoc_0, xLoc_s, xC_eq, xBin_eq, x1_eq, xA_eq, xArg0_eq, xArgC_eq, xChn_eq, asB_eq, xB_eq, xTru_eq, xNotT_eq, xNot_eq, xIf_eq, bopC_eq, bopTC_eq, xSl_eq, xPart0_eq, xPart1_eq, asI_eq, xMeth_eq, xSrc_eq, xI_eq, xSet_eq, xRet_eq, xRetN_eq, xDo_eq, xPass_eq, xSeq_eq, xIfS_eq, xPut_eq, gNm_eq, gsNil_eq, gsCons_eq, addI, subI, gtI, ltI, leI, geI, eqI, neI, intI, intB, truV_bl, isStr_str, beq_tt, beq_ff, beq_tf, beq_ft, nt_t, nt_f, List.set_cons_zero, List.set_cons_succ, if_tt, if_ff, ↓reduceIte, negV_int, Bf.f, Mt.f, Mt.ty, tstV, xFor_eq, lk, t0, rng1_eq (m := hA) (n := w) (by omega), Src.size, lp]
/-! a told word -/
theorem word_in_c {n : Bool} (hg : Gd m) (ha : Ltr a) : clN taA (k + 1) 27 [.str (wd n a)] m = .ok (.tup [.int (bif n then -1 else 1), .str a]) m := by
  rw [cl_df (tab := taA) (g := 27) rfl]
  refine call_rt rfl hg (m' := m.enter) ?_ .refl (by rw [MV.under, MV.unders, MV.unders, MV.unders, under_int, under_str] <;> rfl)
  rw [show frameV 1 [MV.str (wd n a)] = [some (.str (wd n a))] from rfl]
  have fa := ha.few
  have sl2 : slV (.str (45 :: a)) (some 1) Option.none m.enter = .ok (.str a) m.enter := by
    show (if Nat.ble (45 :: a).length big then R.ok (MV.str (cut (45 :: a) (some 1) Option.none)) m.enter else .bad) = _
    rw [if_pos (leB (by rw [List.length_cons]; omega))]
    congr 2
    have : a.length = 1 ∨ a.length = 2 ∨ a.length = 3 ∨ a.length = 4 := by have := ha.pos; omega
    match a, this with
    | [_], _ => rfl
    | [_, _], _ => rfl
    | [_, _, _], _ => rfl
    | [_, _, _, _], _ => rfl
  have e1 := sl_wd (m := m.enter) (n := n) ha
  have e2 := sg_eq (m := m.enter) (n := n) ha
  cases n with
  | true =>
    have e1 : slV (.str (45 :: a)) Option.none (some 1) m.enter = .ok (.str ((wd true a).take 1)) m.enter := e1
    simp only [b__law_word_in, E.den_loc, E.den_c, E.den_gc, E.den_bin, E.den_cmp, E.den_chn, E.den_bop, E.den_nt, E.den_neg, E.den_ife, E.den_tup, E.den_lst, E.den_ix, E.den_sl, E.den_call, E.den_blt, E.den_isi, E.den_mth, E.den_lc, E.den_dct, E.den_ifr, P.den_nil, P.den_cons, xPr0_eq, xPrC_eq, xDct_eq, L.den_nil, L.den_cons, B.den_one, B.den_cons, T.den_tru, T.den_cmp, T.den_chn, T.den_nt, T.den_bop, BT.den_one, BT.den_cons, O.den_no, O.den_on, OT.den_no, OT.den_on, I.den_src, I.den_zip, I.den_rg1, I.den_rg2, S.den_set, S.den_ret, S.den_retN, S.den_run, S.den_pass, S.den_ifs, S.den_fr, S.den_put, Ss.den_nil, Ss.den_one, Ss.den_cons, Tg.den_nm, Tg.den_tp, Tgs.den_nil, Tgs.den_cons, Tgs.many, bind_ok, xLoc_0, xLoc_s, xC_eq, xBin_eq, x1_eq, xA_eq, xArg0_eq, xArgC_eq, xChn_eq, asB_eq, xB_eq, xTru_eq, xNotT_eq, xNot_eq, xIf_eq, bopC_eq, bopTC_eq, xSl_eq, xPart0_eq, xPart1_eq, asI_eq, xMeth_eq, xSrc_eq, xI_eq, xSet_eq, xRet_eq, xRetN_eq, xDo_eq, xPass_eq, xSeq_eq, xIfS_eq, xPut_eq, gNm_eq, gsNil_eq, gsCons_eq, addI, subI, gtI, ltI, leI, geI, eqI, neI, intI, intB, truV_bl, isStr_str, beq_tt, beq_ff, beq_tf, beq_ft, nt_t, nt_f, List.set_cons_zero, List.set_cons_succ, if_tt, if_ff, ↓reduceIte, negV_int, Bf.f, Mt.f, Mt.ty, tstV, wd, cond_true] at e1 e2 ⊢
    simp only [E.den_loc, E.den_c, E.den_gc, E.den_bin, E.den_cmp, E.den_chn, E.den_bop, E.den_nt, E.den_neg, E.den_ife, E.den_tup, E.den_lst, E.den_ix, E.den_sl, E.den_call, E.den_blt, E.den_isi, E.den_mth, E.den_lc, E.den_dct, E.den_ifr, P.den_nil, P.den_cons, xPr0_eq, xPrC_eq, xDct_eq, L.den_nil, L.den_cons, B.den_one, B.den_cons, T.den_tru, T.den_cmp, T.den_chn, T.den_nt, T.den_bop, BT.den_one, BT.den_cons, O.den_no, O.den_on, OT.den_no, OT.den_on, I.den_src, I.den_zip, I.den_rg1, I.den_rg2, S.den_set, S.den_ret, S.den_retN, S.den_run, S.den_pass, S.den_ifs, S.den_fr, S.den_put, Ss.den_nil, Ss.den_one, Ss.den_cons, Tg.den_nm, Tg.den_tp, Tgs.den_nil, Tgs.den_cons, Tgs.many, bind_ok, xLoc_0, xLoc_s, xC_eq, xBin_eq, x1_eq, xA_eq, xArg0_eq, xArgC_eq, xChn_eq, asB_eq, xB_eq, xTru_eq, xNotT_eq, xNot_eq, xIf_eq, bopC_eq, bopTC_eq, xSl_eq, xPart0_eq, xPart1_eq, asI_eq, xMeth_eq, xSrc_eq, xI_eq, xSet_eq, xRet_eq, xRetN_eq, xDo_eq, xPass_eq, xSeq_eq, xIfS_eq, xPut_eq, gNm_eq, gsNil_eq, gsCons_eq, addI, subI, gtI, ltI, leI, geI, eqI, neI, intI, intB, truV_bl, isStr_str, beq_tt, beq_ff, beq_tf, beq_ft, nt_t, nt_f, List.set_cons_zero, List.set_cons_succ, if_tt, if_ff, ↓reduceIte, negV_int, Bf.f, Mt.f, Mt.ty, tstV, e1, e2, sl2, mkTup2]
  | false =>
    have e1 : slV (.str a) Option.none (some 1) m.enter = .ok (.str ((wd false a).take 1)) m.enter := e1
    simp only [b__law_word_in, E.den_loc, E.den_c, E.den_gc, E.den_bin, E.den_cmp, E.den_chn, E.den_bop, E.den_nt, E.den_neg, E.den_ife, E.den_tup, E.den_lst, E.den_ix, E.den_sl, E.den_call, E.den_blt, E.den_isi, E.den_mth, E.den_lc, E.den_dct, E.den_ifr, P.den_nil, P.den_cons, xPr0_eq, xPrC_eq, xDct_eq, L.den_nil, L.den_cons, B.den_one, B.den_cons, T.den_tru, T.den_cmp, T.den_chn, T.den_nt, T.den_bop, BT.den_one, BT.den_cons, O.den_no, O.den_on, OT.den_no, OT.den_on, I.den_src, I.den_zip, I.den_rg1, I.den_rg2, S.den_set, S.den_ret, S.den_retN, S.den_run, S.den_pass, S.den_ifs, S.den_fr, S.den_put, Ss.den_nil, Ss.den_one, Ss.den_cons, Tg.den_nm, Tg.den_tp, Tgs.den_nil, Tgs.den_cons, Tgs.many, bind_ok, xLoc_0, xLoc_s, xC_eq, xBin_eq, x1_eq, xA_eq, xArg0_eq, xArgC_eq, xChn_eq, asB_eq, xB_eq, xTru_eq, xNotT_eq, xNot_eq, xIf_eq, bopC_eq, bopTC_eq, xSl_eq, xPart0_eq, xPart1_eq, asI_eq, xMeth_eq, xSrc_eq, xI_eq, xSet_eq, xRet_eq, xRetN_eq, xDo_eq, xPass_eq, xSeq_eq, xIfS_eq, xPut_eq, gNm_eq, gsNil_eq, gsCons_eq, addI, subI, gtI, ltI, leI, geI, eqI, neI, intI, intB, truV_bl, isStr_str, beq_tt, beq_ff, beq_tf, beq_ft, nt_t, nt_f, List.set_cons_zero, List.set_cons_succ, if_tt, if_ff, ↓reduceIte, negV_int, Bf.f, Mt.f, Mt.ty, tstV, wd, cond_false] at e1 e2 ⊢
    simp only [E.den_loc, E.den_c, E.den_gc, E.den_bin, E.den_cmp, E.den_chn, E.den_bop, E.den_nt, E.den_neg, E.den_ife, E.den_tup, E.den_lst, E.den_ix, E.den_sl, E.den_call, E.den_blt, E.den_isi, E.den_mth, E.den_lc, E.den_dct, E.den_ifr, P.den_nil, P.den_cons, xPr0_eq, xPrC_eq, xDct_eq, L.den_nil, L.den_cons, B.den_one, B.den_cons, T.den_tru, T.den_cmp, T.den_chn, T.den_nt, T.den_bop, BT.den_one, BT.den_cons, O.den_no, O.den_on, OT.den_no, OT.den_on, I.den_src, I.den_zip, I.den_rg1, I.den_rg2, S.den_set, S.den_ret, S.den_retN, S.den_run, S.den_pass, S.den_ifs, S.den_fr, S.den_put, Ss.den_nil, Ss.den_one, Ss.den_cons, Tg.den_nm, Tg.den_tp, Tgs.den_nil, Tgs.den_cons, Tgs.many, bind_ok, xLoc_0, xLoc_s, xC_eq, xBin_eq, x1_eq, xA_eq, xArg0_eq, xArgC_eq, xChn_eq, asB_eq, xB_eq, xTru_eq, xNotT_eq, xNot_eq, xIf_eq, bopC_eq, bopTC_eq, xSl_eq, xPart0_eq, xPart1_eq, asI_eq, xMeth_eq, xSrc_eq, xI_eq, xSet_eq, xRet_eq, xRetN_eq, xDo_eq, xPass_eq, xSeq_eq, xIfS_eq, xPut_eq, gNm_eq, gsNil_eq, gsCons_eq, addI, subI, gtI, ltI, leI, geI, eqI, neI, intI, intB, truV_bl, isStr_str, beq_tt, beq_ff, beq_tf, beq_ft, nt_t, nt_f, List.set_cons_zero, List.set_cons_succ, if_tt, if_ff, ↓reduceIte, negV_int, Bf.f, Mt.f, Mt.ty, tstV, e1, e2, mkTup2]
/-! what is told alike -/
theorem okM_bits {n : Nat} : ∀ r : List Bool, (r.map bt).all (okM m n) = true
  | [] => rfl
  | b :: r => by
    rw [List.map_cons, List.all_cons, okM_bits r]
    cases n <;> rfl
theorem eqL_bits {n : Nat} : ∀ r q : List Bool, eqL (eqM m n) (r.map bt) (q.map bt) = (r == q)
  | [], [] => rfl
  | [], _ :: _ => rfl
  | _ :: _, [] => rfl
  | b :: r, c :: q => by
    rw [List.map_cons, List.map_cons, eqL, eqL_bits r q]
    have : eqM m n (bt b) (bt c) = (b == c) := by cases n <;> cases b <;> cases c <;> rfl
    rw [this] <;> rfl
theorem eq_dn {t u : Int} {r q : List Bool} : cmpV .Eq (dn t r) (dn u q) m = .ok (.bl ((t == u) && (r == q))) m := by
  show optB (if (okM m 40 (dn t r) && okM m 40 (dn u q)) = true then some (eqM m 40 (dn t r) (dn u q)) else none) _ m = _
  have o : ∀ (t : Int) (r : List Bool), okM m 40 (dn t r) = true := fun t r => by
    show ([MV.int t, .tup (r.map bt)].all (okM m 39)) = true
    rw [List.all_cons, List.all_cons]
    show (true && ((r.map bt).all (okM m 38) && true)) = true
    rw [okM_bits] <;> rfl
  have e : eqM m 40 (dn t r) (dn u q) = ((t == u) && (r == q)) := by
    show ((t == u) && (eqL (eqM m 38) (r.map bt) (q.map bt) && true)) = _
    rw [eqL_bits, Bool.and_true]
  rw [o, o, e] <;> rfl
theorem repr_bl {b : Bool} : reprV [.bl b] m = .ok (.str (bif b then cps "True" else cps "False")) m := by
  unfold reprV
  dsimp only
  rw [show okM m 40 (.bl b) = true from rfl, show dat m 40 (.bl b) = some (.bool b) from rfl]
  dsimp only
  cases b with
  | true =>
    rw [show ((PyData.bool true).showable && Nat.ble (PyData.bool true).shown.length big) = true from by decide +kernel]
    dsimp only
    rw [show (PyData.bool true).shown.cps.toList = cps "True" from by decide +kernel] <;> rfl
  | false =>
    rw [show ((PyData.bool false).showable && Nat.ble (PyData.bool false).shown.length big) = true from by decide +kernel]
    dsimp only
    rw [show (PyData.bool false).shown.cps.toList = cps "False" from by decide +kernel] <;> rfl
end
section
variable {k : Nat} {m : MH} {a b : List Nat}
theorem big4 {c : Nat} (h : c < 1000) : c < 1114112 := Nat.lt_trans h (by decide)
theorem all_const {D : Bool} {n : Nat} (hD : n = 0 → D = true) (xs : List MV) (hx : xs.length = 0 → D = true) : (xs.all fun _ => D) = D := by
  cases D with
  | true => exact List.all_eq_true.mpr fun _ _ => rfl
  | false =>
    cases xs with
    | nil => exact absurd (hx rfl) (by decide)
    | cons x xs => rfl
theorem lc_rows {i n : Nat} {e : X} {s : Dv.St} {D : Bool} (hn : n ≤ 4) (h0 : xLoc 2 s m = .ok (.ref i) m) (h : m.get i = some (.lst ((bitsL n).map rowV)))
    (hd : ∀ r, r ∈ bitsL n → ∃ s1, gNm 7 (rowV r) (wipeM s [7]) m = .ok s1 m ∧ e s1 m = .ok (.bl D) m) :
    xA (allV fun bs => bs.all id) (xArgC (xLc [7] (xSrc (xLoc 2)) (gNm 7) Option.none e) xArg0) s m = .ok (.bl D) (m.push (.lst (((bitsL n).map rowV).map fun _ => .bl D))) := by
  have hl : ((bitsL n).map rowV).length ≤ 16 := by rw [List.length_map, bitsL_len]; exact pow_le (Nat.le_refl n) hn
  have lc : xLc [7] (xSrc (xLoc 2)) (gNm 7) Option.none e s m = .ok (.ref m.n) (m.push (.lst (((bitsL n).map rowV).map fun _ => .bl D))) := by
    rw [lc_pure (m1 := m) (sr := .liv i 0) (xs := (bitsL n).map rowV) (fun _ => some (MV.bl D)) (by
        rw [xSrc_eq, h0, bind_ok, src_lst h]) (by
        unfold Src.size
        rw [h]
        exact Nat.le_trans (Nat.succ_le_succ hl) (by decide)) (its_list h) (by unfold Src.size; rw [h]; exact Nat.le_refl _), fm_some]
    intro v hv
    obtain ⟨r, hr, rfl⟩ := List.mem_map.mp hv
    obtain ⟨s1, h1, h2⟩ := hd r hr
    exact ⟨s1, h1, rfl, h2⟩
  have al := all_new (m := m) (xs := (bitsL n).map rowV) (f := fun _ => D)
  rw [xA_eq, xArgC_eq, lc, bind_ok, xArg0_eq, bind_ok, bind_ok, al]
  rw [all_const (n := 1) (fun h => by cases h) _ fun h => absurd (List.map_eq_nil_iff.mp (List.length_eq_zero_iff.mp h)) (bitsL_ne n)]
theorem tx_at : taA[28]? = some (.df 1 1 textIR) := rfl
theorem pair_c {s u : Int} (hs : s = 1 ∨ s = -1) (hu : u = 1 ∨ u = -1) (hg : Gd m) (ha : Ltr a) (hb : Ltr b) (hl : a.length = b.length) :
    clN taA (k + 5) 31 [.tup [.int s, .str a], .tup [.int u, .str b]] m = .ok (.bl true) m := by
  rw [cl_df (tab := taA) (g := 31) rfl, callD_eq (np := 2) rfl]
  rw [show frameV 8 [MV.tup [.int s, .str a], MV.tup [.int u, .str b]] = [some (.tup [.int s, .str a]), some (.tup [.int u, .str b]), none, none, none, none, none, none] from rfl]
  have fa := ha.few
  have fb := hb.few
  obtain ⟨n, en⟩ : ∃ n, n = decide (s < 0) := ⟨_, rfl⟩
  obtain ⟨p, ep⟩ : ∃ n, n = decide (u < 0) := ⟨_, rfl⟩
  have hP : HasP 25 taA := rfl
  have x1 : clN taA (k + 4) 28 [.tup [.int s, .str a]] m.enter = .ok (.str (wd n a)) m.enter := by rw [en]; exact word_text_c tx_at hg.enter fa
  have x2 : clN taA (k + 4) 28 [.tup [.int u, .str b]] m.enter = .ok (.str (wd p b)) m.enter := by rw [ep]; exact word_text_c tx_at hg.enter fb
  have y5 : lenV [.str a] m.enter = .ok (.int (a.length : Int)) m.enter := len_str (by omega)
  have ab := all_bits_c (k := k + 3) (m := m.enter) (w := a.length) hg.enter fa
  obtain ⟨hA, eA⟩ : ∃ z, z = m.enter.push (.lst ((bitsL a.length).map rowV)) := ⟨_, rfl⟩
  have exA : Ext m.enter hA := by rw [eA]; exact (Ext.refl hg.enter).push
  have gA := exA.gd hg.enter
  have nA : hA.get m.enter.n = some (.lst ((bitsL a.length).map rowV)) := by rw [eA]; exact get_push_same
  rw [← eA] at ab
  obtain ⟨D, eD⟩ : ∃ z, z = passB a b := ⟨_, rfl⟩
  have q1 : ∀ (x2 x3 x4 x5 x6 x7 : Option MV), x2 = some (.ref m.enter.n) → ∀ r ∈ bitsL a.length, ∃ s1, gNm 7 (rowV r) (wipeM [some (.tup [.int s, .str a]), some (.tup [.int u, .str b]), x2, x3, x4, x5, x6, x7] [7]) hA = .ok s1 hA ∧
      xBin (cmpV .Eq) (xA (clN taA (k + 4) 30) (xArgC (xLoc 0) (xArgC (xLoc 1) (xArgC (xLoc 7) xArg0)))) (xA (clN taA (k + 4) 30) (xArgC (xLoc 1) (xArgC (xLoc 0) (xArgC (xLoc 7) xArg0)))) s1 hA = .ok (.bl D) hA := fun x2 x3 x4 x5 x6 x7 _ r hr => by
    have hrl := bitsL_row _ r hr
    refine ⟨_, rfl, ?_⟩
    have b1 := both_c (k := k + 2) (m := hA) (r := r) hs hu gA ha.all hb.all hl hrl fa
    have b2 := both_c (k := k + 2) (m := hA) (r := r) hu hs gA hb.all ha.all hl.symm (by omega) fb
    have rv : rowV r = .tup (r.map bt) := rfl
    have be := both_eq (n := n) (p := p) (r := r) ha.all hb.all hl hrl
    rw [← en, ← ep] at b1 b2
    simp only [E.den_loc, E.den_c, E.den_gc, E.den_bin, E.den_cmp, E.den_chn, E.den_bop, E.den_nt, E.den_neg, E.den_ife, E.den_tup, E.den_lst, E.den_ix, E.den_sl, E.den_call, E.den_blt, E.den_isi, E.den_mth, E.den_lc, E.den_dct, E.den_ifr, P.den_nil, P.den_cons, xPr0_eq, xPrC_eq, xDct_eq, L.den_nil, L.den_cons, B.den_one, B.den_cons, T.den_tru, T.den_cmp, T.den_chn, T.den_nt, T.den_bop, BT.den_one, BT.den_cons, O.den_no, O.den_on, OT.den_no, OT.den_on, I.den_src, I.den_zip, I.den_rg1, I.den_rg2, S.den_set, S.den_ret, S.den_retN, S.den_run, S.den_pass, S.den_ifs, S.den_fr, S.den_put, Ss.den_nil, Ss.den_one, Ss.den_cons, Tg.den_nm, Tg.den_tp, Tgs.den_nil, Tgs.den_cons, Tgs.many, bind_ok, xLoc_0, xLoc_s, xC_eq, xBin_eq, x1_eq, xA_eq, xArg0_eq, xArgC_eq, xChn_eq, asB_eq, xB_eq, xTru_eq, xNotT_eq, xNot_eq, xIf_eq, bopC_eq, bopTC_eq, xSl_eq, xPart0_eq, xPart1_eq, asI_eq, xMeth_eq, xSrc_eq, xI_eq, xSet_eq, xRet_eq, xRetN_eq, xDo_eq, xPass_eq, xSeq_eq, xIfS_eq, xPut_eq, gNm_eq, gsNil_eq, gsCons_eq, addI, subI, gtI, ltI, leI, geI, eqI, neI, intI, intB, truV_bl, isStr_str, beq_tt, beq_ff, beq_tf, beq_ft, nt_t, nt_f, List.set_cons_zero, List.set_cons_succ, if_tt, if_ff, ↓reduceIte, negV_int, Bf.f, Mt.f, Mt.ty, tstV, wipeM, rv, b1, b2, eq_dn, be, eD]
  obtain ⟨hB, eB⟩ : ∃ z, z = hA.push (.lst (((bitsL a.length).map rowV).map fun _ => .bl D)) := ⟨_, rfl⟩
  have exB : Ext m.enter hB := by rw [eB]; exact exA.push
  have gB := exB.gd hg.enter
  have nB : hB.get m.enter.n = some (.lst ((bitsL a.length).map rowV)) := by rw [eB, get_push_old (get_lt nA)]; exact nA
  have l1 := lc_rows (m := hA) (i := m.enter.n) (n := a.length) (s := [some (.tup [.int s, .str a]), some (.tup [.int u, .str b]), some (.ref m.enter.n), none, none, some (.str (wd n a)), some (.str (wd p b)), none]) (D := D) fa rfl nA (q1 _ _ _ _ _ _ rfl)
  rw [← eB] at l1
  have ps : clN taA (k + 4) 22 [.str (wd n a), .str (wd p b)] hB = .ok (.bl D) hB := by rw [eD]; exact passes_c hP gB ha hb hl
  have ne : cmpV .NotEq (.str (bif D then cps "True" else cps "False")) (.str (bif D then cps "True" else cps "False")) hB = .ok (.bl false) hB := neS_S (by cases D <;> decide +kernel)
  have rb := repr_bl (m := hB) (b := D)
  rw [xA_eq, xArgC_eq] at l1
  simp only [xArg0_eq, bind_ok] at l1
  simp only [b__law_is_pair_right, E.den_loc, E.den_c, E.den_gc, E.den_bin, E.den_cmp, E.den_chn, E.den_bop, E.den_nt, E.den_neg, E.den_ife, E.den_tup, E.den_lst, E.den_ix, E.den_sl, E.den_call, E.den_blt, E.den_isi, E.den_mth, E.den_lc, E.den_dct, E.den_ifr, P.den_nil, P.den_cons, xPr0_eq, xPrC_eq, xDct_eq, L.den_nil, L.den_cons, B.den_one, B.den_cons, T.den_tru, T.den_cmp, T.den_chn, T.den_nt, T.den_bop, BT.den_one, BT.den_cons, O.den_no, O.den_on, OT.den_no, OT.den_on, I.den_src, I.den_zip, I.den_rg1, I.den_rg2, S.den_set, S.den_ret, S.den_retN, S.den_run, S.den_pass, S.den_ifs, S.den_fr, S.den_put, Ss.den_nil, Ss.den_one, Ss.den_cons, Tg.den_nm, Tg.den_tp, Tgs.den_nil, Tgs.den_cons, Tgs.many, bind_ok, xLoc_0, xLoc_s, xC_eq, xBin_eq, x1_eq, xA_eq, xArg0_eq, xArgC_eq, xChn_eq, asB_eq, xB_eq, xTru_eq, xNotT_eq, xNot_eq, xIf_eq, bopC_eq, bopTC_eq, xSl_eq, xPart0_eq, xPart1_eq, asI_eq, xMeth_eq, xSrc_eq, xI_eq, xSet_eq, xRet_eq, xRetN_eq, xDo_eq, xPass_eq, xSeq_eq, xIfS_eq, xPut_eq, gNm_eq, gsNil_eq, gsCons_eq, addI, subI, gtI, ltI, leI, geI, eqI, neI, intI, intB, truV_bl, isStr_str, beq_tt, beq_ff, beq_tf, beq_ft, nt_t, nt_f, List.set_cons_zero, List.set_cons_succ, if_tt, if_ff, ↓reduceIte, negV_int, Bf.f, Mt.f, Mt.ty, tstV, x1, x2, mkTup2, gTpT_eq (show [MV.str (wd n a), MV.str (wd p b)].length = 2 from rfl), ixT1, y5, ab, l1, ps, rb, ne]
  cases hD : D with
  | false =>
    simp only [E.den_loc, E.den_c, E.den_gc, E.den_bin, E.den_cmp, E.den_chn, E.den_bop, E.den_nt, E.den_neg, E.den_ife, E.den_tup, E.den_lst, E.den_ix, E.den_sl, E.den_call, E.den_blt, E.den_isi, E.den_mth, E.den_lc, E.den_dct, E.den_ifr, P.den_nil, P.den_cons, xPr0_eq, xPrC_eq, xDct_eq, L.den_nil, L.den_cons, B.den_one, B.den_cons, T.den_tru, T.den_cmp, T.den_chn, T.den_nt, T.den_bop, BT.den_one, BT.den_cons, O.den_no, O.den_on, OT.den_no, OT.den_on, I.den_src, I.den_zip, I.den_rg1, I.den_rg2, S.den_set, S.den_ret, S.den_retN, S.den_run, S.den_pass, S.den_ifs, S.den_fr, S.den_put, Ss.den_nil, Ss.den_one, Ss.den_cons, Tg.den_nm, Tg.den_tp, Tgs.den_nil, Tgs.den_cons, Tgs.many, bind_ok, xLoc_0, xLoc_s, xC_eq, xBin_eq, x1_eq, xA_eq, xArg0_eq, xArgC_eq, xChn_eq, asB_eq, xB_eq, xTru_eq, xNotT_eq, xNot_eq, xIf_eq, bopC_eq, bopTC_eq, xSl_eq, xPart0_eq, xPart1_eq, asI_eq, xMeth_eq, xSrc_eq, xI_eq, xSet_eq, xRet_eq, xRetN_eq, xDo_eq, xPass_eq, xSeq_eq, xIfS_eq, xPut_eq, gNm_eq, gsNil_eq, gsCons_eq, addI, subI, gtI, ltI, leI, geI, eqI, neI, intI, intB, truV_bl, isStr_str, beq_tt, beq_ff, beq_tf, beq_ft, nt_t, nt_f, List.set_cons_zero, List.set_cons_succ, if_tt, if_ff, ↓reduceIte, negV_int, Bf.f, Mt.f, Mt.ty, tstV, callR_rt]
    exact fin_ext hg exB under_bl
  | true =>
    have hp : passB a b = true := by rw [← eD, hD]
    have tm : clN taA (k + 4) 23 [.str (wd n a), .str (wd p b)] hB = .ok (.str (wd (minB n p a b) (mkS a b))) hB := times_c hP gB ha hb hl hp
    have hL := mkS_Ltr ha hb hl
    have wi : clN taA (k + 4) 27 [.str (wd (minB n p a b) (mkS a b))] hB = .ok (.tup [.int (bif minB n p a b then -1 else 1), .str (mkS a b)]) hB := word_in_c gB hL
    have sg : (bif minB n p a b then (-1 : Int) else 1) = 1 ∨ (bif minB n p a b then (-1 : Int) else 1) = -1 := by cases minB n p a b <;> simp
    have sd : decide ((bif minB n p a b then (-1 : Int) else 1) < 0) = minB n p a b := by cases minB n p a b <;> rfl
    have lm := mkS_length (a := a) (b := b) hl
    have q2 : ∀ (x3 x4 x5 x6 x7 : Option MV), x4 = some (.tup [.int (bif minB n p a b then -1 else 1), .str (mkS a b)]) → ∀ r ∈ bitsL a.length, ∃ s1, gNm 7 (rowV r) (wipeM [some (.tup [.int s, .str a]), some (.tup [.int u, .str b]), some (.ref m.enter.n), x3, x4, x5, x6, x7] [7]) hB = .ok s1 hB ∧
        xBin (cmpV .Eq) (xA (clN taA (k + 4) 29) (xArgC (xLoc 4) (xArgC (xC (.int 0)) (xArgC (xLoc 7) xArg0)))) (xA (clN taA (k + 4) 30) (xArgC (xLoc 0) (xArgC (xLoc 1) (xArgC (xLoc 7) xArg0)))) s1 hB = .ok (.bl true) hB := fun x3 x4 x5 x6 x7 e4 r hr => by
      have hrl := bitsL_row _ r hr
      subst e4
      refine ⟨_, rfl, ?_⟩
      have b1 := done_c (k := k + 3) (m := hB) (t := 0) (r := r) sg gB hL.all (by omega) hL.few
      have b2 := both_c (k := k + 2) (m := hB) (r := r) hs hu gB ha.all hb.all hl hrl fa
      have rv : rowV r = .tup (r.map bt) := rfl
      have be := whole_eq (n := n) (p := p) (r := r) ha.all hb.all hl hrl hp
      rw [← en, ← ep] at b2
      rw [sd] at b1
      simp only [E.den_loc, E.den_c, E.den_gc, E.den_bin, E.den_cmp, E.den_chn, E.den_bop, E.den_nt, E.den_neg, E.den_ife, E.den_tup, E.den_lst, E.den_ix, E.den_sl, E.den_call, E.den_blt, E.den_isi, E.den_mth, E.den_lc, E.den_dct, E.den_ifr, P.den_nil, P.den_cons, xPr0_eq, xPrC_eq, xDct_eq, L.den_nil, L.den_cons, B.den_one, B.den_cons, T.den_tru, T.den_cmp, T.den_chn, T.den_nt, T.den_bop, BT.den_one, BT.den_cons, O.den_no, O.den_on, OT.den_no, OT.den_on, I.den_src, I.den_zip, I.den_rg1, I.den_rg2, S.den_set, S.den_ret, S.den_retN, S.den_run, S.den_pass, S.den_ifs, S.den_fr, S.den_put, Ss.den_nil, Ss.den_one, Ss.den_cons, Tg.den_nm, Tg.den_tp, Tgs.den_nil, Tgs.den_cons, Tgs.many, bind_ok, xLoc_0, xLoc_s, xC_eq, xBin_eq, x1_eq, xA_eq, xArg0_eq, xArgC_eq, xChn_eq, asB_eq, xB_eq, xTru_eq, xNotT_eq, xNot_eq, xIf_eq, bopC_eq, bopTC_eq, xSl_eq, xPart0_eq, xPart1_eq, asI_eq, xMeth_eq, xSrc_eq, xI_eq, xSet_eq, xRet_eq, xRetN_eq, xDo_eq, xPass_eq, xSeq_eq, xIfS_eq, xPut_eq, gNm_eq, gsNil_eq, gsCons_eq, addI, subI, gtI, ltI, leI, geI, eqI, neI, intI, intB, truV_bl, isStr_str, beq_tt, beq_ff, beq_tf, beq_ft, nt_t, nt_f, List.set_cons_zero, List.set_cons_succ, if_tt, if_ff, ↓reduceIte, negV_int, Bf.f, Mt.f, Mt.ty, tstV, wipeM, rv, b1, b2, eq_dn, be]
    have l2 := lc_rows (m := hB) (i := m.enter.n) (n := a.length) (s := [some (.tup [.int s, .str a]), some (.tup [.int u, .str b]), some (.ref m.enter.n), some (.bl true), some (.tup [.int (bif minB n p a b then -1 else 1), .str (mkS a b)]), some (.str (wd n a)), some (.str (wd p b)), none]) (D := true) fa rfl nB (q2 _ _ _ _ _ rfl)
    rw [xA_eq, xArgC_eq] at l2
    simp only [xArg0_eq, bind_ok] at l2
    simp only [E.den_loc, E.den_c, E.den_gc, E.den_bin, E.den_cmp, E.den_chn, E.den_bop, E.den_nt, E.den_neg, E.den_ife, E.den_tup, E.den_lst, E.den_ix, E.den_sl, E.den_call, E.den_blt, E.den_isi, E.den_mth, E.den_lc, E.den_dct, E.den_ifr, P.den_nil, P.den_cons, xPr0_eq, xPrC_eq, xDct_eq, L.den_nil, L.den_cons, B.den_one, B.den_cons, T.den_tru, T.den_cmp, T.den_chn, T.den_nt, T.den_bop, BT.den_one, BT.den_cons, O.den_no, O.den_on, OT.den_no, OT.den_on, I.den_src, I.den_zip, I.den_rg1, I.den_rg2, S.den_set, S.den_ret, S.den_retN, S.den_run, S.den_pass, S.den_ifs, S.den_fr, S.den_put, Ss.den_nil, Ss.den_one, Ss.den_cons, Tg.den_nm, Tg.den_tp, Tgs.den_nil, Tgs.den_cons, Tgs.many, bind_ok, xLoc_0, xLoc_s, xC_eq, xBin_eq, x1_eq, xA_eq, xArg0_eq, xArgC_eq, xChn_eq, asB_eq, xB_eq, xTru_eq, xNotT_eq, xNot_eq, xIf_eq, bopC_eq, bopTC_eq, xSl_eq, xPart0_eq, xPart1_eq, asI_eq, xMeth_eq, xSrc_eq, xI_eq, xSet_eq, xRet_eq, xRetN_eq, xDo_eq, xPass_eq, xSeq_eq, xIfS_eq, xPut_eq, gNm_eq, gsNil_eq, gsCons_eq, addI, subI, gtI, ltI, leI, geI, eqI, neI, intI, intB, truV_bl, isStr_str, beq_tt, beq_ff, beq_tf, beq_ft, nt_t, nt_f, List.set_cons_zero, List.set_cons_succ, if_tt, if_ff, ↓reduceIte, negV_int, Bf.f, Mt.f, Mt.ty, tstV, tm, wi, l2, callR_rt]
    exact fin_ext hg exB.push under_bl
theorem of_at : taA[32]? = some (.df 2 2 (ofIR 25)) := rfl
theorem tk_at : taA[25]? = some (.sp 2 takeV) := rfl
theorem dw_at : taA[33]? = some (.df 2 4 (drawnIR 32)) := rfl
def Lap (w : Nat) (M : MH) (j : Nat) (s : Dv.St) (m : MH) : Prop := Dr 0 (1 + j * (2 * (w + 1))) M m ∧ ∃ x2, s = [some (.ref 0), some (.int (w : Int)), x2]
def lapB : Ss := match b__law_right with
  | .cons _ (.cons (.fr _ _ b) _) => b
  | _ => .nil
theorem lap_ok {k w j : Nat} {M : MH} {Ew : Nat → MV → MH → Prop} (hM : Gd M) (hM0 : 0 < M.n) (h1 : 1 ≤ w) (h4 : w ≤ 4) (hj : j < 10) {x : MV} {s : Dv.St} {m : MH} (hs : Lap w M j s m) :
    (gNm 2 x s m).HA (fun s1 m1 => (lapB.den (clN taA (k + 5)) s1 m1).HA (fun fl m2 => (∃ s2, (fl = .nx s2 ∨ fl = .ct s2) ∧ Lap w M (j + 1) s2 m2) ∨ (∃ v, fl = .rt v ∧ False)) Ew) Ew := by
  obtain ⟨hd, x2, rfl⟩ := hs
  refine all_ok ?_
  have gm := hd.gd hM
  have nm : 0 < m.n := Nat.lt_of_lt_of_le hM0 hd.le
  have pm := hd.pot hM hM0
  have bj : j * (2 * (w + 1)) ≤ 9 * 10 := Nat.mul_le_mul (by omega) (by omega)
  simp only [lapB, b__law_right, E.den_loc, E.den_c, E.den_gc, E.den_bin, E.den_cmp, E.den_chn, E.den_bop, E.den_nt, E.den_neg, E.den_ife, E.den_tup, E.den_lst, E.den_ix, E.den_sl, E.den_call, E.den_blt, E.den_isi, E.den_mth, E.den_lc, E.den_dct, E.den_ifr, P.den_nil, P.den_cons, xPr0_eq, xPrC_eq, xDct_eq, L.den_nil, L.den_cons, B.den_one, B.den_cons, T.den_tru, T.den_cmp, T.den_chn, T.den_nt, T.den_bop, BT.den_one, BT.den_cons, O.den_no, O.den_on, OT.den_no, OT.den_on, I.den_src, I.den_zip, I.den_rg1, I.den_rg2, S.den_set, S.den_ret, S.den_retN, S.den_run, S.den_pass, S.den_ifs, S.den_fr, S.den_put, Ss.den_nil, Ss.den_one, Ss.den_cons, Tg.den_nm, Tg.den_tp, Tgs.den_nil, Tgs.den_cons, Tgs.many, bind_ok, xLoc_0, xLoc_s, xC_eq, xBin_eq, x1_eq, xA_eq, xArg0_eq, xArgC_eq, xChn_eq, asB_eq, xB_eq, xTru_eq, xNotT_eq, xNot_eq, xIf_eq, bopC_eq, bopTC_eq, xSl_eq, xPart0_eq, xPart1_eq, asI_eq, xMeth_eq, xSrc_eq, xI_eq, xSet_eq, xRet_eq, xRetN_eq, xDo_eq, xPass_eq, xSeq_eq, xIfS_eq, xPut_eq, gNm_eq, gsNil_eq, gsCons_eq, addI, subI, gtI, ltI, leI, geI, eqI, neI, intI, intB, truV_bl, isStr_str, beq_tt, beq_ff, beq_tf, beq_ft, nt_t, nt_f, List.set_cons_zero, List.set_cons_succ, if_tt, if_ff, ↓reduceIte, negV_int, Bf.f, Mt.f, Mt.ty, tstV, bind_bind]
  refine all_seq (drawn_c (k := k + 2) (i := 0) (w := w) dw_at of_at tk_at gm nm pm (by omega) h4) fun v m1 h => ?_
  obtain ⟨s1, a1, rfl, hs1, ha1, hl1, rfl⟩ := h
  have d1 : Dr 0 (1 + j * (2 * (w + 1)) + w + 1) M (m.pt 0 (1 + j * (2 * (w + 1)) + w + 1)) := hd.pt
  refine all_seq (drawn_c (k := k + 2) (i := 0) (w := w) dw_at of_at tk_at (d1.gd hM) (Nat.lt_of_lt_of_le hM0 d1.le) (d1.pot hM hM0) (by omega) h4) fun v m1 h => ?_
  obtain ⟨s2, a2, rfl, hs2, ha2, hl2, rfl⟩ := h
  have d2 := d1.pt (d := 1 + j * (2 * (w + 1)) + w + 1 + w + 1)
  have pr := pair_c (k := k) (m := (m.pt 0 (1 + j * (2 * (w + 1)) + w + 1)).pt 0 (1 + j * (2 * (w + 1)) + w + 1 + w + 1)) hs1 hs2 (d2.gd hM) ⟨ha1, by omega, by omega⟩ ⟨ha2, by omega, by omega⟩ (by omega)
  simp only [E.den_loc, E.den_c, E.den_gc, E.den_bin, E.den_cmp, E.den_chn, E.den_bop, E.den_nt, E.den_neg, E.den_ife, E.den_tup, E.den_lst, E.den_ix, E.den_sl, E.den_call, E.den_blt, E.den_isi, E.den_mth, E.den_lc, E.den_dct, E.den_ifr, P.den_nil, P.den_cons, xPr0_eq, xPrC_eq, xDct_eq, L.den_nil, L.den_cons, B.den_one, B.den_cons, T.den_tru, T.den_cmp, T.den_chn, T.den_nt, T.den_bop, BT.den_one, BT.den_cons, O.den_no, O.den_on, OT.den_no, OT.den_on, I.den_src, I.den_zip, I.den_rg1, I.den_rg2, S.den_set, S.den_ret, S.den_retN, S.den_run, S.den_pass, S.den_ifs, S.den_fr, S.den_put, Ss.den_nil, Ss.den_one, Ss.den_cons, Tg.den_nm, Tg.den_tp, Tgs.den_nil, Tgs.den_cons, Tgs.many, bind_ok, xLoc_0, xLoc_s, xC_eq, xBin_eq, x1_eq, xA_eq, xArg0_eq, xArgC_eq, xChn_eq, asB_eq, xB_eq, xTru_eq, xNotT_eq, xNot_eq, xIf_eq, bopC_eq, bopTC_eq, xSl_eq, xPart0_eq, xPart1_eq, asI_eq, xMeth_eq, xSrc_eq, xI_eq, xSet_eq, xRet_eq, xRetN_eq, xDo_eq, xPass_eq, xSeq_eq, xIfS_eq, xPut_eq, gNm_eq, gsNil_eq, gsCons_eq, addI, subI, gtI, ltI, leI, geI, eqI, neI, intI, intB, truV_bl, isStr_str, beq_tt, beq_ff, beq_tf, beq_ft, nt_t, nt_f, List.set_cons_zero, List.set_cons_succ, if_tt, if_ff, ↓reduceIte, negV_int, Bf.f, Mt.f, Mt.ty, tstV, pr]
  refine all_ok (.inl ⟨_, .inl rfl, ?_, _, rfl⟩)
  rw [show 1 + (j + 1) * (2 * (w + 1)) = 1 + j * (2 * (w + 1)) + w + 1 + w + 1 by rw [Nat.add_mul, Nat.one_mul]; omega]
  exact d2
theorem right_all (k : Nat) (sn : List Int) {Ew : Nat → MV → MH → Prop} : (clN taA (k + 6) 34 [.ref 0] (m0 sn)).HA (fun v m => v = .bl true ∧ isPot m = true) Ew := by
  have hg : Gd (m0 sn) := ⟨fun l h => (by cases h), rfl⟩
  have hi : 0 < (m0 sn).n := Nat.zero_lt_one
  rw [cl_df (tab := taA) (g := 34) rfl, callD_eq (np := 1) rfl]
  refine all_callR ?_
  rw [show frameV 3 [MV.ref 0] = [some (.ref 0), none, none] from rfl]
  have eb : b__law_right = .cons (.set (.bin .Add (.c (.int 1)) (.call 25 (.cons (.loc 0) (.cons (.c (.int 4)) .nil)))) (.nm 1)) (.cons (.fr (.rg1 (.cons (.c (.int 10)) .nil)) (.nm 2) lapB) (.one (.ret (.c (.bl true))))) := rfl
  rw [eb]
  simp only [E.den_loc, E.den_c, E.den_gc, E.den_bin, E.den_cmp, E.den_chn, E.den_bop, E.den_nt, E.den_neg, E.den_ife, E.den_tup, E.den_lst, E.den_ix, E.den_sl, E.den_call, E.den_blt, E.den_isi, E.den_mth, E.den_lc, E.den_dct, E.den_ifr, P.den_nil, P.den_cons, xPr0_eq, xPrC_eq, xDct_eq, L.den_nil, L.den_cons, B.den_one, B.den_cons, T.den_tru, T.den_cmp, T.den_chn, T.den_nt, T.den_bop, BT.den_one, BT.den_cons, O.den_no, O.den_on, OT.den_no, OT.den_on, I.den_src, I.den_zip, I.den_rg1, I.den_rg2, S.den_set, S.den_ret, S.den_retN, S.den_run, S.den_pass, S.den_ifs, S.den_fr, S.den_put, Ss.den_nil, Ss.den_one, Ss.den_cons, Tg.den_nm, Tg.den_tp, Tgs.den_nil, Tgs.den_cons, Tgs.many, bind_ok, xLoc_0, xLoc_s, xC_eq, xBin_eq, x1_eq, xA_eq, xArg0_eq, xArgC_eq, xChn_eq, asB_eq, xB_eq, xTru_eq, xNotT_eq, xNot_eq, xIf_eq, bopC_eq, bopTC_eq, xSl_eq, xPart0_eq, xPart1_eq, asI_eq, xMeth_eq, xSrc_eq, xI_eq, xSet_eq, xRet_eq, xRetN_eq, xDo_eq, xPass_eq, xSeq_eq, xIfS_eq, xPut_eq, gNm_eq, gsNil_eq, gsCons_eq, addI, subI, gtI, ltI, leI, geI, eqI, neI, intI, intB, truV_bl, isStr_str, beq_tt, beq_ff, beq_tf, beq_ft, nt_t, nt_f, List.set_cons_zero, List.set_cons_succ, if_tt, if_ff, ↓reduceIte, negV_int, Bf.f, Mt.f, Mt.ty, tstV, bind_bind]
  refine all_seq (take_all (gt := 25) (i := 0) (c := 0) (n := 4) tk_at rfl (by decide) (by decide) (by decide)) fun v m h => ?_
  obtain ⟨⟨j, hj, rfl⟩, rfl⟩ := h
  simp only [addI, bind_ok, List.set_cons_succ, List.set_cons_zero]
  rw [show (1 : Int) + (j : Int) = ((j + 1 : Nat) : Int) by omega]
  have st : Lap (j + 1) (m0 sn).enter 0 [some (.ref 0), some (.int ((j + 1 : Nat) : Int)), none] ((m0 sn).enter.pt 0 1) := ⟨by rw [Nat.zero_mul]; exact (Dr.of (c := 0) hg.enter rfl).pt, _, rfl⟩
  have hsrc : xI rng1V (xArgC (xC (MV.int 10)) xArg0) [some (.ref 0), some (.int ((j + 1 : Nat) : Int)), none] ((m0 sn).enter.pt 0 1) = .ok (.imm (rngL 0 10)) ((m0 sn).enter.pt 0 1) := by
    simp only [E.den_loc, E.den_c, E.den_gc, E.den_bin, E.den_cmp, E.den_chn, E.den_bop, E.den_nt, E.den_neg, E.den_ife, E.den_tup, E.den_lst, E.den_ix, E.den_sl, E.den_call, E.den_blt, E.den_isi, E.den_mth, E.den_lc, E.den_dct, E.den_ifr, P.den_nil, P.den_cons, xPr0_eq, xPrC_eq, xDct_eq, L.den_nil, L.den_cons, B.den_one, B.den_cons, T.den_tru, T.den_cmp, T.den_chn, T.den_nt, T.den_bop, BT.den_one, BT.den_cons, O.den_no, O.den_on, OT.den_no, OT.den_on, I.den_src, I.den_zip, I.den_rg1, I.den_rg2, S.den_set, S.den_ret, S.den_retN, S.den_run, S.den_pass, S.den_ifs, S.den_fr, S.den_put, Ss.den_nil, Ss.den_one, Ss.den_cons, Tg.den_nm, Tg.den_tp, Tgs.den_nil, Tgs.den_cons, Tgs.many, bind_ok, xLoc_0, xLoc_s, xC_eq, xBin_eq, x1_eq, xA_eq, xArg0_eq, xArgC_eq, xChn_eq, asB_eq, xB_eq, xTru_eq, xNotT_eq, xNot_eq, xIf_eq, bopC_eq, bopTC_eq, xSl_eq, xPart0_eq, xPart1_eq, asI_eq, xMeth_eq, xSrc_eq, xI_eq, xSet_eq, xRet_eq, xRetN_eq, xDo_eq, xPass_eq, xSeq_eq, xIfS_eq, xPut_eq, gNm_eq, gsNil_eq, gsCons_eq, addI, subI, gtI, ltI, leI, geI, eqI, neI, intI, intB, truV_bl, isStr_str, beq_tt, beq_ff, beq_tf, beq_ft, nt_t, nt_f, List.set_cons_zero, List.set_cons_succ, if_tt, if_ff, ↓reduceIte, negV_int, Bf.f, Mt.f, Mt.ty, tstV]
    exact rng1_eq (n := 10) (by omega)
  have lp : (xFor (xI rng1V (xArgC (xC (MV.int 10)) xArg0)) (gNm 2) (Ss.den (clN taA (k + 5)) lapB) [some (.ref 0), some (.int ((j + 1 : Nat) : Int)), none] ((m0 sn).enter.pt 0 1)).HA (fun fl m => ∃ s, fl = .nx s ∧ ∃ c, Dr 0 c (m0 sn).enter m) (fun c v m => Ew c v m.pop) := by
    refine for_inv (Lap (j + 1) (m0 sn).enter) hsrc st (fun s m h => ⟨s, rfl, _, h.1⟩) fun i x hx s m h => ?_
    have hi := (List.getElem?_eq_some_iff.mp hx).1
    rw [rngL_length] at hi
    refine (lap_ok (k := k) (x := x) hg.enter Nat.zero_lt_one (by omega) (by omega) hi h).mono (fun s1 m1 h => h.mono (fun fl m2 h => ?_) (fun _ _ _ h => h)) (fun _ _ _ h => h)
    rcases h with h | ⟨v, _, h⟩
    · exact .inl h
    · exact h.elim
  refine all_seq lp fun fl m h => ?_
  · obtain ⟨s, rfl, c, hd⟩ := h
    refine all_ok ?_
    show (fin 1 (.bl true) m).HA _ _
    rw [show fin 1 (.bl true) m = _ from Dr.fin hd hg hi under_bl]
    refine all_ok ⟨rfl, ?_⟩
    unfold isPot
    rw [get_pt_same hg hi]
end
def gR (sn : List Int) : R MV := clN taA 24 34 [.ref 0] (m0 sn)
theorem evR (sn : List Int) : Yes2 (gR sn) := Yes2.ofHA (right_all 18 sn)
section
variable {h : Heap} {mg : Str → Option Value} {G : Gl} {P : Program} {w : World} {base : Heap}
theorem rk (X : G.K.In h) (Ng : h.Ns mainGlobals mg) (c : SaysX faL gvL fnL G.K) : FnAt0 G rightV 25 P w mg base "_law_right" 1 := right_okY (prog_ok (progA X Ng c) 24 34 "_law_right" 1 rfl (by decide)) (evR G.sn)
theorem tkB (X : G.K.In h) (Ng : h.Ns mainGlobals mg) (c : SaysX faL gvL fnL G.K) : FnAt0 G takeV 25 P w mg base "_law_take" 2 := FnAt0.up (tk X Ng c) (show 1 ≤ 25 by decide)
theorem pkB (X : G.K.In h) (Ng : h.Ns mainGlobals mg) (c : SaysX faL gvL fnL G.K) : FnAt0 G potV 25 P w mg base "_law_pot" 2 := FnAt0.up (pk X Ng c) (show 1 ≤ 25 by decide)
theorem ckB (X : G.K.In h) (Ng : h.Ns mainGlobals mg) (c : SaysX faL gvL fnL G.K) : FnAt0 G cellsV 25 P w mg base "_law_cells" 2 := FnAt0.up (ck X Ng c) (show 1 ≤ 25 by decide)
theorem progB (X : G.K.In h) (Ng : h.Ns mainGlobals mg) (c : SaysX faL gvL fnL G.K) : Prog G P w mg base tbB taB 25 :=
  prog_of (.cons (.inl rfl) (.cons (.inl rfl) (.cons (.inl rfl) (.cons (.inl rfl) (.cons (.inl rfl) (.cons (.inl rfl) (.cons (.inl rfl) (.cons (.inl rfl) (.cons (.inl rfl) (.cons (.inl rfl) (.cons (.inl rfl) (.cons (.inl rfl) (.cons (.inl rfl) (.cons (.inl rfl) (.cons (.inl rfl) (.cons (.inl rfl) (.cons (.inl rfl) (.cons (.inl rfl) (.cons (.inl rfl) (.cons (.inl rfl) (.cons (.inl rfl) (.cons (.inl rfl) (.cons (.inl rfl) (.cons (.inl rfl) (.cons (.inl rfl) (.cons (.inl rfl) (.cons (.inl rfl) (.cons (.inl rfl) (.cons (.inl rfl) (.cons (.inl rfl) (.cons (.inl rfl) (.cons (.inl rfl) (.cons (.inl rfl) (.cons (.inl rfl) (.cons (.inr ⟨rfl, rk X Ng c⟩) (.cons (.inr ⟨rfl, pkB X Ng c⟩) (.cons (.inr ⟨rfl, ckB X Ng c⟩) (.cons (.inr ⟨rfl, def_B37 X Ng c⟩) .nil)))))))))))))))))))))))))))))))))))))) (fun q hq => gvK_ok X Ng (c.gvs hq)) (frAll X Ng c)
end
def gL (sn : List Int) : R MV := clN taB 24 37 [MV.scr] (mS sn)
theorem evL (sn : List Int) : Yes (gL sn) := .of (by kernel_rfl)
theorem kLaw0 (kV doc pm : Value) (an : Option Addr) (cdv ct u : Value) : bindArgs (PySem.W.fnOf "law" (dd 39).qual (dd 39).params (dd 39).body (dd 39).scope .none kV doc pm an cdv ct) ⟨[u], []⟩ = pure [(("_law_script" : Str), u)] := by kernel_rfl
theorem kLaw {K : PySem.W.Frag} {f : Addr} {fd : FuncData} (F : FunD K "law" (dd 39).qual (dd 39).params (dd 39).body (dd 39).scope [] [] f fd) (s : Shared) (us : List Value) (hl : us.length = [("_law_script" : Str)].length) : BindsTo s fd ⟨us, []⟩ ([("_law_script" : Str)].zip us) :=
  FunD.bindsA F (ps := [("_law_script" : Str)]) (fun kV doc pm an cdv ct us hl => match us, hl with | [u], _ => kLaw0 kV doc pm an cdv ct u) s us hl
theorem facts {P : Program} {w : World} {K : PySem.W.Frag} {h : Heap} {mg : Str → Option Value} {f : Addr} (X : K.In h) (Ng : h.Ns mainGlobals mg) (hfa : mg ("law" : Str) = some (.ref f)) (c : SaysX faL gvL fnL K) :
    ∃ fd : FuncData, (∀ (s : Shared) (v : Value), BindsTo s fd ⟨[v], []⟩ [("_law_script", v)]) ∧ ∀ (a : Addr) (ns : List Int) (base : Heap), K.In base → base.Ns mainGlobals mg → FnG P w K mg base CX0 49 f fd ["_law_script"] (spE ⟨K, fun _ => 0, fun _ => 0, a, ns⟩ 1 (clN taB 24 37)) := by
  exact law_facts (fun _ => 0) X Ng hfa c 25 25 (d := dd 39) (by kernel_rfl) (by kernel_rfl) (by kernel_rfl) (by kernel_rfl) (by kernel_rfl) (by kernel_rfl) (fun f fd F => kLaw F) fun a ns base kin bns f fd F hm => law_fn (progB (G := ⟨K, fun _ => 0, fun _ => 0, a, ns⟩) X Ng c) chk_B37 F 23 37 rfl
abbrev Rw : PySem.W.OpenRow := PySem.W.OpenLaw.row PySem.Challenge.rw_roundfaults_k06_whole_words_as_what_they
abbrev hk : PySem.W.Hook := hookX 4 faL gvL fnL
def ob (s : PySem.W.SharedT) : He.AlD := obsXG 4 faL gvL fnL (HandSHeadRun.getT s)
theorem ob_eq (s : PySem.W.SharedT) : ob s = hk.obs s.abs := obsXG_eq (HandSHeadRun.getT_eq s)
def loL : List Str := ("MINUS" : Str) :: ("PAIR" : Str) :: ("FaultError" : Str) :: ("BadWord" : Str) :: ("OtherSize" : Str) :: ("Crossing" : Str) :: ("SIGNS" : Str) :: ("NONE" : Str) :: ("MOST_WIRES" : Str) :: ("FOUR" : Str) :: ("RISING" : Str) :: ("is_letters" : Str) :: ("is_word" : Str) :: ("bare" : Str) :: ("sign_in" : Str) :: ("word_of" : Str) :: ("check_two" : Str) :: ("do_pass" : Str) :: ("made_letter" : Str) :: ("made" : Str) :: ("quarters" : Str) :: ("made_sign" : Str) :: ("passes" : Str) :: ("times" : Str) :: ("_law_pot" : Str) :: ("_law_take" : Str) :: ("_law_drawn_word" : Str) :: ("_law_of" : Str) :: ("_law_cells" : Str) :: ("_law_word_text" : Str) :: ("_law_done" : Str) :: ("_law_all_bits" : Str) :: ("_law_both_done" : Str) :: ("_law_word_in" : Str) :: ("_law_is_pair_right" : Str) :: ("_law_right" : Str) :: []
theorem run (w : World) : HandSHeadRun.RunEq Rw (PySem.W.view Rw.prog [39]) hk ob 4000 loL w := by
  intro os
  kernel_rfl
end
end Lw
open PySem PySem.W PySem.Calls PyProof.Rows
theorem PySem.Challenge.cw_roundfaults_k06_whole_words_as_what_they_holds : PySem.Challenge.rw_roundfaults_k06_whole_words_as_what_they.Holds := by
  w_on; o_law
  refine HandSHeadRun.head_any (r := OpenLaw.row PySem.Challenge.rw_roundfaults_k06_whole_words_as_what_they) (q := view (OpenLaw.row PySem.Challenge.rw_roundfaults_k06_whole_words_as_what_they).prog [39]) (H := Lw.hk) (ob := Lw.ob) (M := 4000) (loose := Lw.loL) (d := HandSHeadRun.topDef (OpenLaw.row PySem.Challenge.rw_roundfaults_k06_whole_words_as_what_they).prog 39) (kwd := []) Lw.ob_eq
    (by kernel_rfl) (fun s => by kernel_rfl) Lw.run (by kernel_rfl) (by kernel_rfl) (by kernel_rfl) (by rfl) (by first | assumption | decide +kernel) (by decide +kernel) ⟨rfl, rfl, rfl, rfl, rfl, by decide +kernel⟩ ?hw ?hc
  case hw => w_witness2
  case hc =>
    refine Dv.walk_G (l := PySem.Challenge.rw_roundfaults_k06_whole_words_as_what_they) (n := 63) (k := 49) (x := "_law_script") (CX := L2.CX0) rfl (by decide) (by kernel_rfl) ⟨⟨rfl, by decide, by decide⟩, rfl⟩ ?F (fun _ _ _ _ z => z)
    intro w mg fa h Y N hmg0
    obtain ⟨K, KX, c⟩ := Y
    have hmg : mg ("law" : PySem.Str) = some (.ref fa) := by
      have e : (HandSHeadRun.topDef (OpenLaw.row PySem.Challenge.rw_roundfaults_k06_whole_words_as_what_they).prog 39).name = ("law" : PySem.Str) := by kernel_rfl
      rw [← e]
      exact hmg0
    obtain ⟨fd, hb, hF⟩ := Lw.facts (P := (PySem.Challenge.rw_roundfaults_k06_whole_words_as_what_they).prog) (w := w) KX N hmg c
    exact ⟨K, fd, KX, hb, fun a ns hl => ⟨_, fun base kin bns => hF a ns base kin bns, fun H hH => Dv.law_startY (cl := Dv.clN Lw.taB 24 37) hH (Lw.evL ns)⟩⟩
