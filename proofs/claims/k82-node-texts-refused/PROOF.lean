import PyProof.Rows.All
import Wide.All
import OpenK.AllK
import Wide.FinOn
import HandS.ForMost
import HandS.Exc
import HandS.ExcOwn
import HandS.TryOnly
import HandS.WordsExc
import HandS.StrMore
import HandS.Replace
import HandS.Zip
import HandS.Rev
import HandS.Style
import HandS.Wide
import HandS.TupAny
import HandS.Flow
import HandS.IsInst
import KE.DataEq
import KE.GoesMore
import KE.GoesComp
import KE.GoesRaise
import HandS.More
import KE.DataMinMax
import HandS.ExcIs
import HandS.ExcValue
import KE.KDictZip
import HandS.RevTup
import PyProof.CollectWalk
import PyProof.TupleOfGen
import HandS.ReplaceLit
import KE.IntTextLaws
import HandS.Codes
import PyProof.Rows.StrPadWhole
import PySem.Challenge.RW_heldleaves_k82_node_texts_refused
set_option Elab.async false
set_option linter.all false
set_option maxRecDepth 100000
set_option maxHeartbeats 4000000
set_option autoImplicit false
namespace MP
open PySem L2

/-! ### data -/
inductive D where
  | non | bl (b : Bool) | int (i : Int) | str (s : List Nat) | tup (l : List D) | lst (l : List D) | dic (l : List (D × D)) | obj (n : Nat) | exc (c : Nat)
instance : Inhabited D := ⟨.non⟩
def tl (x : Str) : List Nat := x.cps.toList
abbrev S (s : List Nat) : Str := ⟨s.toArray⟩
theorem tl_S (s : List Nat) : tl (S s) = s := by simp [S, tl]
theorem S_tl (x : Str) : S (tl x) = x := by simp [S, tl]
theorem S_len (s : List Nat) : (S s).length = s.length := by simp [S, Str.length]
theorem S_inj {a b : List Nat} (h : S a = S b) : a = b := by rw [← tl_S a, h, tl_S]
mutual
def D.toPy : D → PyData
  | .non => .none
  | .bl b => .bool b
  | .int i => .int i
  | .str s => .str (S s)
  | .tup l => .tuple (D.toPys l)
  | .lst l => .list (D.toPys l)
  | .dic _ => .none
  | .obj _ => .none
  | .exc _ => .none
def D.toPys : List D → List PyData
  | [] => []
  | d :: ds => d.toPy :: D.toPys ds
end
/- no dict, object, exception within -/
mutual
def D.flat : D → Bool
  | .non | .bl _ | .int _ | .str _ => true
  | .tup l | .lst l => D.flats l
  | .dic _ | .obj _ | .exc _ => false
def D.flats : List D → Bool
  | [] => true
  | d :: ds => d.flat && D.flats ds
end
/- no list, dict, object within: nothing that might change -/
mutual
def D.hard : D → Bool
  | .non | .bl _ | .int _ | .str _ => true
  | .tup l => D.hards l
  | .lst _ | .dic _ | .obj _ | .exc _ => false
def D.hards : List D → Bool
  | [] => true
  | d :: ds => d.hard && D.hards ds
end
mutual
def D.dep : D → Nat
  | .tup l | .lst l => D.deps l + 1
  | .non | .bl _ | .int _ | .str _ | .dic _ | .obj _ | .exc _ => 0
def D.deps : List D → Nat
  | [] => 0
  | d :: ds => max d.dep (D.deps ds)
end

/-! ### the heap without what is not told -/
noncomputable def hide (B : Addr → Prop) (H : Hp) : Hp := open Classical in fun a => if B a then none else H a
theorem hide_some {B : Addr → Prop} {H : Hp} {a : Addr} {o : HO} (h : hide B H a = some o) : ¬ B a ∧ H a = some o := by
  unfold hide at h
  split at h
  · cases h
  · exact ⟨by assumption, h⟩
theorem hide_of {B : Addr → Prop} {H : Hp} {a : Addr} {o : HO} (b : ¬ B a) (h : H a = some o) : hide B H a = some o := by
  unfold hide
  rw [if_neg b]
  exact h
theorem hide_sub {B : Addr → Prop} {H : Hp} : Same (hide B H) H := fun a o h => (hide_some h).2
theorem hide_same {B B' : Addr → Prop} {H H' : Hp} (h : ∀ a o, ¬ B a → H a = some o → ¬ B' a ∧ H' a = some o) : Same (hide B H) (hide B' H') := fun a o e =>
  let ⟨n, q⟩ := hide_some e
  let ⟨n', q'⟩ := h a o n q
  hide_of n' q'

theorem Same.rd {H H' : Hp} {a : Addr} {u : HO} (s : Same H H') (h : Rd H a u) : Rd H' a u := by
  rcases h with h | ⟨o, h⟩
  · exact .inl (s _ _ h)
  · exact .inr ⟨o, s _ _ h⟩
theorem Same.sqL {K : PySem.W.Frag} {H H' : Hp} {a : Addr} {xs : List V} (s : Same H H') (h : SqL K H a xs) : SqL K H' a xs := h.elim (fun h => .inl (Same.rd s h)) .inr
theorem Same.sqT {K : PySem.W.Frag} {H H' : Hp} {a : Addr} {xs : List V} (s : Same H H') (h : SqT K H a xs) : SqT K H' a xs := h.elim (fun h => .inl (Same.rd s h)) .inr

def keyD : Key → D
  | .inl i => .int i
  | .inr x => .str (tl x)
def KeyZ : Key → Prop
  | .inl _ => True
  | .inr x => (tl x).length ≤ sizeLine

/-! ### exceptions -/
/-- the classes' names, by their numbers -/
def exNames : List Str := ["LeafError", "NoKey", "NoValue", "NoCode", "NoRoom", "NoPage", "NoPlace", "NoVersion", "NoMark", "NoNode", "NoRow", "ValueError"]
def exName (k : Nat) : Str := exNames.getD k ""
/-- the value of the class of a number -/
def ClsOf (K : PySem.W.Frag) (k : Nat) (cv : Value) : Prop := PySem.W.nsIn K mainGlobals (exName k) = some (some cv)
/-- a caught exception of the class cv -/
def ExI (cv : Value) (a : Addr) : HO := .ext fun h => ∃ (oe : Obj) (vs : Array Value), h.get? a = some oe ∧ Zc cv none oe ∧ oe.data = .fields vs

/-! ### what value tells what data -/
mutual
inductive Rep (K : PySem.W.Frag) (A : Nat → Option Addr) (H : Hp) : V → D → Prop
  | non : Rep K A H .non .non
  | bl (b : Bool) : Rep K A H (.bl b) (.bl b)
  | int (i : Int) : Rep K A H (.int i) (.int i)
  | str (s : List Nat) : s.length ≤ sizeLine → Rep K A H (.str (S s)) (.str s)
  | tup {a : Addr} {vs : List V} {ds : List D} : SqT K H a vs → Reps K A H vs ds → ds.length ≤ sizeLine → Rep K A H (.ref a) (.tup ds)
  | lst {a : Addr} {vs : List V} {ds : List D} : SqL K H a vs → Reps K A H vs ds → ds.length ≤ sizeLine → Rep K A H (.ref a) (.lst ds)
  | dic {a : Addr} {kvs : List (Key × V)} {ds : List (D × D)} : Rd H a (.dK kvs) → Repk K A H kvs ds → ds.length ≤ sizeLine → Rep K A H (.ref a) (.dic ds)
  | obj {a : Addr} {n : Nat} : A n = some a → Rep K A H (.ref a) (.obj n)
  | exc {a : Addr} {k : Nat} {cv : Value} : ClsOf K k cv → H a = some (ExI cv a) → Rep K A H (.ref a) (.exc k)
inductive Reps (K : PySem.W.Frag) (A : Nat → Option Addr) (H : Hp) : List V → List D → Prop
  | nil : Reps K A H [] []
  | cons {v : V} {vs : List V} {d : D} {ds : List D} : Rep K A H v d → Reps K A H vs ds → Reps K A H (v :: vs) (d :: ds)
inductive Repk (K : PySem.W.Frag) (A : Nat → Option Addr) (H : Hp) : List (Key × V) → List (D × D) → Prop
  | nil : Repk K A H [] []
  | cons {k : Key} {v : V} {vs : List (Key × V)} {d : D} {ds : List (D × D)} : KeyZ k → Rep K A H v d → Repk K A H vs ds → Repk K A H ((k, v) :: vs) ((keyD k, d) :: ds)
end
section
variable {K : PySem.W.Frag} {A A' : Nat → Option Addr} {H H' : Hp}
mutual
theorem Rep.mono (s : Same H H') (a : ∀ n x, A n = some x → A' n = some x) : ∀ {v : V} {d : D}, Rep K A H v d → Rep K A' H' v d
  | _, _, .non => .non
  | _, _, .bl b => .bl b
  | _, _, .int i => .int i
  | _, _, .str s z => .str s z
  | _, _, .tup h r z => .tup (Same.sqT s h) (Reps.mono s a r) z
  | _, _, .lst h r z => .lst (Same.sqL s h) (Reps.mono s a r) z
  | _, _, .dic h r z => .dic (Same.rd s h) (Repk.mono s a r) z
  | _, _, .obj h => .obj (a _ _ h)
  | _, _, .exc q h => .exc q (s _ _ h)
theorem Reps.mono (s : Same H H') (a : ∀ n x, A n = some x → A' n = some x) : ∀ {v : List V} {d : List D}, Reps K A H v d → Reps K A' H' v d
  | _, _, .nil => .nil
  | _, _, .cons h r => .cons (Rep.mono s a h) (Reps.mono s a r)
theorem Repk.mono (s : Same H H') (a : ∀ n x, A n = some x → A' n = some x) : ∀ {v : List (Key × V)} {d : List (D × D)}, Repk K A H v d → Repk K A' H' v d
  | _, _, .nil => .nil
  | _, _, .cons z h r => .cons z (Rep.mono s a h) (Repk.mono s a r)
end
theorem Reps.length : ∀ {v : List V} {d : List D}, Reps K A H v d → v.length = d.length
  | _, _, .nil => rfl
  | _, _, .cons _ r => congrArg (· + 1) (Reps.length r)
theorem Reps.get : ∀ {vs : List V} {ds : List D} {i : Nat} {d : D}, Reps K A H vs ds → ds[i]? = some d → ∃ v, vs[i]? = some v ∧ Rep K A H v d
  | _, _, _, _, .nil, e => by simp at e
  | _, _, 0, _, .cons h _, e => by
    simp at e
    subst e
    exact ⟨_, rfl, h⟩
  | _, _, i + 1, _, .cons _ t, e => by
    obtain ⟨v, h1, h2⟩ := Reps.get (i := i) t (by simpa using e)
    exact ⟨v, by simpa using h1, h2⟩
theorem Reps.getV : ∀ {vs : List V} {ds : List D} {i : Nat} {v : V}, Reps K A H vs ds → vs[i]? = some v → ∃ d, ds[i]? = some d ∧ Rep K A H v d
  | _, _, _, _, .nil, e => by simp at e
  | _, _, 0, _, .cons h _, e => by
    simp at e
    subst e
    exact ⟨_, rfl, h⟩
  | _, _, i + 1, _, .cons _ t, e => by
    obtain ⟨v, h1, h2⟩ := Reps.getV (i := i) t (by simpa using e)
    exact ⟨v, by simpa using h1, h2⟩
theorem Reps.append : ∀ {vs ws : List V} {ds es : List D}, Reps K A H vs ds → Reps K A H ws es → Reps K A H (vs ++ ws) (ds ++ es)
  | _, _, _, _, .nil, s => s
  | _, _, _, _, .cons h t, s => .cons h (Reps.append t s)
theorem Reps.take : ∀ {vs : List V} {ds : List D} (n : Nat), Reps K A H vs ds → Reps K A H (vs.take n) (ds.take n)
  | _, _, 0, _ => .nil
  | _, _, _ + 1, .nil => .nil
  | _, _, n + 1, .cons h t => .cons h (Reps.take n t)
theorem Reps.drop : ∀ {vs : List V} {ds : List D} (n : Nat), Reps K A H vs ds → Reps K A H (vs.drop n) (ds.drop n)
  | _, _, 0, r => r
  | _, _, _ + 1, .nil => .nil
  | _, _, n + 1, .cons _ t => Reps.drop n t
theorem Reps.set {v : V} {d : D} (h : Rep K A H v d) : ∀ {vs : List V} {ds : List D} (i : Nat), Reps K A H vs ds → Reps K A H (vs.set i v) (ds.set i d)
  | _, _, _, .nil => .nil
  | _, _, 0, .cons _ t => .cons h t
  | _, _, i + 1, .cons q t => .cons q (Reps.set h i t)
theorem Reps.rev : ∀ {vs : List V} {ds : List D}, Reps K A H vs ds → Reps K A H vs.reverse ds.reverse
  | _, _, .nil => .nil
  | _, _, .cons h t => by
    rw [List.reverse_cons, List.reverse_cons]
    exact (Reps.rev t).append (.cons h .nil)
theorem Rep.dp (s : Same H H') : ∀ {v : V} {d : D}, d.flat = true → Rep K A H v d → Dp K H' v d.toPy := by
  exact fun f r => go r f
where
  go : ∀ {v : V} {d : D}, Rep K A H v d → d.flat = true → Dp K H' v d.toPy
  | _, _, .non, _ => .non
  | _, _, .bl b, _ => .bl b
  | _, _, .int i, _ => .int i
  | _, _, .str s z, _ => .str _
  | _, _, .tup h r z, f => .tup (Same.sqT s h) (gos r (by simpa [D.flat] using f))
  | _, _, .lst h r z, f => .lst (Same.sqL s h) (gos r (by simpa [D.flat] using f))
  | _, _, .dic h r z, f => by simp [D.flat] at f
  | _, _, .obj h, f => by simp [D.flat] at f
  | _, _, .exc q h, f => by simp [D.flat] at f
  gos : ∀ {v : List V} {d : List D}, Reps K A H v d → D.flats d = true → DpAll K H' v (D.toPys d)
  | _, _, .nil, _ => .nil
  | _, _, .cons h r, f => by
    simp [D.flats] at f
    exact .cons (go h f.1) (gos r f.2)
theorem Rep.hard_mono {a : Addr} (q : ∀ b xs, H b = some (.tup xs) → H' b = some (.tup xs)) (q2 : ∀ b o xs, H b = some (.frz o (.tup xs)) → H' b = some (.frz o (.tup xs))) : ∀ {v : V} {d : D}, d.hard = true → Rep K A H v d → Rep K A' H' v d := by
  exact fun f r => go r f
where
  go : ∀ {v : V} {d : D}, Rep K A H v d → d.hard = true → Rep K A' H' v d
  | _, _, .non, _ => .non
  | _, _, .bl b, _ => .bl b
  | _, _, .int i, _ => .int i
  | _, _, .str s z, _ => .str _ z
  | _, _, .tup h r z, f => .tup (by
      rcases h with (h | ⟨o, h⟩) | h
      · exact .inl (.inl (q _ _ h))
      · exact .inl (.inr ⟨o, q2 _ _ _ h⟩)
      · exact .inr h) (gos r (by simpa [D.hard] using f)) z
  | _, _, .lst h r z, f => by simp [D.hard] at f
  | _, _, .dic h r z, f => by simp [D.hard] at f
  | _, _, .obj h, f => by simp [D.hard] at f
  | _, _, .exc q h, f => by simp [D.hard] at f
  gos : ∀ {v : List V} {d : List D}, Reps K A H v d → D.hards d = true → Reps K A' H' v d
  | _, _, .nil, _ => .nil
  | _, _, .cons h r, f => by
    simp [D.hards] at f
    exact .cons (go h f.1) (gos r f.2)
end
end MP

set_option maxRecDepth 100000
set_option maxHeartbeats 4000000
set_option autoImplicit false
namespace MP
open PySem L2

/-! ### the language -/
inductive BOp where | add | sub | mul | fdiv | mod | pow
inductive COp where | eq | ne | lt | le | gt | ge | isin | notin
/-- built-in functions -/
inductive BI where | len | sum | sorted | min | max | all | any | list | tuple | str | int | dict
/-- methods of built-in types -/
inductive MT where | sjoin | sfind | sindex | sstarts | ssplit | lindex | dget | szfill | supper
inductive Ty where | int | bool | str | list | tuple | dict
inductive Tgt where | one (i : Nat) | many (l : List Nat)
mutual
inductive E where
  | var (i : Nat)
  | lit (d : D)
  | glob (x : Str) (d : D)
  | bin (o : BOp) (a b : E)
  | cmp (o : COp) (a b : E)
  | isN (neg : Bool) (a : E)
  | chain (o1 o2 : COp) (a b c : E)
  | and2 (a b : E) | or2 (a b : E) | not1 (a : E)
  | ifx (c a b : E)
  | idx (a b : E)
  | sl (a : E) (lo hi : OE)
  | slS (a : E) (lo : OE) (step : Int)
  | tup (l : Es) | lst (l : Es)
  | dic0
  | comp (tg : Tgt) (it : I) (c : OE) (e : E)
  | call (k : Nat) (l : Es)
  | bi (b : BI) (l : Es)
  | mth (m : MT) (r : E) (l : Es)
  | isi (ts : List Ty) (e : E)
  /-- isinstance of a class of one's own -/
  | isx (k : Nat) (e : E)
  /-- tuple(zip(a, b)) -/
  | tzip (a b : E)
  /-- e.replace(y, z), of written texts -/
  | rep (y z : List Nat) (e : E)
inductive Es where | nil | cons (a : E) (l : Es)
inductive OE where | no | yes (a : E)
inductive I where | e (a : E) | rng1 (a : E) | rng2 (a b : E) | rng3 (a b c : E) | rev (a : E) | keys (a : E) | enum (a : E) | zip (a b : E) | items (a : E) | vals (a : E)
end
mutual
inductive St where
  | asg (tg : Tgt) (e : E)
  | own (i : Nat) (e : E)
  | aug (i : Nat) (o : BOp) (e : E)
  | setx (i : Nat) (k e : E)
  | app (i : Nat) (e : E)
  | drop (e : E)
  | ret (e : E)
  | retN
  | ifs (c : E) (a b : Sts)
  | whl (c : E) (b : Sts)
  | fors (tg : Tgt) (it : I) (b : Sts)
  | rais (c : Nat)
  | tri (b : Sts) (cls : Nat) (slot : Option Nat) (s : Sts)
  /-- x = [e for tg in it], a step may raise -/
  | asgX (i : Nat) (tg : Tgt) (it : I) (e : E)
  | pas
  /-- what stands in these slots is not asked for any more -/
  | fgt (l : List Nat)
  /-- any statement; nothing is known of it -/
  | wall
inductive Sts where | nil | cons (a : St) (l : Sts)
end

/-! ### what is told at an end -/
structure Ins where
  cls : Nat
  fs : List (Str × D)
abbrev Mu := List Ins
abbrev Env' := List (Option D)
inductive Res (α : Type) where | ok (a : α) (m : Mu) | err (c : Nat) (m : Mu) | stuck
def Res.bind {α β : Type} (r : Res α) (f : α → Mu → Res β) : Res β := match r with
  | .ok a m => f a m
  | .err c m => .err c m
  | .stuck => .stuck
@[simp] theorem Res.bind_ok {α β : Type} (a : α) (m : Mu) (f : α → Mu → Res β) : (Res.ok a m).bind f = f a m := rfl
@[simp] theorem Res.bind_err {α β : Type} (c : Nat) (m : Mu) (f : α → Mu → Res β) : (Res.err c m).bind f = .err c m := rfl
@[simp] theorem Res.bind_stuck {α β : Type} (f : α → Mu → Res β) : (Res.stuck).bind f = .stuck := rfl
def Res.opt {α : Type} (o : Option α) (m : Mu) : Res α := match o with
  | some a => .ok a m
  | none => .stuck
@[simp] theorem Res.opt_some {α : Type} (a : α) (m : Mu) : Res.opt (some a) m = .ok a m := rfl
@[simp] theorem Res.opt_none {α : Type} (m : Mu) : Res.opt (none : Option α) m = .stuck := rfl
/-- where nothing may be raised -/
def Res.calm {α : Type} (r : Res α) : Res α := match r with
  | .ok a m => .ok a m
  | _ => .stuck
@[simp] theorem Res.calm_ok {α : Type} (a : α) (m : Mu) : (Res.ok a m).calm = .ok a m := rfl
theorem Res.bind_eq_ok {α β : Type} {r : Res α} {f : α → Mu → Res β} {b : β} {m : Mu} (h : r.bind f = .ok b m) : ∃ a m', r = .ok a m' ∧ f a m' = .ok b m := by
  cases r with
  | ok a m' => exact ⟨a, m', rfl, h⟩
  | err c m' => cases h
  | stuck => cases h
inductive Fl where | nxt (ρ : Env') (m : Mu) | ret (d : D) (m : Mu) | err (c : Nat) (ρ : Env') (m : Mu) | stuck
structure Cfg where
  call : Nat → List D → Mu → Res D
  /-- is the class an heir of the other one -/
  sub : Nat → Nat → Option Bool

/-! ### operations -/
def sizeD : Nat := 16777216
theorem sizeD_eq : sizeD = sizeLine := by decide
def truth : D → Option Bool
  | .non => some false
  | .bl b => some b
  | .int i => some (i != 0)
  | .str s => some (!s.isEmpty)
  | .tup l => some (!l.isEmpty)
  | .lst l => some (!l.isEmpty)
  | _ => none
def mulOk (i j : Int) : Bool := decide (i.natAbs < 2 ^ 64) || decide (j.natAbs < 2 ^ 64) || decide (i.natAbs.log2 + j.natAbs.log2 < 1000000)
def binD : BOp → D → D → Option D
  | .add, .int i, .int j => some (.int (i + j))
  | .add, .str a, .str b => if a.length + b.length ≤ sizeD then some (.str (a ++ b)) else none
  | .add, .lst a, .lst b => if a.length + b.length ≤ sizeD then some (.lst (a ++ b)) else none
  | .add, .tup a, .tup b => if a.length + b.length ≤ sizeD then some (.tup (a ++ b)) else none
  | .sub, .int i, .int j => some (.int (i - j))
  | .mul, .int i, .int j => if mulOk i j then some (.int (i * j)) else none
  | .mul, .str a, .int k => if 0 ≤ k ∧ k < 2 ^ 62 ∧ a.length * k.toNat ≤ 10000 then some (.str ((List.replicate k.toNat a).flatten)) else none
  | .fdiv, .int i, .int j => if 0 < j ∧ j.natAbs.log2 < 9000 then some (.int (i / j)) else none
  | .mod, .int i, .int j => if 0 < j then some (.int (i % j)) else none
  | .pow, .int i, .int j => if 0 ≤ j ∧ j ≤ 1000 ∧ i.natAbs < 2 ^ 64 then some (.int (i ^ j.toNat)) else none
  | _, _, _ => none
def augD : BOp → D → D → Option D
  | .add, .int x, .int y => some (.int (x + y))
  | .sub, .int x, .int y => some (.int (x - y))
  | _, _, _ => none
def eqD (a b : D) : Option Bool := if a.flat = true ∧ b.flat = true ∧ (a.dep ≤ 64 ∨ b.dep ≤ 64) then some (PyData.eqv a.toPy b.toPy) else none
def ltS (a b : List Nat) : Bool := decide (a < b)
def subS (a b : List Nat) : Bool := !(Builtin.Str.occurrences (S b) (S a) 0 b.length 1).isEmpty
def inD (x : D) : List D → Option Bool
  | [] => some false
  | y :: ys => match eqD y x with
    | some true => some true
    | some false => inD x ys
    | none => none
def isinD (x : D) : D → Option Bool
  | .lst l => if x.flat = true ∧ D.flats l = true ∧ x.dep ≤ 60 then some (l.any fun y => PyData.eqv y.toPy x.toPy) else none
  | .tup l => if x.flat = true ∧ D.flats l = true ∧ x.dep ≤ 60 then some (l.any fun y => PyData.eqv y.toPy x.toPy) else none
  | .str b => match x with
    | .str a => some (subS a b)
    | _ => none
  | _ => none
def cmpD : COp → D → D → Option Bool
  | .eq, a, b => eqD a b
  | .ne, a, b => (eqD a b).map (!·)
  | .lt, .int i, .int j => some (decide (i < j))
  | .le, .int i, .int j => some (decide (i ≤ j))
  | .gt, .int i, .int j => some (decide (j < i))
  | .ge, .int i, .int j => some (decide (j ≤ i))
  | .lt, .str i, .str j => some (ltS i j)
  | .le, .str i, .str j => some (!ltS j i)
  | .gt, .str i, .str j => some (ltS j i)
  | .ge, .str i, .str j => some (!ltS i j)
  | .isin, a, b => isinD a b
  | .notin, a, b => (isinD a b).map (!·)
  | _, _, _ => none
/-- the place of an index -/
def placeD (n : Nat) (i : Int) : Option Nat := if 0 ≤ i then (if i < n then some i.toNat else none) else if -(n : Int) ≤ i then some (i + n).toNat else none
def idxD : D → D → Option D
  | .lst l, .int i => (placeD l.length i).bind (l[·]?)
  | .tup l, .int i => (placeD l.length i).bind (l[·]?)
  | .str s, .int i => ((placeD s.length i).bind (s[·]?)).map fun c => .str [c]
  | _, _ => none
/-- where a slice's end lies -/
def endD (n : Nat) (dflt : Nat) : Option Int → Nat
  | none => dflt
  | some i => if i < 0 then (i + n).toNat else min i.toNat n
def cutL {α : Type} (l : List α) (a b : Nat) : List α := (l.drop a).take (b - a)
def slD : D → Option Int → Option Int → Option D
  | .lst l, lo, hi => some (.lst (cutL l (endD l.length 0 lo) (endD l.length l.length hi)))
  | .tup l, lo, hi => some (.tup (cutL l (endD l.length 0 lo) (endD l.length l.length hi)))
  | .str l, lo, hi => some (.str (cutL l (endD l.length 0 lo) (endD l.length l.length hi)))
  | _, _, _ => none
def everyD (l : List D) (k : Nat) : List D := (List.range ((l.length + k - 1) / k)).filterMap fun j => l[j * k]?
/-- each st-th from lo on -/
def pickL {α : Type} (xs : List α) (lo : Option Int) (st : Int) : List α := (sliceRange (sliceBounds lo none (some st) xs.length).1 (sliceBounds lo none (some st) xs.length).2.1 (sliceBounds lo none (some st) xs.length).2.2).filterMap (xs[·]?)
def slSD : D → Option Int → Int → Option D
  | .lst l, lo, st => if 0 < st then some (.lst (pickL l lo st)) else if st = -1 ∧ lo = none then some (.lst l.reverse) else none
  | _, _, _ => none
def intsOf : List D → Option (List Int)
  | [] => some []
  | .int i :: r => (intsOf r).map (i :: ·)
  | _ => none
def strsOf : List D → Option (List (List Nat))
  | [] => some []
  | .str s :: r => (strsOf r).map (s :: ·)
  | _ => none
def blsOf : List D → Option (List Bool)
  | [] => some []
  | .bl s :: r => (blsOf r).map (s :: ·)
  | _ => none
/-- insertion -/
def putIn {α : Type} (le : α → α → Bool) (x : α) : List α → List α
  | [] => [x]
  | y :: r => if le x y then x :: y :: r else y :: putIn le x r
def sortL {α : Type} (le : α → α → Bool) : List α → List α
  | [] => []
  | x :: r => putIn le x (sortL le r)
def leS (a b : List Nat) : Bool := !ltS b a
def maxL (lt : List Nat → List Nat → Bool) : List Nat → List (List Nat) → List Nat
  | m, [] => m
  | m, x :: r => maxL lt (if lt m x then x else m) r
def seqOf : D → Option (List D)
  | .lst l => some l
  | .tup l => some l
  | _ => none
def numS (n : Nat) : List Nat := (Nat.toDigits 10 n).map Char.toNat
/-- the least and the greatest of texts -/
def minS : List Nat → List (List Nat) → List Nat
  | a, [] => a
  | a, y :: r => minS (if ltS y a then y else a) r
def maxS : List Nat → List (List Nat) → List Nat
  | a, [] => a
  | a, y :: r => maxS (if ltS a y then y else a) r
def minO : List (List Nat) → Option D
  | [] => none
  | x :: r => some (.str (minS x r))
def maxO : List (List Nat) → Option D
  | [] => none
  | x :: r => some (.str (maxS x r))
def keyOf : D → Option Key
  | .int i => some (.inl i)
  | .str s => some (.inr (S s))
  | _ => none
def pairsOf : List D → Option (List (Key × D))
  | [] => some []
  | .tup [k, v] :: r => match keyOf k with
    | some q => (pairsOf r).map ((q, v) :: ·)
    | none => none
  | _ => none
def kdD (l : List (Key × D)) : List (D × D) := l.map fun p => (keyD p.1, p.2)
def putDK (l : List (Key × D)) (k : Key) (v : D) : List (Key × D) :=
  if (l.any fun kv => decide (kv.1 = k)) = true then l.map (fun kv => if kv.1 = k then (kv.1, v) else kv) else l ++ [(k, v)]
def mergeDK (l more : List (Key × D)) : List (Key × D) := more.foldl (fun acc kv => putDK acc kv.1 kv.2) l
/-- the keys, all texts -/
def keysS : List (D × D) → Option (List (List Nat))
  | [] => some []
  | (.str s, _) :: r => (keysS r).map (s :: ·)
  | _ => none
def biD : BI → List D → Option D
  | .len, [.lst l] => some (.int l.length)
  | .len, [.tup l] => some (.int l.length)
  | .len, [.str l] => some (.int l.length)
  | .len, [.dic l] => some (.int l.length)
  | .sum, [.lst l] => (intsOf l).map fun ns => .int ns.sum
  | .sorted, [.lst l] => if l.length < 64 then (match intsOf l, strsOf l with
      | some ns, _ => some (.lst ((sortL (fun a b => decide (a ≤ b)) ns).map D.int))
      | _, some ss => some (.lst ((sortL leS ss).map D.str))
      | _, _ => none) else none
  | .min, [.int i, .int j] => some (.int (if j < i then j else i))
  | .max, [.int i, .int j] => some (.int (if j > i then j else i))
  | .all, [.lst l] => (blsOf l).map fun bs => .bl (bs.all id)
  | .any, [.lst l] => (blsOf l).map fun bs => .bl (bs.any id)
  | .list, [.lst l] => some (.lst l)
  | .list, [.tup l] => some (.lst l)
  | .list, [.str s] => some (.lst (s.map fun c => .str [c]))
  | .int, [.int i] => some (.int i)
  | .int, [.bl b] => some (.int (if b then 1 else 0))
  | .int, [.str s] => if s.length ≤ 640 then (PySem.intText? (S s)).map D.int else none
  | .tuple, [.lst l] => some (.tup l)
  | .tuple, [.tup l] => some (.tup l)
  | .str, [.int i] => if 0 ≤ i ∧ i < 10 ^ 100 then some (.str (numS i.toNat)) else none
  | .min, [.str a, .str b] => some (.str (if ltS b a then b else a))
  | .max, [.str a, .str b] => some (.str (if ltS a b then b else a))
  | .min, [.lst l] => (strsOf l).bind minO
  | .min, [.tup l] => (strsOf l).bind minO
  | .max, [.lst l] => (strsOf l).bind maxO
  | .max, [.tup l] => (strsOf l).bind maxO
  | .dict, [.lst l] => (pairsOf l).map fun ps => .dic (kdD (mergeDK [] ps))
  | .sorted, [.dic l] => if l.length < 64 then (keysS l).map fun ss => .lst ((sortL leS ss).map D.str) else none
  | _, _ => none
def mtTxt : MT → Bool
  | .lindex | .dget => false
  | _ => true
/-- has it this method -/
def mtOn (o : MT) : D → Bool
  | .str _ => mtTxt o
  | _ => false
/-- a text that is not too long -/
def strD (s : Str) : Option D := if s.length ≤ sizeD then some (.str (tl s)) else none
def mtD : MT → D → List D → Option D
  | .sjoin, .str a, [.lst l] => (strsOf l).bind fun ys => if (ys.map List.length).sum + ys.length * a.length ≤ 16777216 then strD (Txt.join (S a) (ys.map S)) else none
  | .sfind, .str a, [.str b, .int i] => some (.int (Txt.find3 (S a) (S b) i))
  | .sfind, .str a, [.str b] => some (.int (Txt.find (S a) (S b)))
  | .sindex, .str a, [.str b] => (Txt.index0 (S a) (S b)).map fun k => .int (k : Nat)
  | .sindex, .str a, [.str b, .int i] => (Txt.indexFrom (S a) (S b) i).map fun k => .int (k : Nat)
  | .sstarts, .str a, [.str b] => some (.bl (Txt.startswith (S a) (S b)))
  | .ssplit, .str a, [.str b] => if ((S b).length == 0) = false ∧ a.length + 2 ≤ sizeD ∧ (Txt.split (S a) (S b)).length ≤ sizeD ∧ (∀ x ∈ Txt.split (S a) (S b), x.length ≤ sizeD) then some (.lst ((Txt.split (S a) (S b)).map fun x => .str (tl x))) else none
  | .szfill, .str a, [.int i] => if PadOk i = true then strD (Txt.zfill (S a) i) else none
  | .supper, .str a, [] => if a.all (· < 128) = true ∧ a.length ≤ 5592405 then some (.str (a.map PyProof.Rows.up1)) else none
  | _, _, _ => none
def tyD : Ty → D → Bool
  | .int, .int _ => true
  | .int, .bl _ => true
  | .bool, .bl _ => true
  | .str, .str _ => true
  | .list, .lst _ => true
  | .tuple, .tup _ => true
  | .dict, .dic _ => true
  | _, _ => false
/-- the built-in class of data -/
def clsD : D → Option String
  | .non => some "NoneType" | .bl _ => some "bool" | .int _ => some "int" | .str _ => some "str" | .tup _ => some "tuple" | .lst _ => some "list" | .dic _ => some "dict"
  | _ => none
/-- is it of the class k -/
def isxD (sub : Nat → Nat → Option Bool) (k : Nat) : D → Option D
  | .non => some (.bl false)
  | .exc c => (sub c k).map D.bl
  | _ => none
def bindT (tg : Tgt) (d : D) (ρ : Env') : Option Env' := match tg with
  | .one i => some (ρ.set i (some d))
  | .many l => match d with
    | .tup ds => if ds.length = l.length then some ((l.zip ds).foldl (fun ρ p => ρ.set p.1 (some p.2)) ρ) else none
    | _ => none
def Tgt.slots : Tgt → List Nat
  | .one i => [i]
  | .many l => l
def wipeE (ρ : Env') : List Nat → Env'
  | [] => ρ
  | v :: vs => (wipeE ρ vs).set v none
/-- a comprehension's turns -/
def turns (f : D → Mu → Res (Option D)) : List D → Mu → Res (List D)
  | [], m => .ok [] m
  | x :: xs, m => (f x m).bind fun o m1 => (turns f xs m1).bind fun r m2 => .ok (match o with | some y => y :: r | none => r) m2
/-- the turns of a comprehension that may raise -/
def turnsX (f : D → Mu → Res D) : List D → Mu → Res (List D)
  | [], m => .ok [] m
  | x :: xs, m => (f x m).bind fun y m1 => (turnsX f xs m1).bind fun r m2 => .ok (y :: r) m2
def rngL (lo : Int) (n : Nat) : List D := (List.range n).map fun (k : Nat) => D.int (lo + (k : Int))
def rngOk (i : Int) : Bool := decide (-(2 ^ 62) ≤ i) && decide (i < 2 ^ 62)
def iterD : D → Option (List D)
  | .lst l => some l
  | .tup l => some l
  | .str s => some (s.map fun c => .str [c])
  | _ => none
def rng1D : D → Option (List D)
  | .int n => if rngOk n && decide (n.toNat ≤ sizeD) then some (rngL 0 n.toNat) else none
  | _ => none
def rng2D : D → D → Option (List D)
  | .int a, .int b => if rngOk a && rngOk b && decide ((b - a).toNat ≤ sizeD) then some (rngL a (b - a).toNat) else none
  | _, _ => none
def zipD : D → D → Option (List D)
  | .lst a, .lst b => some (List.zipWith (fun x y => .tup [x, y]) a b)
  | .tup a, .tup b => some (List.zipWith (fun x y => .tup [x, y]) a b)
  | _, _ => none
def enumD : D → Option (List D)
  | .lst l => some (l.zipIdx.map fun p => .tup [.int (p.2 : Nat), p.1])
  | .tup l => some (l.zipIdx.map fun p => .tup [.int (p.2 : Nat), p.1])
  | _ => none
/-- tuple(zip(a, b)) of lists -/
def tzD : D → D → Option D
  | .lst a, .lst b => some (.tup (List.zipWith (fun x y => .tup [x, y]) a b))
  | _, _ => none
/-- replaced -/
def repD (y z : List Nat) : D → Option D
  | .str a => if a.length + (a.length + 1) * z.length ≤ 16777216 then some (.str (tl (Txt.replace (S a) (S y) (S z)))) else none
  | _ => none
def revD : D → Option (List D)
  | .tup l => some l.reverse
  | .lst l => some l.reverse
  | _ => none

/-! ### the going -/
mutual
def evE (C : Cfg) : E → Env' → Mu → Res D
  | .var i, ρ, m => match ρ[i]? with
    | some (some d) => .ok d m
    | _ => .stuck
  | .lit d, _, m => .ok d m
  | .glob _ d, _, m => .ok d m
  | .bin o a b, ρ, m => (evE C a ρ m).bind fun x m1 => (evE C b ρ m1).bind fun y m2 => .opt (binD o x y) m2
  | .cmp o a b, ρ, m => (evE C a ρ m).bind fun x m1 => (evE C b ρ m1).bind fun y m2 => .opt ((cmpD o x y).map D.bl) m2
  | .isN neg a, ρ, m => (evE C a ρ m).bind fun x m1 => .ok (.bl (match x with | .non => !neg | _ => neg)) m1
  | .chain o1 o2 a b c, ρ, m => (evE C a ρ m).bind fun x m1 => (evE C b ρ m1).bind fun y m2 => match cmpD o1 x y with
    | some true => (evE C c ρ m2).bind fun z m3 => .opt ((cmpD o2 y z).map D.bl) m3
    | some false => .ok (.bl false) m2
    | none => .stuck
  | .and2 a b, ρ, m => (evE C a ρ m).bind fun x m1 => match truth x with
    | some true => evE C b ρ m1
    | some false => .ok x m1
    | none => .stuck
  | .or2 a b, ρ, m => (evE C a ρ m).bind fun x m1 => match truth x with
    | some true => .ok x m1
    | some false => evE C b ρ m1
    | none => .stuck
  | .not1 a, ρ, m => (evE C a ρ m).bind fun x m1 => .opt ((truth x).map fun b => .bl (!b)) m1
  | .ifx c a b, ρ, m => (evE C c ρ m).bind fun x m1 => match truth x with
    | some true => evE C a ρ m1
    | some false => evE C b ρ m1
    | none => .stuck
  | .idx a b, ρ, m => (evE C a ρ m).bind fun x m1 => (evE C b ρ m1).bind fun y m2 => .opt (idxD x y) m2
  | .sl a lo hi, ρ, m => (evE C a ρ m).bind fun x m1 => (evP C lo ρ m1).bind fun y m2 => (evP C hi ρ m2).bind fun z m3 => .opt (slD x y z) m3
  | .slS a lo st, ρ, m => (evE C a ρ m).bind fun x m1 => (evP C lo ρ m1).bind fun y m2 => .opt (slSD x y st) m2
  | .tup l, ρ, m => (evEs C l ρ m).bind fun ds m1 => .ok (.tup ds) m1
  | .lst l, ρ, m => (evEs C l ρ m).bind fun ds m1 => .ok (.lst ds) m1
  | .dic0, _, m => .ok (.dic []) m
  | .comp tg it c e, ρ, m => (evI C it ρ m).bind fun xs m1 => (turns (fun x m2 => match bindT tg x (wipeE ρ tg.slots) with
    | some ρ' => (evK C c ρ' m2).bind fun t m3 => if t = true then (evE C e ρ' m3).bind fun y m4 => .ok (some y) m4 else .ok none m3
    | none => .stuck) xs m1).calm.bind fun ys m5 => .ok (.lst ys) m5
  | .call k l, ρ, m => (evEs C l ρ m).bind fun ds m1 => C.call k ds m1
  | .bi b l, ρ, m => (evEs C l ρ m).bind fun ds m1 => .opt (biD b ds) m1
  | .mth o r l, ρ, m => (evE C r ρ m).bind fun x m1 => if mtOn o x = true then (evEs C l ρ m1).bind fun ds m2 => .opt (mtD o x ds) m2 else .stuck
  | .isi ts e, ρ, m => (evE C e ρ m).bind fun x m1 => .opt ((clsD x).map fun _ => .bl (ts.any fun t => tyD t x)) m1
  | .isx k e, ρ, m => (evE C e ρ m).bind fun x m1 => .opt (isxD C.sub k x) m1
  | .tzip a b, ρ, m => (evE C a ρ m).bind fun x m1 => (evE C b ρ m1).bind fun y m2 => .opt (tzD x y) m2
  | .rep y z e, ρ, m => (evE C e ρ m).bind fun x m1 => .opt (repD y z x) m1
def evEs (C : Cfg) : Es → Env' → Mu → Res (List D)
  | .nil, _, m => .ok [] m
  | .cons a l, ρ, m => (evE C a ρ m).bind fun x m1 => (evEs C l ρ m1).bind fun xs m2 => .ok (x :: xs) m2
def evK (C : Cfg) : OE → Env' → Mu → Res Bool
  | .no, _, m => .ok true m
  | .yes a, ρ, m => (evE C a ρ m).bind fun x m1 => .opt (truth x) m1
def evP (C : Cfg) : OE → Env' → Mu → Res (Option Int)
  | .no, _, m => .ok none m
  | .yes a, ρ, m => (evE C a ρ m).bind fun x m1 => match x with
    | .int i => .ok (some i) m1
    | _ => .stuck
def evI (C : Cfg) : I → Env' → Mu → Res (List D)
  | .e a, ρ, m => (evE C a ρ m).bind fun x m1 => .opt (iterD x) m1
  | .rng1 a, ρ, m => (evE C a ρ m).bind fun x m1 => .opt (rng1D x) m1
  | .rng2 a b, ρ, m => (evE C a ρ m).bind fun x m1 => (evE C b ρ m1).bind fun y m2 => .opt (rng2D x y) m2
  | .rev a, ρ, m => (evE C a ρ m).bind fun x m1 => .opt (revD x) m1
  | .zip a b, ρ, m => (evE C a ρ m).bind fun x m1 => (evE C b ρ m1).bind fun y m2 => .opt (zipD x y) m2
  | .enum a, ρ, m => (evE C a ρ m).bind fun x m1 => .opt (enumD x) m1
  | _, _, _ => .stuck
end
def whileGo (c : Env' → Mu → Res Bool) (b : Env' → Mu → Fl) : Nat → Env' → Mu → Fl
  | 0, _, _ => .stuck
  | n + 1, ρ, m => match c ρ m with
    | .ok true m1 => (match b ρ m1 with
      | .nxt ρ2 m2 => whileGo c b n ρ2 m2
      | r => r)
    | .ok false m1 => .nxt ρ m1
    | .err k m1 => .err k ρ m1
    | .stuck => .stuck
def forGo (tg : Tgt) (b : Env' → Mu → Fl) : List D → Env' → Mu → Fl
  | [], ρ, m => .nxt ρ m
  | x :: xs, ρ, m => match bindT tg x ρ with
    | some ρ1 => (match b ρ1 m with
      | .nxt ρ2 m2 => forGo tg b xs ρ2 m2
      | r => r)
    | none => .stuck
def Res.fl {α : Type} (r : Res α) (ρ : Env') (f : α → Mu → Fl) : Fl := match r with
  | .ok a m => f a m
  | .err c m => .err c ρ m
  | .stuck => .stuck
@[simp] theorem Res.fl_ok {α : Type} (a : α) (m : Mu) (ρ : Env') (f : α → Mu → Fl) : (Res.ok a m).fl ρ f = f a m := rfl
@[simp] theorem Res.fl_err {α : Type} (c : Nat) (m : Mu) (ρ : Env') (f : α → Mu → Fl) : (Res.err c m : Res α).fl ρ f = .err c ρ m := rfl
@[simp] theorem Res.fl_stuck {α : Type} (ρ : Env') (f : α → Mu → Fl) : (Res.stuck : Res α).fl ρ f = .stuck := rfl
/-- a turn that may raise -/
def stepX (C : Cfg) (tg : Tgt) (e : E) (ρ : Env') (x : D) (m : Mu) : Res D := match bindT tg x (wipeE ρ tg.slots) with
  | some ρ' => evE C e ρ' m
  | none => .stuck
def evT (C : Cfg) (e : E) (ρ : Env') (m : Mu) : Res Bool := (evE C e ρ m).bind fun x m1 => .opt (truth x) m1
mutual
def evS (C : Cfg) : St → Env' → Mu → Fl
  | .asg tg e, ρ, m => (evE C e ρ m).fl ρ fun x m1 => match bindT tg x ρ with
    | some ρ1 => .nxt ρ1 m1
    | none => .stuck
  | .own i e, ρ, m => (evE C e ρ m).fl ρ fun x m1 => if i < ρ.length then .nxt (ρ.set i (some x)) m1 else .stuck
  | .aug i o e, ρ, m => match ρ[i]? with
    | some (some x) => (evE C e ρ m).fl ρ fun y m1 => match augD o x y with
      | some z => .nxt (ρ.set i (some z)) m1
      | none => .stuck
    | _ => .stuck
  | .setx _ _ _, _, _ => .stuck
  | .app i e, ρ, m => match ρ[i]? with
    | some (some (.lst l)) => (evE C e ρ m).fl ρ fun x m1 => if l.length < sizeD then .nxt (ρ.set i (some (.lst (l ++ [x])))) m1 else .stuck
    | _ => .stuck
  | .drop e, ρ, m => (evE C e ρ m).fl ρ fun _ m1 => .nxt ρ m1
  | .ret e, ρ, m => (evE C e ρ m).fl ρ fun x m1 => .ret x m1
  | .retN, _, m => .ret .non m
  | .ifs c a b, ρ, m => (evT C c ρ m).fl ρ fun t m1 => if t then evSs C a ρ m1 else evSs C b ρ m1
  | .whl c b, ρ, m => whileGo (fun ρ m => evT C c ρ m) (fun ρ m => evSs C b ρ m) 100000 ρ m
  | .fors tg it b, ρ, m => (evI C it ρ m).fl ρ fun xs m1 => forGo tg (fun ρ m => evSs C b ρ m) xs ρ m1
  | .rais c, ρ, m => .err c ρ m
  | .tri b k sl s, ρ, m => match evSs C b ρ m with
    | .err c ρ1 m1 => (match C.sub c k with
      | some true => (match evSs C s (match sl with | some i => ρ1.set i (some (.exc c)) | none => ρ1) m1 with
        | .nxt ρ2 m2 => .nxt (match sl with | some i => ρ2.set i none | none => ρ2) m2
        | r => r)
      | some false => .err c ρ1 m1
      | none => .stuck)
    | r => r
  | .asgX i tg it e, ρ, m => (evI C it ρ m).fl ρ fun xs m1 => (turnsX (stepX C tg e ρ) xs m1).fl ρ fun ys m2 => if i < ρ.length then .nxt (ρ.set i (some (.lst ys))) m2 else .stuck
  | .pas, ρ, m => .nxt ρ m
  | .fgt l, ρ, m => .nxt (wipeE ρ l) m
  | .wall, _, _ => .stuck
def evSs (C : Cfg) : Sts → Env' → Mu → Fl
  | .nil, ρ, m => .nxt ρ m
  | .cons a l, ρ, m => match evS C a ρ m with
    | .nxt ρ1 m1 => evSs C l ρ1 m1
    | r => r
end
def Fl.res : Fl → Res D
  | .nxt _ m => .ok .non m
  | .ret d m => .ok d m
  | .err c _ m => .err c m
  | .stuck => .stuck
/-- a def: how many parameters, how many slots, its body -/
structure Fn where
  par : Nat
  slots : Nat
  body : Sts
def callF (tbl : Nat → Option Fn) (sub : Nat → Nat → Option Bool) : Nat → Nat → List D → Mu → Res D
  | 0, _, _, _ => .stuck
  | n + 1, k, ds, m => match tbl k with
    | some f => if ds.length = f.par then (evSs ⟨callF tbl sub n, sub⟩ f.body (ds.map some ++ List.replicate (f.slots - f.par) none) m).res else .stuck
    | none => .stuck
end MP

set_option maxRecDepth 100000
set_option maxHeartbeats 4000000
set_option autoImplicit false
namespace MP
open PySem L2

/-! ### layouts of the told objects, steps -/
structure LI where
  a : Addr
  dx : Addr
  own : List Addr
abbrev Lay := List LI
def foot (L : Lay) (a : Addr) : Prop := ∃ x ∈ L, a = x.a ∨ a ∈ x.own
def AL (L : Lay) : Nat → Option Addr := fun n => (L[n]?).map (·.a)
def Bd (G : Addr → Prop) (L : Lay) (a : Addr) : Prop := G a ∨ foot L a
structure Stp (L L' : Lay) (H H' : Hp) : Prop where
  keep : ∀ a o, ¬ foot L a → H a = some o → H' a = some o
  new : ∀ a, foot L' a → foot L a ∨ H a = none
  stay : ∀ a o, H a = some o → ∃ u, H' a = some u
  al : ∀ n x, AL L n = some x → AL L' n = some x
theorem Stp.refl (L : Lay) (H : Hp) : Stp L L H H := ⟨fun _ _ _ h => h, fun _ h => .inl h, fun _ o h => ⟨o, h⟩, fun _ _ h => h⟩
theorem Stp.trans {L L1 L2 : Lay} {H H1 H2 : Hp} (a : Stp L L1 H H1) (b : Stp L1 L2 H1 H2) : Stp L L2 H H2 where
  keep := fun x o n h => by
    refine b.keep x o (fun q => ?_) (a.keep x o n h)
    rcases a.new x q with q | q
    · exact n q
    · rw [h] at q; cases q
  new := fun x q => by
    rcases b.new x q with q | q
    · exact a.new x q
    · by_cases n : foot L x
      · exact .inl n
      · right
        cases h : H x with
        | none => rfl
        | some o => rw [a.keep x o n h] at q; cases q
  stay := fun x o h => let ⟨u, hu⟩ := a.stay x o h; b.stay x u hu
  al := fun n x h => b.al n x (a.al n x h)
theorem Stp.same {L : Lay} {H H' : Hp} (s : Same H H') : Stp L L H H' := ⟨fun a o _ h => s a o h, fun _ h => .inl h, fun a o h => ⟨o, s a o h⟩, fun _ _ h => h⟩
theorem Stp.upd {L : Lay} {H : Hp} {p : Addr} {o : HO} (h : H p = none) : Stp L L H (upd H p o) := Stp.same fun a u e => by rw [upd_ne (ne_of_none e h)]; exact e
/-- what is known stays known -/
theorem Stp.hid {G : Addr → Prop} {L L' : Lay} {H H' : Hp} (s : Stp L L' H H') : Same (hide (Bd G L) H) (hide (Bd G L') H') := hide_same fun a o n h => by
  have nf : ¬ foot L a := fun q => n (.inr q)
  refine ⟨fun q => ?_, s.keep a o nf h⟩
  rcases q with q | q
  · exact n (.inl q)
  · rcases s.new a q with q | q
    · exact nf q
    · rw [h] at q; cases q

/-! ### the told objects -/
/-- CHANGE with classes -/
def SOk (K : PySem.W.Frag) (G : Addr → Prop) (L : Lay) (m : Mu) (H : Hp) : Prop := L = [] ∧ m = []
theorem SOk.same {K : PySem.W.Frag} {G : Addr → Prop} {L : Lay} {m : Mu} {H H' : Hp} (h : SOk K G L m H) (s : Same H H') : SOk K G L m H' := h
theorem SOk.upd {K : PySem.W.Frag} {G : Addr → Prop} {L : Lay} {m : Mu} {H : Hp} {p : Addr} {o : HO} (h : SOk K G L m H) (n : H p = none) : SOk K G L m (L2.upd H p o) := h
theorem SOk.own {K : PySem.W.Frag} {G G' : Addr → Prop} {L : Lay} {m : Mu} {H H' : Hp} (h : SOk K G L m H) (k : ∀ a o, ¬ G a → H a = some o → ¬ G' a ∧ H' a = some o) : SOk K G' L m H' := h

/-! ### containers -/
/-- a list or dict at a, told or a def's own -/
inductive CR (K : PySem.W.Frag) (A : Nat → Option Addr) (Hk H : Hp) (a : Addr) : D → Prop
  | lst {vs : List V} {ds : List D} : H a = some (.lst vs) → Reps K A Hk vs ds → ds.length ≤ sizeLine → CR K A Hk H a (.lst ds)
  | dic {kvs : List (Key × V)} {ds : List (D × D)} : H a = some (.dK kvs) → Repk K A Hk kvs ds → ds.length ≤ sizeLine → CR K A Hk H a (.dic ds)
theorem CR.mono {K : PySem.W.Frag} {A A' : Nat → Option Addr} {Hk Hk' H H' : Hp} {a : Addr} {d : D} (s : Same Hk Hk') (al : ∀ n x, A n = some x → A' n = some x) (h : ∀ o, H a = some o → H' a = some o) (c : CR K A Hk H a d) : CR K A' Hk' H' a d := by
  cases c with
  | lst q r z => exact .lst (h _ q) (r.mono s al) z
  | dic q r z => exact .dic (h _ q) (r.mono s al) z
/-- what a value tells: a told one, or (b) a def's own container -/
def RB (K : PySem.W.Frag) (b : Bool) (G : Addr → Prop) (L : Lay) (H : Hp) (v : V) (d : D) : Prop :=
  Rep K (AL L) (hide (Bd G L) H) v d ∨ (b = true ∧ ∃ a, v = .ref a ∧ G a ∧ CR K (AL L) (hide (Bd G L) H) H a d)
structure ESt (K : PySem.W.Frag) (own : Nat → Bool) (G : Addr → Prop) (L : Lay) (m : Mu) (ρ : Env') (σ : L2.St) (H : Hp) : Prop where
  gok : ∀ a, G a → (∃ o, H a = some o) ∧ ¬ foot L a
  sok : SOk K G L m H
  len : ρ.length = σ.length
  slot : ∀ (i : Nat) (d : D), ρ[i]? = some (some d) → ∃ v, σ[i]? = some (some v) ∧ (own i = false → Rep K (AL L) (hide (Bd G L) H) v d) ∧ (own i = true → ∃ a, v = .ref a ∧ G a ∧ CR K (AL L) (hide (Bd G L) H) H a d)
section
variable {K : PySem.W.Frag} {own : Nat → Bool} {G : Addr → Prop} {L L' : Lay} {m m' : Mu} {ρ : Env'} {σ : L2.St} {H H' : Hp} {v : V} {d : D} {b : Bool}
theorem ESt.keepG (E : ESt K own G L m ρ σ H) (s : Stp L L' H H') {a : Addr} (g : G a) : ∀ o, H a = some o → H' a = some o := fun o h => s.keep a o (E.gok a g).2 h
theorem ESt.step (E : ESt K own G L m ρ σ H) (s : Stp L L' H H') (k : SOk K G L' m' H') : ESt K own G L' m' ρ σ H' where
  gok := fun a g => by
    obtain ⟨⟨o, h⟩, n⟩ := E.gok a g
    refine ⟨⟨o, s.keep a o n h⟩, fun q => ?_⟩
    rcases s.new a q with q | q
    · exact n q
    · rw [h] at q; cases q
  sok := k
  len := E.len
  slot := fun i d e => by
    obtain ⟨v, h1, h2, h3⟩ := E.slot i d e
    refine ⟨v, h1, fun q => (h2 q).mono s.hid s.al, fun q => ?_⟩
    obtain ⟨a, e, g, c⟩ := h3 q
    exact ⟨a, e, g, c.mono s.hid s.al (E.keepG s g)⟩
theorem RB.step (r : RB K b G L H v d) (E : ESt K own G L m ρ σ H) (s : Stp L L' H H') : RB K b G L' H' v d := by
  rcases r with r | ⟨hb, a, e, g, c⟩
  · exact .inl (r.mono s.hid s.al)
  · exact .inr ⟨hb, a, e, g, c.mono s.hid s.al (E.keepG s g)⟩
theorem RB.weak (r : RB K b G L H v d) : RB K true G L H v d := r.elim .inl fun ⟨_, q⟩ => .inr ⟨rfl, q⟩
theorem RB.rep (r : RB K false G L H v d) : Rep K (AL L) (hide (Bd G L) H) v d := r.elim id fun ⟨q, _⟩ => by cases q
/-- what may be read of it -/
theorem RB.lst {ds : List D} (r : RB K b G L H v (.lst ds)) : ∃ a vs, v = .ref a ∧ SqL K H a vs ∧ Reps K (AL L) (hide (Bd G L) H) vs ds ∧ ds.length ≤ sizeLine := by
  rcases r with r | ⟨hb, a, e, g, c⟩
  · cases r with
    | lst h r z => exact ⟨_, _, rfl, Same.sqL hide_sub h, r, z⟩
  · cases c with
    | lst h r z => exact ⟨a, _, e, .inl (.inl h), r, z⟩
theorem RB.tup {ds : List D} (r : RB K b G L H v (.tup ds)) : ∃ a vs, v = .ref a ∧ SqT K H a vs ∧ Reps K (AL L) (hide (Bd G L) H) vs ds ∧ ds.length ≤ sizeLine := by
  rcases r with r | ⟨hb, a, e, g, c⟩
  · cases r with
    | tup h r z => exact ⟨_, _, rfl, Same.sqT hide_sub h, r, z⟩
  · cases c
theorem RB.dic {ds : List (D × D)} (r : RB K b G L H v (.dic ds)) : ∃ a kvs, v = .ref a ∧ Rd H a (.dK kvs) ∧ Repk K (AL L) (hide (Bd G L) H) kvs ds ∧ ds.length ≤ sizeLine := by
  rcases r with r | ⟨hb, a, e, g, c⟩
  · cases r with
    | dic h r z => exact ⟨_, _, rfl, Same.rd hide_sub h, r, z⟩
  · cases c with
    | dic h r z => exact ⟨a, _, e, .inl h, r, z⟩
theorem RB.int {i : Int} (r : RB K b G L H v (.int i)) : v = .int i := by
  rcases r with r | ⟨hb, a, e, g, c⟩
  · cases r; rfl
  · cases c
theorem RB.bl {i : Bool} (r : RB K b G L H v (.bl i)) : v = .bl i := by
  rcases r with r | ⟨hb, a, e, g, c⟩
  · cases r; rfl
  · cases c
theorem RB.non (r : RB K b G L H v .non) : v = .non := by
  rcases r with r | ⟨hb, a, e, g, c⟩
  · cases r; rfl
  · cases c
theorem RB.str {s : List Nat} (r : RB K b G L H v (.str s)) : v = .str (S s) ∧ s.length ≤ sizeLine := by
  rcases r with r | ⟨hb, a, e, g, c⟩
  · cases r with
    | str _ z => exact ⟨rfl, z⟩
  · cases c
theorem RB.dp (r : RB K b G L H v d) (f : d.flat = true) : Dp K H v d.toPy := by
  rcases r with r | ⟨hb, a, e, g, c⟩
  · exact Rep.dp hide_sub f r
  · cases c with
    | lst h r z =>
      subst e
      exact .lst (.inl (.inl h)) (Rep.dp.gos hide_sub r (by simpa [D.flat] using f))
    | dic h r z => simp [D.flat] at f
/-- a new told tuple, list, dict -/
theorem Rep.new {o : HO} {p : Addr} (h : H p = none) (ng : ¬ Bd G L p) : hide (Bd G L) (L2.upd H p o) p = some o := hide_of ng upd_same
end

/-! ### what stands fixed in a def -/
structure Cn where
  K : PySem.W.Frag
  cfg : Cfg
  own : Nat → Bool
  /-- the class of a number -/
  cls : Nat → Value
def PstG {α : Type} (c : Cn) (W : WX) (G : Addr → Prop) (L : Lay) (σ : L2.St) (H : Hp) (q : α → Mu → Hp → Lay → Prop) (r : Res α) : Prop := match r with
  | .ok d m' => ∀ H' L', Stp L L' H H' → SOk c.K G L' m' H' → q d m' H' L'
  | .err k m' => ∀ H' L', Stp L L' H H' → SOk c.K G L' m' H' → W (c.cls k) none σ H'
  | .stuck => False
/-- what is wanted of a value told so -/
abbrev Pst (c : Cn) (W : WX) (b : Bool) (G : Addr → Prop) (L : Lay) (σ : L2.St) (H : Hp) (Q : VK) (r : Res D) : Prop := PstG c W G L σ H (fun d _ H' L' => ∀ v, RB c.K b G L' H' v d → Q v H') r
abbrev PstT (c : Cn) (W : WX) (G : Addr → Prop) (L : Lay) (σ : L2.St) (H : Hp) (Q : Bool → Hp → Prop) (r : Res Bool) : Prop := PstG c W G L σ H (fun d _ H' _ => Q d H') r
inductive RBs (K : PySem.W.Frag) (b : Bool) (G : Addr → Prop) (L : Lay) (H : Hp) : List V → List D → Prop
  | nil : RBs K b G L H [] []
  | cons {v : V} {vs : List V} {d : D} {ds : List D} : RB K b G L H v d → RBs K b G L H vs ds → RBs K b G L H (v :: vs) (d :: ds)
theorem RBs.step {K : PySem.W.Frag} {own : Nat → Bool} {b : Bool} {G : Addr → Prop} {L L' : Lay} {m : Mu} {ρ : Env'} {σ : L2.St} {H H' : Hp} (E : ESt K own G L m ρ σ H) (s : Stp L L' H H') : ∀ {vs : List V} {ds : List D}, RBs K b G L H vs ds → RBs K b G L' H' vs ds
  | _, _, .nil => .nil
  | _, _, .cons h r => .cons (h.step E s) (RBs.step E s r)
theorem RBs.reps {K : PySem.W.Frag} {G : Addr → Prop} {L : Lay} {H : Hp} : ∀ {vs : List V} {ds : List D}, RBs K false G L H vs ds → Reps K (AL L) (hide (Bd G L) H) vs ds
  | _, _, .nil => .nil
  | _, _, .cons h r => .cons h.rep (RBs.reps r)
theorem RBs.length {K : PySem.W.Frag} {b : Bool} {G : Addr → Prop} {L : Lay} {H : Hp} : ∀ {vs : List V} {ds : List D}, RBs K b G L H vs ds → vs.length = ds.length
  | _, _, .nil => rfl
  | _, _, .cons _ r => congrArg (· + 1) (RBs.length r)
abbrev PstL (c : Cn) (W : WX) (b : Bool) (G : Addr → Prop) (L : Lay) (σ : L2.St) (H : Hp) (Q : List V → Hp → Prop) (r : Res (List D)) : Prop := PstG c W G L σ H (fun ds _ H' L' => ∀ vs, RBs c.K b G L' H' vs ds → Q vs H') r
def TEr (c : Cn) (W : WX) (b : Bool) (e : E) : TE := fun σ H Q => ∃ G L m ρ, ESt c.K c.own G L m ρ σ H ∧ Pst c W b G L σ H Q (evE c.cfg e ρ m)
def TTr (c : Cn) (W : WX) (e : E) : TT := fun σ H Q => ∃ G L m ρ, ESt c.K c.own G L m ρ σ H ∧ PstT c W G L σ H Q (evT c.cfg e ρ m)
def TAr (c : Cn) (W : WX) (b : Bool) (es : Es) : TA := fun σ H Q => ∃ G L m ρ, ESt c.K c.own G L m ρ σ H ∧ PstL c W b G L σ H Q (evEs c.cfg es ρ m)
section
variable {c : Cn} {W : WX} {G : Addr → Prop} {L L' : Lay} {m m' : Mu} {ρ : Env'} {σ : L2.St} {H H' : Hp} {b : Bool}
theorem PstG.step {α : Type} {q : α → Mu → Hp → Lay → Prop} {r : Res α} (h : PstG c W G L σ H q r) (s : Stp L L' H H') : PstG c W G L' σ H' q r := by
  cases r with
  | ok d m => exact fun H2 L2 s2 k => h H2 L2 (s.trans s2) k
  | err k m => exact fun H2 L2 s2 k => h H2 L2 (s.trans s2) k
  | stuck => exact h
theorem PstG.imp {α : Type} {q q' : α → Mu → Hp → Lay → Prop} {r : Res α} (h : PstG c W G L σ H q r) (i : ∀ d m H' L', r = .ok d m → Stp L L' H H' → SOk c.K G L' m H' → q d m H' L' → q' d m H' L') : PstG c W G L σ H q' r := by
  cases r with
  | ok d m => exact fun H2 L2 s2 k => i d m H2 L2 rfl s2 k (h H2 L2 s2 k)
  | err k m => exact h
  | stuck => exact h
theorem PstG.bind {α β : Type} {q : β → Mu → Hp → Lay → Prop} {r : Res α} {f : α → Mu → Res β} (h : PstG c W G L σ H q (r.bind f)) : PstG c W G L σ H (fun d m' H' L' => PstG c W G L' σ H' q (f d m')) r := by
  cases r with
  | ok d m => exact fun H2 L2 s2 k => h.step s2
  | err k m => exact h
  | stuck => exact h
/-- first e, then the rest -/
theorem TEr.bind {e : E} {f : D → Mu → Res D} {Q Q' : VK} {b' : Bool} (E : ESt c.K c.own G L m ρ σ H) (h : Pst c W b' G L σ H Q ((evE c.cfg e ρ m).bind f))
    (k : ∀ d m' v H' L', evE c.cfg e ρ m = .ok d m' → Stp L L' H H' → ESt c.K c.own G L' m' ρ σ H' → RB c.K b G L' H' v d → Pst c W b' G L' σ H' Q (f d m') → Q' v H') : TEr c W b e σ H Q' :=
  ⟨G, L, m, ρ, E, (PstG.bind h).imp fun d m H' L' e s ok q v r => k d m v H' L' e s (E.step s ok) r q⟩
theorem TAr.bind {es : Es} {f : List D → Mu → Res D} {Q : VK} {Q' : List V → Hp → Prop} {b' : Bool} (E : ESt c.K c.own G L m ρ σ H) (h : Pst c W b' G L σ H Q ((evEs c.cfg es ρ m).bind f))
    (k : ∀ d m' v H' L', evEs c.cfg es ρ m = .ok d m' → Stp L L' H H' → ESt c.K c.own G L' m' ρ σ H' → RBs c.K b G L' H' v d → Pst c W b' G L' σ H' Q (f d m') → Q' v H') : TAr c W b es σ H Q' :=
  ⟨G, L, m, ρ, E, (PstG.bind h).imp fun d m H' L' e s ok q v r => k d m v H' L' e s (E.step s ok) r q⟩
/-- the end of a going: a value that is told by itself -/
theorem Pst.val {Q : VK} {d : D} {v : V} (E : ESt c.K c.own G L m ρ σ H) (h : Pst c W b G L σ H Q (.ok d m)) (r : RB c.K b G L H v d) : Q v H := h H L (Stp.refl _ _) E.sok v r
theorem ESt.nb {K : PySem.W.Frag} {own : Nat → Bool} {p : Addr} (E : ESt K own G L m ρ σ H) (hf : ∀ a, foot L a → ∃ o, H a = some o) (n : H p = none) : ¬ Bd G L p := fun q => by
  rcases q with q | q
  · obtain ⟨⟨o, h⟩, _⟩ := E.gok p q
    rw [n] at h; cases h
  · obtain ⟨o, h⟩ := hf p q
    rw [n] at h; cases h
end
theorem SOk.foot {K : PySem.W.Frag} {G : Addr → Prop} {L : Lay} {m : Mu} {H : Hp} (h : SOk K G L m H) : ∀ a, foot L a → ∃ o, H a = some o := fun a ⟨x, hx, _⟩ => by
  rw [h.1] at hx
  cases hx
section
variable {c : Cn} {W : WX} {G : Addr → Prop} {L : Lay} {m : Mu} {ρ : Env'} {σ : L2.St} {H : Hp} {b : Bool} {Q : VK}
/-- a new tuple -/
theorem Pst.tup {ds : List D} {vs : List V} {p : Addr} (E : ESt c.K c.own G L m ρ σ H) (h : Pst c W b G L σ H Q (.ok (.tup ds) m)) (r : Reps c.K (AL L) (hide (Bd G L) H) vs ds) (z : ds.length ≤ sizeLine) (n : H p = none) : Q (.ref p) (L2.upd H p (.tup vs)) := by
  have nb := E.nb E.sok.foot n
  refine h _ L (Stp.upd n) (E.sok.upd n) _ (.inl (.tup (.inl (.inl (Rep.new n nb))) ?_ z))
  exact r.mono (Stp.upd n).hid fun _ _ h => h
theorem Pst.lst {ds : List D} {vs : List V} {p : Addr} (E : ESt c.K c.own G L m ρ σ H) (h : Pst c W b G L σ H Q (.ok (.lst ds) m)) (r : Reps c.K (AL L) (hide (Bd G L) H) vs ds) (z : ds.length ≤ sizeLine) (n : H p = none) : Q (.ref p) (L2.upd H p (.lst vs)) := by
  have nb := E.nb E.sok.foot n
  refine h _ L (Stp.upd n) (E.sok.upd n) _ (.inl (.lst (.inl (.inl (Rep.new n nb))) ?_ z))
  exact r.mono (Stp.upd n).hid fun _ _ h => h
end
end MP

set_option maxRecDepth 100000
set_option maxHeartbeats 4000000
set_option autoImplicit false
namespace MP
open PySem L2

section
variable {X : Cx}
theorem pe_imp {e : Expr} {t t' : TE} (h : PE X e t) (i : ∀ σ H Q, t' σ H Q → t σ H Q) : PE X e t' := ⟨fun pins s σ H Q I q => h.run pins s σ H Q I (i σ H Q q)⟩
theorem pt_imp {e : Expr} {t t' : TT} (h : PT X e t) (i : ∀ σ H Q, t' σ H Q → t σ H Q) : PT X e t' := ⟨fun pins s σ H Q I q => h.run pins s σ H Q I (i σ H Q q)⟩
theorem opF {f : Value → Value → Sem Value} : OpR X f (fun _ _ _ _ => False) := fun _ _ _ _ _ _ _ _ _ _ _ _ h => h.elim
theorem S_app (a b : List Nat) : S a ++ S b = S (a ++ b) := by
  have e : tl (S a ++ S b) = a ++ b := by
    show (S a ++ S b).cps.toList = _
    show ((S a).cps ++ (S b).cps).toList = _
    simp [S]
  rw [← S_tl (S a ++ S b), e]
theorem toPy_plain : ∀ (d : D), d.flat = true → d.toPy.plain = true := fun d h => go d h
where
  go : ∀ (d : D), d.flat = true → d.toPy.plain = true
  | .non, _ => rfl
  | .bl _, _ => rfl
  | .int _, _ => rfl
  | .str _, _ => rfl
  | .tup l, h => by
    rw [D.toPy, PyData.plain]
    exact gos l (by simpa [D.flat] using h)
  | .lst l, h => by
    rw [D.toPy, PyData.plain]
    exact gos l (by simpa [D.flat] using h)
  | .dic _, h => by simp [D.flat] at h
  | .obj _, h => by simp [D.flat] at h
  | .exc _, h => by simp [D.flat] at h
  gos : ∀ (l : List D), D.flats l = true → PyData.plainAll (D.toPys l) = true
  | [], _ => rfl
  | d :: l, h => by
    simp [D.flats] at h
    rw [D.toPys, PyData.plainAll, go d h.1, gos l h.2]
    rfl
theorem toPy_dep : ∀ (d : D), d.toPy.depth = d.dep := fun d => go d
where
  go : ∀ (d : D), d.toPy.depth = d.dep
  | .non => rfl
  | .bl _ => rfl
  | .int _ => rfl
  | .str _ => rfl
  | .tup l => by rw [D.toPy, PyData.depth, gos l, D.dep]
  | .lst l => by rw [D.toPy, PyData.depth, gos l, D.dep]
  | .dic _ => rfl
  | .obj _ => rfl
  | .exc _ => rfl
  gos : ∀ (l : List D), PyData.depthAll (D.toPys l) = D.deps l
  | [] => rfl
  | d :: l => by rw [D.toPys, PyData.depthAll, go d, gos l, D.deps]
theorem toPys_map : ∀ l : List D, D.toPys l = l.map D.toPy
  | [] => rfl
  | d :: l => by rw [D.toPys, toPys_map l]; rfl
/-! ### operations by values -/
theorem addS (l : Addr) (items : Array Value) (n : Nat) (sl : Array (Option Value)) (b : Addr) (items2 : Array Value) (n2 : Nat) (sl2 : Array (Option Value)) (hc0 : items.size + items2.size ≤ sizeLine) :
    Meets (Builtin.«list.__add__» ⟨[.ref l, .ref b], []⟩) (fun _ R s => s.heap.get? l = some { cls := .type "list", dict := none, data := .seq items n, slots := sl } ∧ s.heap.get? b = some { cls := .type "list", dict := none, data := .seq items2 n2, slots := sl2 } ∧ R (.ok (.ret (Value.ref s.heap.objs.size))) { s with heap := s.heap.push { cls := Value.type "list", data := Data.seq (items ++ items2) }, toks := s.toks }) :=
  .of_wp fun prog w A R s h => by obtain ⟨hp, g, d, tk, os⟩ := s; obtain ⟨hl, hb, h⟩ := h; have f1 := AutoSeq1.idx_int; have f2 := AutoSeq1.sub_tuple_tuple; have f3 := AutoSeq1.sub_list_list; have f4 := AutoSeq1.sub_tuple_list; have f5 := AutoSeq1.sub_list_tuple; wp_walk using AutoSeq1.wpAny_loadPart' hl, AutoSeq1.wpAny_loadPart' hb; exact ⟨_, rfl, h⟩
section
variable {prog : Program} {w : World} {A : Around} {s : Shared} {E : Value → Shared → Prop} {l b : Addr} {items items2 : Array Value} {n n2 : Nat} {sl sl2 : Array (Option Value)}
theorem add_listS {Q : Value → Shared → Prop} (hl : s.heap.get? l = some { cls := .type "list", dict := none, data := .seq items n, slots := sl }) (hb : s.heap.get? b = some { cls := .type "list", dict := none, data := .seq items2 n2, slots := sl2 })
    (h : Q (.ref s.heap.objs.size) { s with heap := s.heap.push { cls := .type "list", data := .seq (items ++ items2) } }) (hsz : items.size + items2.size ≤ sizeLine) : wpAny (model prog w) A (binaryOp .Add (.ref l) (.ref b)) Q E s :=
  PySem.concat_meets ⟨_, hl, rfl⟩ ⟨_, hb, rfl⟩ PySem.noFill_list_add PySem.seq_list_add PySem.F.slot_list_add PySem.F.entry_list_add (PySem.F.args_list_add_2 _ _) (addS l items n sl b items2 n2 sl2 hsz) ⟨hl, hb, h⟩
end
def rCatL (K : PySem.W.Frag) : R2 := fun x y H Q => ∃ l b xs zs, x = .ref l ∧ y = .ref b ∧ SqL K H l xs ∧ SqL K H b zs ∧ xs.length + zs.length ≤ sizeLine ∧ ∀ p, H p = none → Q (.ref p) (upd H p (.lst (xs ++ zs)))
theorem op_catL : OpR X (binaryOp .Add) (rCatL X.K) := by
  intro pins s σ H x y v u Q I rx ry h
  obtain ⟨l, b, xs, zs, rfl, rfl, hH, hB, hz, q⟩ := h
  cases rx
  cases ry
  obtain ⟨its, r, ⟨⟨oc, od, oda, osl⟩, n, e, c1, c2, c3⟩, z⟩ := I.list hH
  obtain ⟨its2, r2, ⟨⟨oc2, od2, oda2, osl2⟩, n2, e2, d1, d2, d3⟩, z2⟩ := I.list hB
  cases c1
  cases c2
  cases c3
  cases d1
  cases d2
  cases d3
  refine add_listS e e2 ?_ (by rw [List.size_toArray, List.size_toArray]; have := r.length; have := r2.length; omega)
  have ea : its.toArray ++ its2.toArray = (its ++ its2).toArray := by simp
  rw [ea]
  exact ⟨.ref _, _, I.lnew (t' := s.toks) (r.append r2) (by rw [List.length_append]; omega), rfl, q _ I.fresh⟩
theorem fold_app (x : Array Nat) : ∀ (n : Nat) (a : Array Nat), ((List.replicate n x).foldl (· ++ ·) a).toList = a.toList ++ (List.replicate n x.toList).flatten
  | 0, a => by simp
  | n + 1, a => by
    rw [List.replicate_succ, List.foldl_cons, fold_app x n, Array.toList_append, List.replicate_succ, List.flatten_cons, List.append_assoc]
theorem tl_mul (a : List Nat) (k : Int) (hk : 0 ≤ k) : Txt.mul (S a) k = S ((List.replicate k.toNat a).flatten) := by
  have ext : ∀ x y : Str, tl x = tl y → x = y := fun x y h => by rw [← S_tl x, ← S_tl y, h]
  apply ext
  unfold Txt.mul
  split
  · have e : k.toNat = 0 := by omega
    rw [e]
    rfl
  · split
    · rename_i h1 h2
      rw [tl_S, tl_S]
      simp only [Bool.or_eq_true, beq_iff_eq] at h2
      rcases h2 with h2 | h2
      · rw [h2]; simp
      · rw [S_len] at h2
        have : a = [] := List.eq_nil_of_length_eq_zero h2
        subst this
        have : ∀ n : Nat, (List.replicate n ([] : List Nat)).flatten = [] := fun n => by
          induction n with
          | zero => rfl
          | succ n ih => rw [List.replicate_succ, List.flatten_cons, ih]; rfl
        rw [this]
    · show (Array.toList _) = _
      have := fold_app (S a).cps k.toNat #[]
      rw [tl_S]
      simpa [S] using this
def rMulS : R2 := fun x y H Q => ∃ a k, x = .str (S a) ∧ y = .int k ∧ 0 ≤ k ∧ k < 2 ^ 62 ∧ a.length * k.toNat ≤ 10000 ∧ Q (.str (S ((List.replicate k.toNat a).flatten))) H
theorem op_mulS : OpR X (binaryOp .Mult) rMulS := by
  intro pins s σ H x y v u Q I rx ry h
  obtain ⟨a, k, rfl, rfl, hk, hk2, hz, q⟩ := h
  obtain ⟨t, rfl⟩ := rx
  obtain ⟨t', rfl⟩ := ry
  have ok : MulOk (S a) k := by
    refine ⟨?_, fun h1 h2 => ?_, fun h1 h2 => ?_⟩
    · rw [Bool.or_eq_false_iff]
      exact ⟨decide_eq_false (by omega), decide_eq_false (by omega)⟩
    · rw [S_len]
      have h3 : (a.length : Int) * k ≤ 10000 := by
        have : ((a.length * k.toNat : Nat) : Int) ≤ 10000 := by omega
        rw [Int.natCast_mul, Int.toNat_of_nonneg hk] at this
        exact this
      intro h4
      have h5 : (2 ^ 63 - 1) / k < (a.length : Int) := h4
      have h6 := (Int.ediv_lt_iff_lt_mul (by omega)).mp h5
      omega
    · rw [S_len]
      unfold Builtin.Str.tooLong
      have : sizeLine = 16777216 := by decide
      exact decide_eq_false (by omega)
  refine PySem.SB.mul ok fun t2 k2 => ?_
  rw [tl_mul a k hk]
  exact ⟨.str _, H, { I.tok k2 with }, ⟨_, rfl⟩, q⟩
def opOf : BOp → Operator
  | .add => .Add | .sub => .Sub | .mul => .Mult | .fdiv => .FloorDiv | .mod => .Mod | .pow => .Pow
end

section
variable {X : Cx} {c : Cn} {W : WX} {ba bb : Bool} {ea eb : E} {x y : Expr} {pos : Pos}
theorem sd {n : Nat} (h : n ≤ sizeD) : n ≤ sizeLine := h
theorem pe_op2 {op : Operator} {e : E} {f : D → D → Option D} (he : ∀ ρ m, evE c.cfg e ρ m = (evE c.cfg ea ρ m).bind fun x m1 => (evE c.cfg eb ρ m1).bind fun y m2 => .opt (f x y) m2) (ha : PE X x (TEr c W ba ea)) (hb : PE X y (TEr c W bb eb))
    (rule : ∀ a b z, f a b = some z → ∃ r : R2, OpR X (binaryOp op) r ∧ ∀ (G : Addr → Prop) (L : Lay) (m : Mu) (ρ : Env') (σ : L2.St) (H : Hp) (Q : VK) (v w : V), ESt c.K c.own G L m ρ σ H → RB c.K ba G L H v a → RB c.K bb G L H w b → Pst c W false G L σ H Q (.ok z m) → r v w H Q) :
    PE X (.BinOp x op y pos) (TEr c W false e) := by
  refine ⟨fun pins s σ H Q I h => ?_⟩
  obtain ⟨G, L, m, ρ, E, h⟩ := h
  rw [he] at h
  by_cases hz : ∃ a m1 b m2 z, evE c.cfg ea ρ m = .ok a m1 ∧ evE c.cfg eb ρ m1 = .ok b m2 ∧ f a b = some z
  · obtain ⟨a, m1, b, m2, z, e1, e2, e3⟩ := hz
    obtain ⟨r, hr, k⟩ := rule a b z e3
    refine (pe_op hr ha hb).run pins s σ H Q I ?_
    refine TEr.bind E h fun a' m1' v H1 L1 q1 s1 E1 r1 h1 => ?_
    rw [e1] at q1
    cases q1
    refine TEr.bind E1 h1 fun b' m2' w H2 L2 q2 s2 E2 r2 h2 => ?_
    rw [e2] at q2
    cases q2
    rw [e3] at h2
    exact k G L2 _ ρ σ H2 Q v w E2 (r1.step E1 s2) r2 h2
  · refine (pe_op opF ha hb).run pins s σ H Q I ?_
    refine TEr.bind E h fun a' m1' v H1 L1 q1 s1 E1 r1 h1 => ?_
    refine TEr.bind E1 h1 fun b' m2' w H2 L2 q2 s2 E2 r2 h2 => ?_
    cases e3 : f a' b' with
    | none => rw [e3] at h2; exact h2
    | some z => exact hz ⟨_, _, _, _, _, q1, q2, e3⟩
theorem mulOk_or {i j : Int} (h : mulOk i j = true) : CMul i j ∨ CMulW i j := by
  unfold mulOk at h
  simp only [Bool.or_eq_true, decide_eq_true_eq] at h
  rcases h with (h | h) | h
  · exact .inl (.inl ⟨by omega, by omega⟩)
  · exact .inl (.inr ⟨by omega, by omega⟩)
  · exact .inr h
theorem bin_rule (o : BOp) (a b z : D) (h : binD o a b = some z) : ∃ r : R2, OpR X (binaryOp (opOf o)) r ∧ ∀ (G : Addr → Prop) (L : Lay) (m : Mu) (ρ : Env') (σ : L2.St) (H : Hp) (Q : VK) (v w : V), ESt X.K c.own G L m ρ σ H → RB X.K ba G L H v a → RB X.K bb G L H w b → Pst c W false G L σ H Q (.ok z m) → (hK : c.K = X.K) → r v w H Q := by
  unfold binD at h
  split at h
  · cases h
    exact ⟨_, op_add, fun G L m ρ σ H Q v w E r1 r2 q hK => ⟨_, _, r1.int, r2.int, q H L (Stp.refl _ _) (hK ▸ E.sok) _ (.inl (.int _))⟩⟩
  · split at h
    · rename_i z
      cases h
      exact ⟨_, op_add_str, fun G L m ρ σ H Q v w E r1 r2 q hK => ⟨_, _, r1.str.1, r2.str.1, by rw [S_len, S_len]; exact sd z, by rw [S_app]; exact q H L (Stp.refl _ _) (hK ▸ E.sok) _ (.inl (.str _ (by rw [List.length_append]; exact sd z)))⟩⟩
    · cases h
  · split at h
    · rename_i z
      cases h
      refine ⟨_, op_catL, fun G L m ρ σ H Q v w E r1 r2 q hK => ?_⟩
      obtain ⟨a1, vs1, e1, h1, p1, z1⟩ := r1.lst
      obtain ⟨a2, vs2, e2, h2, p2, z2⟩ := r2.lst
      refine ⟨a1, a2, vs1, vs2, e1, e2, hK ▸ h1, hK ▸ h2, by rw [p1.length, p2.length]; exact sd z, fun p n => ?_⟩
      exact Pst.lst (c := c) (hK ▸ E) q (hK ▸ p1.append p2) (by rw [List.length_append]; exact sd z) n
    · cases h
  · split at h
    · rename_i z
      cases h
      refine ⟨_, op_catA, fun G L m ρ σ H Q v w E r1 r2 q hK => ?_⟩
      obtain ⟨a1, vs1, e1, h1, p1, z1⟩ := r1.tup
      obtain ⟨a2, vs2, e2, h2, p2, z2⟩ := r2.tup
      have E' : ESt c.K c.own G L m ρ σ H := hK ▸ E
      refine ⟨a1, a2, vs1, vs2, e1, e2, h1, h2, by rw [p1.length, p2.length]; exact sd z, fun en => ?_, fun _ en => ?_, fun _ _ p n => ?_⟩
      · subst en
        cases p1
        subst e2
        exact Pst.val E' q (by rw [hK, List.nil_append]; exact .inl (r2.elim id fun ⟨_, a, e, g, cr⟩ => by cases cr))
      · subst en
        cases p2
        subst e1
        exact Pst.val E' q (by rw [hK, List.append_nil]; exact .inl (r1.elim id fun ⟨_, a, e, g, cr⟩ => by cases cr))
      · exact Pst.tup E' q (hK ▸ p1.append p2) (by rw [List.length_append]; exact sd z) n
    · cases h
  · cases h
    exact ⟨_, op_sub, fun G L m ρ σ H Q v w E r1 r2 q hK => ⟨_, _, r1.int, r2.int, q H L (Stp.refl _ _) (hK ▸ E.sok) _ (.inl (.int _))⟩⟩
  · split at h
    · rename_i z
      cases h
      rcases mulOk_or z with z | z
      · exact ⟨_, op_mul, fun G L m ρ σ H Q v w E r1 r2 q hK => ⟨_, _, r1.int, r2.int, z, q H L (Stp.refl _ _) (hK ▸ E.sok) _ (.inl (.int _))⟩⟩
      · exact ⟨_, op_mulW, fun G L m ρ σ H Q v w E r1 r2 q hK => ⟨_, _, r1.int, r2.int, z, q H L (Stp.refl _ _) (hK ▸ E.sok) _ (.inl (.int _))⟩⟩
    · cases h
  · split at h
    · rename_i z
      cases h
      exact ⟨_, op_mulS, fun G L m ρ σ H Q v w E r1 r2 q hK => ⟨_, _, r1.str.1, r2.int, z.1, z.2.1, z.2.2, q H L (Stp.refl _ _) (hK ▸ E.sok) _ (.inl (.str _ (by
        have e : ∀ (n : Nat) (a : List Nat), (List.replicate n a).flatten.length = a.length * n := fun n a => by
          induction n with
          | zero => rfl
          | succ n ih => rw [List.replicate_succ, List.flatten_cons, List.length_append, ih, Nat.mul_succ, Nat.add_comm]
        rw [e]
        have : sizeLine = 16777216 := by decide
        omega)))⟩⟩
    · cases h
  · split at h
    · rename_i z
      cases h
      exact ⟨_, op_fdivW, fun G L m ρ σ H Q v w E r1 r2 q hK => ⟨_, _, r1.int, r2.int, z, q H L (Stp.refl _ _) (hK ▸ E.sok) _ (.inl (.int _))⟩⟩
    · cases h
  · split at h
    · rename_i z
      cases h
      exact ⟨_, op_mod, fun G L m ρ σ H Q v w E r1 r2 q hK => ⟨_, _, r1.int, r2.int, z, q H L (Stp.refl _ _) (hK ▸ E.sok) _ (.inl (.int _))⟩⟩
    · cases h
  · split at h
    · rename_i z
      cases h
      exact ⟨_, op_pow, fun G L m ρ σ H Q v w E r1 r2 q hK => ⟨_, _, r1.int, r2.int, ⟨z.1, by omega, z.2.2⟩, q H L (Stp.refl _ _) (hK ▸ E.sok) _ (.inl (.int _))⟩⟩
    · cases h
  · cases h
theorem s_bin (o : BOp) (hK : c.K = X.K) (ha : PE X x (TEr c W ba ea)) (hb : PE X y (TEr c W bb eb)) : PE X (.BinOp x (opOf o) y pos) (TEr c W false (.bin o ea eb)) := by
  refine pe_op2 (f := binD o) (fun ρ m => by rw [evE]) ha hb fun a b z h => ?_
  obtain ⟨r, hr, k⟩ := bin_rule (X := X) (c := c) (W := W) (ba := ba) (bb := bb) o a b z h
  exact ⟨r, hr, fun G L m ρ σ H Q v w E r1 r2 q => k G L m ρ σ H Q v w (hK ▸ E) (hK ▸ r1) (hK ▸ r2) q hK⟩
end
end MP

set_option maxRecDepth 100000
set_option maxHeartbeats 4000000
set_option autoImplicit false
namespace MP
open PySem L2

/-! ### comparisons -/
section
variable {X : Cx}
def rEqP (K : PySem.W.Frag) : R2 := fun x y H Q => ∃ d e, Dp K H x d ∧ Dp K H y e ∧ d.plain = true ∧ e.plain = true ∧ (d.depth ≤ 64 ∨ e.depth ≤ 64) ∧ Q (.bl (PyData.eqv d e)) H
def rNeP (K : PySem.W.Frag) : R2 := fun x y H Q => ∃ d e, Dp K H x d ∧ Dp K H y e ∧ d.plain = true ∧ e.plain = true ∧ (d.depth ≤ 64 ∨ e.depth ≤ 64) ∧ Q (.bl (!PyData.eqv d e)) H
theorem op_eqP (hu : X.A.units + 65 < cLine) : OpR X (compareOp .Eq) (rEqP X.K) := by
  intro pins s σ H x y v u Q I rx ry h
  obtain ⟨d, e, hd, he, sd, se, hz, q⟩ := h
  obtain ⟨as, r1⟩ := Dp.reads I d x v hd rx
  obtain ⟨bs, r2⟩ := Dp.reads I e y u he ry
  exact SeqAt.eq_plain r1 r2 sd se (by omega) ⟨.bl _, H, I, rfl, q⟩
theorem op_neP (hu : X.A.units + 65 < cLine) : OpR X (compareOp .NotEq) (rNeP X.K) := by
  intro pins s σ H x y v u Q I rx ry h
  obtain ⟨d, e, hd, he, sd, se, hz, q⟩ := h
  obtain ⟨as, r1⟩ := Dp.reads I d x v hd rx
  obtain ⟨bs, r2⟩ := Dp.reads I e y u he ry
  exact SeqAt.ne_plain r1 r2 sd se (by omega) ⟨.bl _, H, I, rfl, q⟩
def rInP (K : PySem.W.Frag) (neg : Bool) : R2 := fun x y H Q => ∃ d es, Dp K H x d ∧ (Dp K H y (.list es) ∨ Dp K H y (.tuple es)) ∧ d.plain = true ∧ PyData.plainAll es = true ∧ d.depth ≤ 60 ∧ Q (.bl (if neg then !(es.any fun z => PyData.eqv z d) else es.any fun z => PyData.eqv z d)) H
theorem op_inP (hu : X.A.units + 65 < cLine) : OpR X (compareOp .In) (rInP X.K false) := by
  intro pins s σ H x y v u Q I rx ry h
  obtain ⟨d, es, hd, he, sd, se, hz, q⟩ := h
  obtain ⟨as, r1⟩ := Dp.reads I d x v hd rx
  rcases he with he | he
  · obtain ⟨bs, r2⟩ := Dp.reads I _ y u he ry
    exact SeqAt.in_list_data r2 r1 se sd (by omega) ⟨.bl _, H, I, rfl, q⟩
  · obtain ⟨bs, r2⟩ := Dp.reads I _ y u he ry
    exact SeqAt.in_tuple_data r2 r1 se sd (by omega) ⟨.bl _, H, I, rfl, q⟩
theorem op_notInP (hu : X.A.units + 65 < cLine) : OpR X (compareOp .NotIn) (rInP X.K true) := by
  intro pins s σ H x y v u Q I rx ry h
  obtain ⟨d, es, hd, he, sd, se, hz, q⟩ := h
  obtain ⟨as, r1⟩ := Dp.reads I d x v hd rx
  rcases he with he | he
  · obtain ⟨bs, r2⟩ := Dp.reads I _ y u he ry
    exact SeqAt.notIn_list_data r2 r1 se sd (by omega) ⟨.bl _, H, I, rfl, q⟩
  · obtain ⟨bs, r2⟩ := Dp.reads I _ y u he ry
    exact SeqAt.notIn_tuple_data r2 r1 se sd (by omega) ⟨.bl _, H, I, rfl, q⟩
end
def cOf : COp → CmpOp
  | .eq => .Eq | .ne => .NotEq | .lt => .Lt | .le => .LtE | .gt => .Gt | .ge => .GtE | .isin => .In | .notin => .NotIn
def isSet : Expr → Bool
  | .Set _ _ _ => true
  | _ => false
theorem behind_of {op : CmpOp} {b : Expr} (h : isSet b = false) : behindInMarks op b = false := by
  cases b <;> first | rfl | (simp [isSet] at h)
section
variable {X : Cx} {c : Cn} {W : WX} {ba bb bc : Bool} {ea eb ec : E} {x y z : Expr} {pos : Pos}
theorem plainAll_of {l : List D} (h : D.flats l = true) : PyData.plainAll (D.toPys l) = true := toPy_plain.gos l h
/-- the rule of a comparison whose answer is known; the heap stays -/
theorem cmp_rule (hu : X.A.units + 65 < cLine) (o : COp) (a b : D) (r : Bool) (h : cmpD o a b = some r) : ∃ R : R2, OpR X (compareOp (cOf o)) R ∧ ∀ (G : Addr → Prop) (L : Lay) (H : Hp) (Q : VK) (v w : V), RB X.K ba G L H v a → RB X.K bb G L H w b → Q (.bl r) H → R v w H Q := by
  unfold cmpD at h
  split at h
  · unfold eqD at h
    split at h
    · rename_i hf
      cases h
      exact ⟨_, op_eqP hu, fun G L H Q v w r1 r2 q => ⟨_, _, r1.dp hf.1, r2.dp hf.2.1, toPy_plain _ hf.1, toPy_plain _ hf.2.1, by rw [toPy_dep, toPy_dep]; exact hf.2.2, q⟩⟩
    · cases h
  · rename_i a b
    unfold eqD at h
    split at h
    · rename_i hf
      cases h
      exact ⟨_, op_neP hu, fun G L H Q v w r1 r2 q => ⟨_, _, r1.dp hf.1, r2.dp hf.2.1, toPy_plain _ hf.1, toPy_plain _ hf.2.1, by rw [toPy_dep, toPy_dep]; exact hf.2.2, q⟩⟩
    · cases h
  · cases h; exact ⟨_, op_lt, fun G L H Q v w r1 r2 q => ⟨_, _, r1.int, r2.int, q⟩⟩
  · cases h; exact ⟨_, op_le, fun G L H Q v w r1 r2 q => ⟨_, _, r1.int, r2.int, q⟩⟩
  · cases h; exact ⟨_, op_gt, fun G L H Q v w r1 r2 q => ⟨_, _, r1.int, r2.int, q⟩⟩
  · cases h; exact ⟨_, op_ge, fun G L H Q v w r1 r2 q => ⟨_, _, r1.int, r2.int, q⟩⟩
  · cases h; exact ⟨_, op_lt_str, fun G L H Q v w r1 r2 q => ⟨_, _, r1.str.1, r2.str.1, q⟩⟩
  · cases h; exact ⟨_, op_le_str, fun G L H Q v w r1 r2 q => ⟨_, _, r1.str.1, r2.str.1, q⟩⟩
  · cases h; exact ⟨_, op_gt_str, fun G L H Q v w r1 r2 q => ⟨_, _, r1.str.1, r2.str.1, q⟩⟩
  · cases h; exact ⟨_, op_ge_str, fun G L H Q v w r1 r2 q => ⟨_, _, r1.str.1, r2.str.1, q⟩⟩
  · unfold isinD at h
    split at h
    · split at h
      · rename_i hf
        cases h
        exact ⟨_, op_inP hu, fun G L H Q v w r1 r2 q => ⟨_, D.toPys _, r1.dp hf.1, .inl (r2.dp (by rw [D.flat]; exact hf.2.1)), toPy_plain _ hf.1, plainAll_of hf.2.1, by rw [toPy_dep]; exact hf.2.2, by
          rw [if_neg Bool.false_ne_true, toPys_map, List.any_map]; exact q⟩⟩
      · cases h
    · split at h
      · rename_i hf
        cases h
        exact ⟨_, op_inP hu, fun G L H Q v w r1 r2 q => ⟨_, D.toPys _, r1.dp hf.1, .inr (r2.dp (by rw [D.flat]; exact hf.2.1)), toPy_plain _ hf.1, plainAll_of hf.2.1, by rw [toPy_dep]; exact hf.2.2, by
          rw [if_neg Bool.false_ne_true, toPys_map, List.any_map]; exact q⟩⟩
      · cases h
    · split at h
      · cases h
        exact ⟨_, op_in_str, fun G L H Q v w r1 r2 q => ⟨_, _, r1.str.1, r2.str.1, by rw [S_len]; exact q⟩⟩
      · cases h
    · cases h
  · cases hd : isinD a b with
    | none => rw [hd] at h; cases h
    | some r0 =>
      rw [hd] at h
      cases h
      unfold isinD at hd
      split at hd
      · split at hd
        · rename_i hf
          cases hd
          exact ⟨_, op_notInP hu, fun G L H Q v w r1 r2 q => ⟨_, D.toPys _, r1.dp hf.1, .inl (r2.dp (by rw [D.flat]; exact hf.2.1)), toPy_plain _ hf.1, plainAll_of hf.2.1, by rw [toPy_dep]; exact hf.2.2, by
            rw [if_pos rfl, toPys_map, List.any_map]; exact q⟩⟩
        · cases hd
      · split at hd
        · rename_i hf
          cases hd
          exact ⟨_, op_notInP hu, fun G L H Q v w r1 r2 q => ⟨_, D.toPys _, r1.dp hf.1, .inr (r2.dp (by rw [D.flat]; exact hf.2.1)), toPy_plain _ hf.1, plainAll_of hf.2.1, by rw [toPy_dep]; exact hf.2.2, by
            rw [if_pos rfl, toPys_map, List.any_map]; exact q⟩⟩
        · cases hd
      · split at hd
        · cases hd
          exact ⟨_, op_notIn_str, fun G L H Q v w r1 r2 q => ⟨_, _, r1.str.1, r2.str.1, by rw [S_len]; exact q⟩⟩
        · cases hd
      · cases hd
  · cases h
theorem s_cmp_run (hK : c.K = X.K) (hu : X.A.units + 65 < cLine) (o : COp) {σ : L2.St} {H : Hp} {Q : VK} (h : TEr c W false (.cmp o ea eb) σ H Q) : ∃ R : R2, OpR X (compareOp (cOf o)) R ∧ tOp R (TEr c W ba ea) (TEr c W bb eb) σ H Q := by
  obtain ⟨G, L, m, ρ, E, h⟩ := h
  rw [evE] at h
  by_cases hz : ∃ a m1 b m2 z, evE c.cfg ea ρ m = .ok a m1 ∧ evE c.cfg eb ρ m1 = .ok b m2 ∧ cmpD o a b = some z
  · obtain ⟨a, m1, b, m2, z, e1, e2, e3⟩ := hz
    obtain ⟨r, hr, k⟩ := cmp_rule (X := X) (ba := ba) (bb := bb) hu o a b z e3
    refine ⟨r, hr, ?_⟩
    refine TEr.bind E h fun a' m1' v H1 L1 q1 s1 E1 r1 h1 => ?_
    rw [e1] at q1
    cases q1
    refine TEr.bind E1 h1 fun b' m2' w H2 L2 q2 s2 E2 r2 h2 => ?_
    rw [e2] at q2
    cases q2
    rw [e3] at h2
    exact k G L2 H2 Q v w (hK ▸ r1.step E1 s2) (hK ▸ r2) (Pst.val E2 h2 (.inl (.bl _)))
  · refine ⟨_, opF, ?_⟩
    refine TEr.bind E h fun a' m1' v H1 L1 q1 s1 E1 r1 h1 => ?_
    refine TEr.bind E1 h1 fun b' m2' w H2 L2 q2 s2 E2 r2 h2 => ?_
    cases e3 : cmpD o a' b' with
    | none => rw [e3] at h2; exact h2
    | some z => exact hz ⟨_, _, _, _, _, q1, q2, e3⟩
theorem s_cmp (hK : c.K = X.K) (hu : X.A.units + 65 < cLine) (o : COp) (ha : PE X x (TEr c W ba ea)) (hb : PE X y (TEr c W bb eb)) (hs : isSet y = false) : PE X (.Compare x [cOf o] [y] pos) (TEr c W false (.cmp o ea eb)) := by
  refine ⟨fun pins s σ H Q I h => ?_⟩
  obtain ⟨R, hR, h⟩ := s_cmp_run (ba := ba) (bb := bb) hK hu o h
  exact (pe_cmpR hR ha hb (behind_of hs)).run pins s σ H Q I h
/-- a test of an expression whose value is a truth: the test's reading is the value's -/
theorem TTr.of {e : E} {σ : L2.St} {H : Hp} {Q : Bool → Hp → Prop} (hb : ∀ ρ m d m', evE c.cfg e ρ m = .ok d m' → ∃ k, d = .bl k) (h : TTr c W e σ H Q) : TEr c W false e σ H (fun v H' => ∃ k, v = .bl k ∧ Q k H') := by
  obtain ⟨G, L, m, ρ, E, h⟩ := h
  unfold evT at h
  refine ⟨G, L, m, ρ, E, (PstG.bind h).imp fun d m' H' L' e s ok q v r => ?_⟩
  obtain ⟨k, rfl⟩ := hb _ _ _ _ e
  refine ⟨k, r.bl, ?_⟩
  have q' : PstT c W G L' σ H' Q (.ok k m') := q
  exact q' H' L' (Stp.refl _ _) ok
theorem cmp_bl (o : COp) : ∀ ρ m d m', evE c.cfg (.cmp o ea eb) ρ m = .ok d m' → ∃ k, d = .bl k := fun ρ m d m' h => by
  rw [evE] at h
  obtain ⟨a, m1, e1, h⟩ := Res.bind_eq_ok h
  obtain ⟨b, m2, e2, h⟩ := Res.bind_eq_ok h
  cases e3 : cmpD o a b with
  | none => rw [e3] at h; cases h
  | some k => rw [e3] at h; cases h; exact ⟨k, rfl⟩
theorem s_cmpT (hK : c.K = X.K) (hu : X.A.units + 65 < cLine) (o : COp) (ha : PE X x (TEr c W ba ea)) (hb : PE X y (TEr c W bb eb)) (hs : isSet y = false) : PT X (.Compare x [cOf o] [y] pos) (TTr c W (.cmp o ea eb)) := by
  refine ⟨fun pins s σ H Q I h => ?_⟩
  obtain ⟨R, hR, h⟩ := s_cmp_run (ba := ba) (bb := bb) hK hu o (TTr.of (cmp_bl o) h)
  exact (pt_cmpR hR ha hb (behind_of hs)).run pins s σ H Q I h
/-! ### chains -/
theorem s_chain_run (hK : c.K = X.K) (hu : X.A.units + 65 < cLine) (o o' : COp) {σ : L2.St} {H : Hp} {Q : VK} (h : TEr c W false (.chain o o' ea eb ec) σ H Q) :
    ∃ R R' : R2, OpR X (compareOp (cOf o)) R ∧ OpR X (compareOp (cOf o')) R' ∧ tChain R R' (TEr c W ba ea) (TEr c W bb eb) (TEr c W bc ec) σ H Q := by
  obtain ⟨G, L, m, ρ, E, h⟩ := h
  rw [evE] at h
  by_cases hz : ∃ a m1 b m2 z, evE c.cfg ea ρ m = .ok a m1 ∧ evE c.cfg eb ρ m1 = .ok b m2 ∧ cmpD o a b = some z
  · obtain ⟨a, m1, b, m2, z, e1, e2, e3⟩ := hz
    obtain ⟨r, hr, k⟩ := cmp_rule (X := X) (ba := ba) (bb := bb) hu o a b z e3
    by_cases hz2 : ∃ d m3 z', evE c.cfg ec ρ m2 = .ok d m3 ∧ cmpD o' b d = some z'
    · obtain ⟨d, m3, z', e4, e5⟩ := hz2
      obtain ⟨r', hr', k'⟩ := cmp_rule (X := X) (ba := bb) (bb := bc) hu o' b d z' e5
      refine ⟨r, r', hr, hr', ?_⟩
      refine TEr.bind E h fun a' m1' v H1 L1 q1 s1 E1 r1 h1 => ?_
      rw [e1] at q1
      cases q1
      refine TEr.bind E1 h1 fun b' m2' w H2 L2 q2 s2 E2 r2 h2 => ?_
      rw [e2] at q2
      cases q2
      rw [e3] at h2
      refine k G L2 H2 _ v w (hK ▸ r1.step E1 s2) (hK ▸ r2) ⟨z, rfl, ?_⟩
      cases z with
      | true =>
        rw [if_pos rfl]
        refine TEr.bind E2 h2 fun d' m3' u H3 L3 q3 s3 E3 r3 h3 => ?_
        rw [e4] at q3
        cases q3
        rw [e5] at h3
        exact k' G L3 H3 Q w u (hK ▸ r2.step E2 s3) (hK ▸ r3) (Pst.val E3 h3 (.inl (.bl _)))
      | false =>
        rw [if_neg Bool.false_ne_true]
        exact Pst.val E2 h2 (.inl (.bl _))
    · refine ⟨r, _, hr, opF, ?_⟩
      refine TEr.bind E h fun a' m1' v H1 L1 q1 s1 E1 r1 h1 => ?_
      rw [e1] at q1
      cases q1
      refine TEr.bind E1 h1 fun b' m2' w H2 L2 q2 s2 E2 r2 h2 => ?_
      rw [e2] at q2
      cases q2
      rw [e3] at h2
      refine k G L2 H2 _ v w (hK ▸ r1.step E1 s2) (hK ▸ r2) ⟨z, rfl, ?_⟩
      cases z with
      | true =>
        rw [if_pos rfl]
        refine TEr.bind E2 h2 fun d' m3' u H3 L3 q3 s3 E3 r3 h3 => ?_
        cases e5 : cmpD o' b d' with
        | none => rw [e5] at h3; exact h3
        | some z' => exact hz2 ⟨_, _, _, q3, e5⟩
      | false =>
        rw [if_neg Bool.false_ne_true]
        exact Pst.val E2 h2 (.inl (.bl _))
  · refine ⟨_, _, opF, opF, ?_⟩
    refine TEr.bind E h fun a' m1' v H1 L1 q1 s1 E1 r1 h1 => ?_
    refine TEr.bind E1 h1 fun b' m2' w H2 L2 q2 s2 E2 r2 h2 => ?_
    cases e3 : cmpD o a' b' with
    | none => rw [e3] at h2; exact h2
    | some z => exact hz ⟨_, _, _, _, _, q1, q2, e3⟩
theorem s_chain (hK : c.K = X.K) (hu : X.A.units + 65 < cLine) (o o' : COp) (ha : PE X x (TEr c W ba ea)) (hb : PE X y (TEr c W bb eb)) (hc : PE X z (TEr c W bc ec)) (h1 : isSet z = false) : PE X (.Compare x [cOf o, cOf o'] [y, z] pos) (TEr c W false (.chain o o' ea eb ec)) := by
  refine ⟨fun pins s σ H Q I h => ?_⟩
  obtain ⟨R, R', hR, hR', h⟩ := s_chain_run (ba := ba) (bb := bb) (bc := bc) hK hu o o' h
  exact (pe_chain hR hR' ha hb hc (by show behindInMarks _ _ = false; exact behind_of h1)).run pins s σ H Q I h
theorem chain_bl (o o' : COp) : ∀ ρ m d m', evE c.cfg (.chain o o' ea eb ec) ρ m = .ok d m' → ∃ k, d = .bl k := fun ρ m d m' h => by
  rw [evE] at h
  obtain ⟨a, m1, e1, h⟩ := Res.bind_eq_ok h
  obtain ⟨b, m2, e2, h⟩ := Res.bind_eq_ok h
  cases e3 : cmpD o a b with
  | none => rw [e3] at h; cases h
  | some k =>
    rw [e3] at h
    cases k with
    | false => cases h; exact ⟨_, rfl⟩
    | true =>
      obtain ⟨d', m3, e4, h⟩ := Res.bind_eq_ok h
      cases e5 : cmpD o' b d' with
      | none => rw [e5] at h; cases h
      | some k => rw [e5] at h; cases h; exact ⟨k, rfl⟩
theorem s_chainT (hK : c.K = X.K) (hu : X.A.units + 65 < cLine) (o o' : COp) (ha : PE X x (TEr c W ba ea)) (hb : PE X y (TEr c W bb eb)) (hc : PE X z (TEr c W bc ec)) (h1 : isSet z = false) : PT X (.Compare x [cOf o, cOf o'] [y, z] pos) (TTr c W (.chain o o' ea eb ec)) := by
  refine ⟨fun pins s σ H Q I h => ?_⟩
  obtain ⟨R, R', hR, hR', h⟩ := s_chain_run (ba := ba) (bb := bb) (bc := bc) hK hu o o' (TTr.of (chain_bl o o') h)
  exact (pt_chain hR hR' ha hb hc (by show behindInMarks _ _ = false; exact behind_of h1)).run pins s σ H Q I h
/-! ### is None -/
theorem isN_val {G : Addr → Prop} {L : Lay} {H : Hp} {v : V} {d : D} {b : Bool} (r : RB c.K b G L H v d) : decide (v = .non) = (match d with | .non => true | _ => false) := by
  rcases r with r | ⟨_, a, e, _, cr⟩
  · cases r <;> rfl
  · subst e
    cases cr <;> rfl
theorem s_isN_run (neg : Bool) {σ : L2.St} {H : Hp} {Q : VK} (h : TEr c W false (.isN neg ea) σ H Q) : TEr c W ba ea σ H (fun v H1 => Q (.bl (if neg then !decide (v = .non) else decide (v = .non))) H1) := by
  obtain ⟨G, L, m, ρ, E, h⟩ := h
  rw [evE] at h
  refine TEr.bind E h fun a' m1' v H1 L1 q1 s1 E1 r1 h1 => ?_
  have e := isN_val r1
  have q := Pst.val E1 h1 (.inl (.bl _))
  rw [e]
  cases neg <;> cases a' <;> exact q
theorem s_isN {j : Nat} {pos' : Pos} (neg : Bool) (ha : PE X x (TEr c W ba ea)) : PE X (.Compare x [if neg then .IsNot else .Is] [.Constant .none j pos'] pos) (TEr c W false (.isN neg ea)) := by
  cases neg with
  | true => exact pe_imp (pe_cmp (pc_notN ha)) fun σ H Q h => s_isN_run true h
  | false => exact pe_imp (pe_cmp (pc_isN ha)) fun σ H Q h => s_isN_run false h
theorem isN_bl (neg : Bool) : ∀ ρ m d m', evE c.cfg (.isN neg ea) ρ m = .ok d m' → ∃ k, d = .bl k := fun ρ m d m' h => by
  rw [evE] at h
  obtain ⟨a, m1, e1, h⟩ := Res.bind_eq_ok h
  cases h
  exact ⟨_, rfl⟩
theorem s_isNT {j : Nat} {pos' : Pos} (neg : Bool) (ha : PE X x (TEr c W ba ea)) : PT X (.Compare x [if neg then .IsNot else .Is] [.Constant .none j pos'] pos) (TTr c W (.isN neg ea)) := by
  cases neg with
  | true => exact pt_imp (pt_cmp (pc_notN ha)) fun σ H Q h => s_isN_run true (TTr.of (isN_bl true) h)
  | false => exact pt_imp (pt_cmp (pc_isN ha)) fun σ H Q h => s_isN_run false (TTr.of (isN_bl false) h)
/-! ### truth -/
theorem str_ne (n : Nat) : ((n : Int) != 0) = !(n == 0) := by
  cases n with
  | zero => rfl
  | succ n => simp; omega
theorem truth_ok {G : Addr → Prop} {L : Lay} {H : Hp} {v : V} {d : D} {b : Bool} {k : Bool} (r : RB c.K b G L H v d) (h : truth d = some k) : TruV c.K v H k := by
  cases d with
  | non => cases h; rw [r.non]; rfl
  | bl b => cases h; rw [r.bl]; rfl
  | int i => cases h; rw [r.int]; rfl
  | str s =>
    cases h
    rw [r.str.1]
    refine ⟨by rw [S_len]; exact r.str.2, ?_⟩
    rw [S_len, str_ne]
    cases s <;> rfl
  | tup l =>
    cases h
    obtain ⟨a, vs, e, hs, rs, z⟩ := r.tup
    subst e
    refine .inr (.inl ⟨vs, hs, ?_⟩)
    cases rs <;> rfl
  | lst l =>
    cases h
    obtain ⟨a, vs, e, hs, rs, z⟩ := r.lst
    subst e
    refine .inl ⟨vs, hs, ?_⟩
    cases rs <;> rfl
  | dic l => cases h
  | obj n => cases h
  | exc n => cases h
/-- a test that is its value's truth -/
theorem s_truth (hK : c.K = X.K) (ha : PE X x (TEr c W ba ea)) (he : ∀ whole, isTrue x X.env whole = (do let v ← whole; standAt x.pos; holding [v] (truthy v))) : PT X x (TTr c W ea) := by
  refine pt_imp (pt_truth ha he) fun σ H Q h => ?_
  obtain ⟨G, L, m, ρ, E, h⟩ := h
  unfold evT at h
  refine ⟨G, L, m, ρ, E, (PstG.bind h).imp fun d m' H' L' e s ok q v r => ?_⟩
  cases ht : truth d with
  | none => rw [ht] at q; exact (show False from q).elim
  | some k =>
    rw [ht] at q
    have q' : PstT c W G L' σ H' Q (.ok k m') := q
    exact ⟨k, hK ▸ truth_ok r ht, q' H' L' (Stp.refl _ _) ok⟩
theorem s_not (hK : c.K = X.K) (ha : PE X x (TEr c W ba ea)) : PE X (.UnaryOp .Not x pos) (TEr c W false (.not1 ea)) := by
  refine pe_imp (pe_notT ha) fun σ H Q h => ?_
  obtain ⟨G, L, m, ρ, E, h⟩ := h
  rw [evE] at h
  refine TEr.bind E h fun a' m1' v H1 L1 q1 s1 E1 r1 h1 => ?_
  cases ht : truth a' with
  | none => rw [ht] at h1; exact (show False from h1).elim
  | some k =>
    rw [ht] at h1
    exact ⟨k, hK ▸ truth_ok r1 ht, Pst.val E1 h1 (.inl (.bl _))⟩
theorem s_notT (ha : PT X x (TTr c W ea)) : PT X (.UnaryOp .Not x pos) (TTr c W (.not1 ea)) := by
  refine pt_imp (pt_not ha) fun σ H Q h => ?_
  obtain ⟨G, L, m, ρ, E, h⟩ := h
  refine ⟨G, L, m, ρ, E, ?_⟩
  unfold evT at h ⊢
  rw [evE] at h
  revert h
  cases evE c.cfg ea ρ m with
  | ok d m' =>
    rw [Res.bind_ok, Res.bind_ok]
    cases truth d with
    | none => exact id
    | some k => exact id
  | err k m' => exact id
  | stuck => exact id
theorem s_and (hK : c.K = X.K) {rest : List Expr} (ha : PE X x (TEr c W false ea)) (hb : PE X (.BoolOp .And (y :: rest) pos) (TEr c W false eb)) : PE X (.BoolOp .And (x :: y :: rest) pos) (TEr c W false (.and2 ea eb)) := by
  refine pe_imp (pe_andT ha hb) fun σ H Q h => ?_
  obtain ⟨G, L, m, ρ, E, h⟩ := h
  rw [evE] at h
  refine TEr.bind E h fun a' m1' v H1 L1 q1 s1 E1 r1 h1 => ?_
  cases ht : truth a' with
  | none => rw [ht] at h1; exact (show False from h1).elim
  | some k =>
    rw [ht] at h1
    refine ⟨k, hK ▸ truth_ok r1 ht, ?_⟩
    cases k with
    | true => rw [if_pos rfl]; exact ⟨G, L1, m1', ρ, E1, h1⟩
    | false => rw [if_neg Bool.false_ne_true]; exact Pst.val E1 h1 r1
theorem s_or (hK : c.K = X.K) {rest : List Expr} (ha : PE X x (TEr c W false ea)) (hb : PE X (.BoolOp .Or (y :: rest) pos) (TEr c W false eb)) : PE X (.BoolOp .Or (x :: y :: rest) pos) (TEr c W false (.or2 ea eb)) := by
  refine pe_imp (pe_orT ha hb) fun σ H Q h => ?_
  obtain ⟨G, L, m, ρ, E, h⟩ := h
  rw [evE] at h
  refine TEr.bind E h fun a' m1' v H1 L1 q1 s1 E1 r1 h1 => ?_
  cases ht : truth a' with
  | none => rw [ht] at h1; exact (show False from h1).elim
  | some k =>
    rw [ht] at h1
    refine ⟨k, hK ▸ truth_ok r1 ht, ?_⟩
    cases k with
    | true => rw [if_pos rfl]; exact Pst.val E1 h1 r1
    | false => rw [if_neg Bool.false_ne_true]; exact ⟨G, L1, m1', ρ, E1, h1⟩
theorem s_andT {rest : List Expr} (ha : PT X x (TTr c W ea)) (hb : PW X (.BoolOp .And (y :: rest) pos) (TTr c W eb)) : PW X (.BoolOp .And (x :: y :: rest) pos) (TTr c W (.and2 ea eb)) := by
  refine ⟨fun wh pins s σ H Q I h => (pw_and ha hb).run wh pins s σ H Q I ?_⟩
  obtain ⟨G, L, m, ρ, E, h⟩ := h
  refine ⟨G, L, m, ρ, E, ?_⟩
  unfold evT at h ⊢
  rw [evE] at h
  revert h
  cases e1 : evE c.cfg ea ρ m with
  | ok d m' =>
    rw [Res.bind_ok, Res.bind_ok]
    cases ht : truth d with
    | none => exact id
    | some k =>
      intro h
      cases k with
      | true =>
        intro H' L' s ok
        show (if true = true then _ else _)
        rw [if_pos rfl]
        refine ⟨G, L', m', ρ, E.step s ok, ?_⟩
        exact h.step s
      | false =>
        intro H' L' s ok
        show (if false = true then _ else _)
        rw [if_neg Bool.false_ne_true]
        rw [Res.bind_ok, ht] at h
        exact h H' L' s ok
  | err k m' => exact id
  | stuck => exact id
theorem s_orT {rest : List Expr} (ha : PT X x (TTr c W ea)) (hb : PW X (.BoolOp .Or (y :: rest) pos) (TTr c W eb)) : PW X (.BoolOp .Or (x :: y :: rest) pos) (TTr c W (.or2 ea eb)) := by
  refine ⟨fun wh pins s σ H Q I h => (pw_or ha hb).run wh pins s σ H Q I ?_⟩
  obtain ⟨G, L, m, ρ, E, h⟩ := h
  refine ⟨G, L, m, ρ, E, ?_⟩
  unfold evT at h ⊢
  rw [evE] at h
  revert h
  cases e1 : evE c.cfg ea ρ m with
  | ok d m' =>
    rw [Res.bind_ok, Res.bind_ok]
    cases ht : truth d with
    | none => exact id
    | some k =>
      intro h
      cases k with
      | true =>
        intro H' L' s ok
        show (if true = true then _ else _)
        rw [if_pos rfl]
        rw [Res.bind_ok, ht] at h
        exact h H' L' s ok
      | false =>
        intro H' L' s ok
        show (if false = true then _ else _)
        rw [if_neg Bool.false_ne_true]
        refine ⟨G, L', m', ρ, E.step s ok, ?_⟩
        exact h.step s
  | err k m' => exact id
  | stuck => exact id
theorem s_ifx (hc : PT X z (TTr c W ec)) (ha : PE X x (TEr c W false ea)) (hb : PE X y (TEr c W false eb)) : PE X (.IfExp z x y pos) (TEr c W false (.ifx ec ea eb)) := by
  refine pe_imp (pe_ifExp hc ha hb) fun σ H Q h => ?_
  obtain ⟨G, L, m, ρ, E, h⟩ := h
  refine ⟨G, L, m, ρ, E, ?_⟩
  unfold evT
  rw [evE] at h
  revert h
  cases e1 : evE c.cfg ec ρ m with
  | ok d m' =>
    rw [Res.bind_ok, Res.bind_ok]
    cases ht : truth d with
    | none => exact id
    | some k =>
      intro h H' L' s ok
      cases k with
      | true =>
        show (if true = true then _ else _)
        rw [if_pos rfl]
        exact ⟨G, L', m', ρ, E.step s ok, h.step s⟩
      | false =>
        show (if false = true then _ else _)
        rw [if_neg Bool.false_ne_true]
        exact ⟨G, L', m', ρ, E.step s ok, h.step s⟩
  | err k m' => exact id
  | stuck => exact id
end
end MP

set_option maxRecDepth 100000
set_option maxHeartbeats 4000000
set_option autoImplicit false
namespace MP
open PySem L2

/-! ### indices -/
theorem place_eq (n : Nat) (i : Int) : placeD n i = ixN n i := rfl
theorem isIx {b : Expr} (h : (match b with | .Slice _ _ _ _ => false | _ => true) = true) : PlainIx b := fun o i => by
  cases b <;> first | rfl | (simp at h)
section
variable {X : Cx} {c : Cn} {W : WX} {ba bb bc : Bool} {ea eb ec : E} {x y z : Expr} {pos : Pos}
theorem pe_ix2 {e : E} {f : D → D → Option D} (he : ∀ ρ m, evE c.cfg e ρ m = (evE c.cfg ea ρ m).bind fun x m1 => (evE c.cfg eb ρ m1).bind fun y m2 => .opt (f x y) m2) (ha : PE X x (TEr c W ba ea)) (hb : PE X y (TEr c W bb eb)) (hs : PlainIx y)
    (rule : ∀ a b z, f a b = some z → ∃ r : R2, IxR X r ∧ ∀ (G : Addr → Prop) (L : Lay) (m : Mu) (ρ : Env') (σ : L2.St) (H : Hp) (Q : VK) (v w : V), ESt c.K c.own G L m ρ σ H → RB c.K ba G L H v a → RB c.K bb G L H w b → Pst c W false G L σ H Q (.ok z m) → r v w H Q) :
    PE X (.Subscript x y pos) (TEr c W false e) := by
  refine ⟨fun pins s σ H Q I h => ?_⟩
  obtain ⟨G, L, m, ρ, E, h⟩ := h
  rw [he] at h
  by_cases hz : ∃ a m1 b m2 z, evE c.cfg ea ρ m = .ok a m1 ∧ evE c.cfg eb ρ m1 = .ok b m2 ∧ f a b = some z
  · obtain ⟨a, m1, b, m2, z, e1, e2, e3⟩ := hz
    obtain ⟨r, hr, k⟩ := rule a b z e3
    refine (pe_ix hr ha hb hs).run pins s σ H Q I ?_
    refine TEr.bind E h fun a' m1' v H1 L1 q1 s1 E1 r1 h1 => ?_
    rw [e1] at q1
    cases q1
    refine TEr.bind E1 h1 fun b' m2' w H2 L2 q2 s2 E2 r2 h2 => ?_
    rw [e2] at q2
    cases q2
    rw [e3] at h2
    exact k G L2 _ ρ σ H2 Q v w E2 (r1.step E1 s2) r2 h2
  · refine (pe_ix (r := fun _ _ _ _ => False) (fun _ _ _ _ _ _ _ _ _ _ _ _ _ _ h => h.elim) ha hb hs).run pins s σ H Q I ?_
    refine TEr.bind E h fun a' m1' v H1 L1 q1 s1 E1 r1 h1 => ?_
    refine TEr.bind E1 h1 fun b' m2' w H2 L2 q2 s2 E2 r2 h2 => ?_
    cases e3 : f a' b' with
    | none => rw [e3] at h2; exact h2
    | some z => exact hz ⟨_, _, _, _, _, q1, q2, e3⟩
theorem s_idx (hK : c.K = X.K) (ha : PE X x (TEr c W ba ea)) (hb : PE X y (TEr c W bb eb)) (hs : PlainIx y) : PE X (.Subscript x y pos) (TEr c W false (.idx ea eb)) := by
  refine pe_ix2 (f := idxD) (fun ρ m => by rw [evE]) ha hb hs fun a b z h => ?_
  unfold idxD at h
  split at h
  · rename_i l i
    refine ⟨_, ix_list, fun G L m ρ σ H Q v w E r1 r2 q => ?_⟩
    obtain ⟨p, vs, e1, hr, rs, hz⟩ := r1.lst
    obtain ⟨j, hj, hl⟩ := Option.bind_eq_some_iff.mp h
    obtain ⟨u, hu, ru⟩ := rs.get hl
    refine ⟨p, vs, i, u, e1, r2.int, hK ▸ hr, ?_, Pst.val E q (.inl ru)⟩
    show (ixN vs.length i).bind _ = _
    rw [rs.length, ← place_eq, hj]
    exact hu
  · rename_i l i
    refine ⟨_, ix_tup, fun G L m ρ σ H Q v w E r1 r2 q => ?_⟩
    obtain ⟨p, vs, e1, hr, rs, hz⟩ := r1.tup
    obtain ⟨j, hj, hl⟩ := Option.bind_eq_some_iff.mp h
    obtain ⟨u, hu, ru⟩ := rs.get hl
    refine ⟨p, vs, i, u, e1, r2.int, hK ▸ hr, ?_, Pst.val E q (.inl ru)⟩
    show (ixN vs.length i).bind _ = _
    rw [rs.length, ← place_eq, hj]
    exact hu
  · rename_i s i
    refine ⟨_, ix_str, fun G L m ρ σ H Q v w E r1 r2 q => ?_⟩
    obtain ⟨ch, h', ez⟩ := Option.map_eq_some_iff.mp h
    subst ez
    obtain ⟨j, hj, hl⟩ := Option.bind_eq_some_iff.mp h'
    refine ⟨S s, i, ch, r1.str.1, r2.int, by rw [S_len]; exact r1.str.2, ?_, Pst.val E q (.inl (.str [ch] (by show 1 ≤ sizeLine; decide)))⟩
    show (ixN (S s).cps.toList.length i).bind _ = _
    have e : (S s).cps.toList = s := rfl
    rw [e, ← place_eq, hj]
    exact hl
  · cases h
/-! ### slices -/
def TOr (c : Cn) (W : WX) (o : OE) : TO := fun σ H Q => ∃ G L m ρ, ESt c.K c.own G L m ρ σ H ∧ PstG c W G L σ H (fun (d : Option Int) _ H' _ => Q d H') (evP c.cfg o ρ m)
theorem s_no : PO X none (TOr c W .no) := ⟨fun pins s σ H Q I h => by
  obtain ⟨G, L, m, ρ, E, h⟩ := h
  rw [evP] at h
  exact po_none.run pins s σ H Q I (h H L (Stp.refl _ _) E.sok)⟩
theorem s_yes (ha : PE X x (TEr c W ba ea)) : PO X (some x) (TOr c W (.yes ea)) := ⟨fun pins s σ H Q I h => by
  obtain ⟨G, L, m, ρ, E, h⟩ := h
  rw [evP] at h
  refine (po_some ha).run pins s σ H Q I ?_
  refine ⟨G, L, m, ρ, E, (PstG.bind h).imp fun d m' H' L' e s ok q v r => ?_⟩
  cases d with
  | int i => exact ⟨i, r.int, q H' L' (Stp.refl _ _) ok⟩
  | _ => exact (show False from q).elim⟩
theorem slF : SlR X (fun _ _ _ _ _ => False) := fun _ _ _ _ _ _ _ _ _ _ _ _ _ _ _ _ _ h => h.elim
theorem s_sl {lo hi : Option Expr} {el eh : OE} {p2 : Pos} (hK : c.K = X.K) (ha : PE X x (TEr c W ba ea)) (hl : PO X lo (TOr c W el)) (hh : PO X hi (TOr c W eh)) : PE X (.Subscript x (.Slice lo hi none p2) pos) (TEr c W false (.sl ea el eh)) := by
  refine ⟨fun pins s σ H Q I h => ?_⟩
  obtain ⟨G, L, m, ρ, E, h⟩ := h
  rw [evE] at h
  have go : ∀ (r : V → Option Int → Option Int → Hp → VK → Prop) (hr : SlR X r), (∀ a m1, evE c.cfg ea ρ m = .ok a m1 → ∀ (L : Lay) (m : Mu) (H : Hp) (v : V) (l u : Option Int), ESt c.K c.own G L m ρ σ H → RB c.K ba G L H v a → Pst c W false G L σ H Q (Res.opt (slD a l u) m) → r v l u H Q) →
      wpAny (model X.prog X.w) X.A (eval (.Subscript x (.Slice lo hi none p2) pos) X.env) (EP X pins σ Q) X.xe s := fun r hr k => by
    refine (pe_slice hr ha hl hh).run pins s σ H Q I ?_
    refine TEr.bind E h fun a m1 v H1 L1 q1 s1 E1 r1 h1 => ?_
    refine ⟨G, L1, m1, ρ, E1, (PstG.bind h1).imp fun l m2 H2 L2 e2 s2 ok2 q2 => ?_⟩
    have E2 := E1.step s2 ok2
    refine ⟨G, L2, m2, ρ, E2, (PstG.bind q2).imp fun u m3 H3 L3 e3 s3 ok3 q3 => ?_⟩
    exact k a m1 q1 L3 m3 H3 v l u (E2.step s3 ok3) ((r1.step E1 s2).step E2 s3) q3
  cases ha' : evE c.cfg ea ρ m with
  | stuck => rw [ha'] at h; exact (show False from h).elim
  | err k m1 => exact go _ slF fun a m1 e => by rw [ha'] at e; cases e
  | ok a m1 =>
    cases a with
    | lst l =>
      refine go _ sl_list fun a m2 e L m H v lo hi E r q => ?_
      rw [ha'] at e
      cases e
      obtain ⟨p, vs, e1, hr, rs, hz⟩ := r.lst
      refine ⟨p, vs, e1, hK ▸ hr, fun p' n => ?_⟩
      have hc : cutV vs lo hi = cutL vs (endD vs.length 0 lo) (endD vs.length vs.length hi) := rfl
      rw [hc, rs.length]
      exact Pst.lst E q (((rs.drop _).take _)) (by unfold cutL; rw [List.length_take, List.length_drop]; omega) n
    | tup l =>
      refine go _ sl_tupA fun a m2 e L m H v lo hi E r q => ?_
      rw [ha'] at e
      cases e
      obtain ⟨p, vs, e1, hr, rs, hz⟩ := r.tup
      refine ⟨p, vs, e1, hK ▸ hr, fun hw => ?_, fun hw p' n => ?_⟩
      · rw [rs.length] at hw
        have hl : cutL l (endD l.length 0 lo) (endD l.length l.length hi) = l := by
          have h1 : endD l.length 0 lo = 0 := hw.1
          have h2 : endD l.length l.length hi = l.length := hw.2
          unfold cutL
          rw [h1, h2, List.drop_zero, Nat.sub_zero, List.take_length]
        have q' : Pst c W false G L σ H Q (.ok (.tup (cutL l (endD l.length 0 lo) (endD l.length l.length hi))) m) := q
        rw [hl] at q'
        subst e1
        exact Pst.val E q' (.inl (r.elim id fun ⟨_, a, e, g, cr⟩ => by cases cr))
      · have hc : cutV vs lo hi = cutL vs (endD vs.length 0 lo) (endD vs.length vs.length hi) := rfl
        rw [hc, rs.length]
        exact Pst.tup E q (((rs.drop _).take _)) (by unfold cutL; rw [List.length_take, List.length_drop]; omega) n
    | str t =>
      refine go _ sl_str fun a m2 e L m H v lo hi E r q => ?_
      rw [ha'] at e
      cases e
      refine ⟨S t, r.str.1, by rw [S_len]; exact r.str.2, ?_⟩
      have hc : cutS (S t) lo hi = S (cutL t (endD t.length 0 lo) (endD t.length t.length hi)) := by
        unfold cutS
        rw [S_len]
        rfl
      rw [hc]
      exact Pst.val E q (.inl (.str _ (by have := r.str.2; unfold cutL; rw [List.length_take, List.length_drop]; omega)))
    | _ =>
      refine go _ slF fun a m1 e L m H v l u E r q => ?_
      rw [ha'] at e
      cases e
      exact (show False from q).elim
/-! ### displays, arguments -/
def Es.len : Es → Nat
  | .nil => 0
  | .cons _ l => l.len + 1
theorem evEs_len {C : Cfg} : ∀ {es : Es} {ρ : Env'} {m : Mu} {ds : List D} {m' : Mu}, evEs C es ρ m = .ok ds m' → ds.length = es.len
  | .nil, _, _, _, _, h => by
    rw [evEs] at h
    cases h
    rfl
  | .cons a l, ρ, m, _, _, h => by
    rw [evEs] at h
    obtain ⟨x, m1, e1, h⟩ := Res.bind_eq_ok h
    obtain ⟨xs, m2, e2, h⟩ := Res.bind_eq_ok h
    cases h
    exact congrArg (· + 1) (evEs_len e2)
theorem s_nil {b : Bool} : PA X [] (TAr c W b .nil) := ⟨fun pos pins s σ H Q I h => by
  obtain ⟨G, L, m, ρ, E, h⟩ := h
  rw [evEs] at h
  exact pa_nil.run pos pins s σ H Q I (h H L (Stp.refl _ _) E.sok [] .nil)⟩
def notStar : Expr → Bool
  | .Starred _ _ => false
  | _ => true
theorem star_of {e : Expr} {es : List Expr} {env : Env} (h : notStar e = true) : starEach (e :: es) env = (false, eval e env) :: starEach es env := by
  cases e <;> first | rfl | (simp [notStar] at h)
theorem s_cons {b : Bool} {es : List Expr} {l : Es} (ha : PE X x (TEr c W b ea)) (hl : PA X es (TAr c W b l)) (hn : notStar x = true) : PA X (x :: es) (TAr c W b (.cons ea l)) := ⟨fun pos pins s σ H Q I h => by
  obtain ⟨G, L, m, ρ, E, h⟩ := h
  rw [evEs] at h
  refine (pa_cons ha hl (star_of hn)).run pos pins s σ H Q I ?_
  refine ⟨G, L, m, ρ, E, (PstG.bind h).imp fun d m1 H1 L1 e s1 ok1 q v r => ?_⟩
  have E1 := E.step s1 ok1
  refine ⟨G, L1, m1, ρ, E1, (PstG.bind q).imp fun ds m2 H2 L2 e2 s2 ok2 q2 vs rs => ?_⟩
  exact q2 H2 L2 (Stp.refl _ _) ok2 (v :: vs) (.cons (r.step E1 s2) rs)⟩
theorem star_any {es : List Expr} {env : Env} (h : es.all notStar = true) : (starEach es env).any (·.1) = false := by
  induction es with
  | nil => rfl
  | cons e es ih =>
    rw [List.all_cons, Bool.and_eq_true] at h
    rw [star_of h.1, List.any_cons, ih h.2]
    rfl
theorem back_any (pos : Pos) (l : List (Bool × Sem Value)) : (backTo pos l).any (·.1) = l.any (·.1) := by
  unfold backTo
  rw [List.any_map]
  rfl
end
end MP

set_option maxRecDepth 100000
set_option maxHeartbeats 4000000
set_option autoImplicit false
/-! enumerate over a tuple -/
namespace ET
open PySem L2 Builtin Builtin.Str
theorem meets_new (l : Addr) (items : Array Value) :
    Meets (Builtin.«enumerate.__new__» ⟨[.type "enumerate", .ref l], []⟩) (fun _ R s => s.heap.IsTuple l items ∧
      R (.ok (.ret (.ref (s.heap.push { cls := .type "tuple_iterator", data := .fields #[.ref l, .int 0 0] }).objs.size)))
        { s with heap := (s.heap.push { cls := .type "tuple_iterator", data := .fields #[.ref l, .int 0 0] }).push { cls := .type "enumerate", data := .fields #[.none, .bool false, .ref s.heap.objs.size, rawInt 0, .none, .none] } }) :=
  .of_wp fun prog w A R s h => by
    obtain ⟨hp, g, d, tk, os⟩ := s; obtain ⟨hl, h⟩ := h
    have hsub := sub_enumerate
    have q1 : ∀ {A' : Around} {E : Value → Shared → Prop} {Q : Value → Shared → Prop}, Q (.ref hp.objs.size) ⟨hp.push { cls := .type "tuple_iterator", data := .fields #[.ref l, .int 0 0] }, g, d, tk, os⟩ → wpAny (model prog w) A' (pyIter (.ref l)) Q E ⟨hp, g, d, tk, os⟩ :=
      fun q => wpAny_pyIter_tuple (s := ⟨hp, g, d, tk, os⟩) hl q
    wp_walk using q1
    refine wpAny_stack_any fun st => wpAny_pure ?_
    split
    · rename_i c _ _ _ _ _
      cases (c == Value.type "enumerate")
      · wp_walk using q1
        exact ⟨_, rfl, h⟩
      · wp_walk using q1
        exact ⟨_, rfl, h⟩
    · wp_walk using q1
      exact ⟨_, rfl, h⟩
section
variable {prog : Program} {w : World} {A : Around} {E : Value → Shared → Prop} {s : Shared}
theorem call_tuple {l : Addr} {items : Array Value} {Q : Value → Shared → Prop} (hL : s.heap.IsTuple l items)
    (h : ∀ h', IsEnum h' (s.heap.objs.size + 1) s.heap.objs.size 0 .none → h'.IsTupleIter s.heap.objs.size l 0 → h'.objs.size = s.heap.objs.size + 2 →
      (∀ b o, s.heap.get? b = some o → h'.get? b = some o) → Q (.ref (s.heap.objs.size + 1)) { s with heap := h' }) :
    wpAny (model prog w) A (call (.type "enumerate") [.ref l]) Q E s := by
  refine callType_new F.called_enumerate (by decide) (F.typeCall_enumerate_1 _) (F.newCall_enumerate_1 _) (fun obj => F.args_object_init_2 obj _) F.entry_enumerate_new
    (meets_new l items) ⟨hL, ?_⟩
  have hz : (s.heap.push { cls := .type "tuple_iterator", data := .fields #[.ref l, .int 0 0] }).objs.size = s.heap.objs.size + 1 := Heap.size_push ..
  show _ ∧ _
  rw [hz]
  have he : IsEnum ((s.heap.push { cls := .type "tuple_iterator", data := .fields #[.ref l, .int 0 0] }).push
      { cls := .type "enumerate", data := .fields #[.none, .bool false, .ref s.heap.objs.size, rawInt 0, .none, .none] }) (s.heap.objs.size + 1) s.heap.objs.size 0 .none := by
    have := Heap.get?_push_size (s.heap.push { cls := .type "tuple_iterator", data := .fields #[.ref l, .int 0 0] })
      (o := { cls := .type "enumerate", data := .fields #[.none, .bool false, .ref s.heap.objs.size, rawInt 0, .none, .none] }) rfl
    rw [hz] at this; exact this
  refine ⟨⟨_, he, rfl⟩, h _ he ⟨_, Heap.get?_push_of_some _ (Heap.get?_push_size _ rfl), rfl, rfl⟩ (by rw [Heap.size_push, hz]) fun b o x => Heap.get?_push_of_some _ (Heap.get?_push_of_some _ x)⟩
end
theorem wpAny_pyNext_enum_end_tup {prog : Program} {w : World} {A : Around} {E : Value → Shared → Prop} {s : Shared} {e it l : Addr} {i : Nat} {items : Array Value} {old : Value} {c : Int} {Q : Option Value → Shared → Prop} (hh : A.handled = none)
    (he : IsEnum s.heap e it c old) (hit : s.heap.IsTupleIter it l i) (hL : s.heap.IsTuple l items) (hx : items[i]? = none)
    (hQ : ∀ h', Heap.ExtBut it s.heap h' → Q none { s with heap := h' }) : wpAny (model prog w) A (pyNext (.ref e)) Q E s := by
  have hT : s.TypeIs (.ref e) "enumerate" := ⟨_, he, rfl⟩
  unfold pyNext
  refine wpAny_bind (wpAny_attempt (wpAny_callSpecial?_slot (name := Str.ofString "__next__") hT F.slot_enumerate_next
    (wpAny_call_entry F.slot_enumerate_next hT F.entry_enumerate_next ?_ (F.args_enumerate_next_1 _))))
  show wpAny _ _ (field (.ref e) 2 >>= _) _ _ _
  refine wpAny_bind (wpAny_field he rfl (x := .ref it) rfl ?_)
  refine wpAny_bind (wpAny_nextOf_tuple_end (show A.in1.handled = none from hh) hit hL hx fun h' x he' hx' => ?_)
  obtain ⟨o, ho, hc⟩ := hx'
  refine wpAny_bind (wpAny_isInstance (T := "StopIteration") (b := true) ⟨o, ho, hc⟩ isSubtype_stop ?_)
  exact wpAny_pure (hQ _ he')
def IteT (K : PySem.W.Frag) (a : Addr) : It :=
  ⟨fun i H => ∃ (xs : List V) (x : V), SqT K H a xs ∧ xs[i]? = some x, fun i H v H' => ∃ T x, v = .ref T ∧ H T = none ∧ H' = upd H T (.tup [.int (i : Nat), x]) ∧ ∀ xs, SqT K H a xs → xs[i]? = some x, fun i H => ∃ xs : List V, SqT K H a xs ∧ xs.length ≤ i⟩
theorem turn {P : Program} {w : World} {K : PySem.W.Frag} {elts : List Expr} {kk : Nat} {tpos : Pos} (a e it : Addr) :
    Turn P w K (.Tuple elts kk tpos) (IteT K a) [e, it] e (fun i h => (∃ old, IsEnum h e it ((i : Nat) : Int) old) ∧ h.IsTupleIter it a i ∧ e ≠ it) where
  mem := by simp
  obj := fun i h st b hb => by
    obtain ⟨⟨old, he⟩, ⟨o, ho, hc, hd⟩, _⟩ := st
    have e' : b = e ∨ b = it := by simpa using hb
    rcases e' with z | z
    · rw [z]; exact ⟨_, he, fun v q => nomatch q⟩
    · rw [z]; exact ⟨o, ho, fun v q => by rw [hd] at q; cases q⟩
  keep := fun i h h' st k => let ⟨⟨old, he⟩, hi, hne⟩ := st; ⟨⟨old, k e (by simp) _ he⟩, hi.at fun o q => k it (by simp) o q, hne⟩
  item := by
    intro X hP hw hK hc i pins s σ H E I hf st hg
    subst hP hw hK
    obtain ⟨⟨old, he⟩, hit, hne⟩ := st
    obtain ⟨xs, x, hq, hx⟩ := hg
    obtain ⟨its, rv, p, hz⟩ := I.tuple hq
    obtain ⟨u, hu, ru⟩ := rv.get hx
    have hl := rv.length
    have hel : e < s.heap.objs.size := Heap.lt_size he
    have hil : it < s.heap.objs.size := by obtain ⟨_, q, _⟩ := hit; exact Heap.lt_size q
    have hp : s.heap.IsTuple a its.toArray := p
    have hal : a < s.heap.objs.size := by obtain ⟨_, q, _⟩ := hp; exact Heap.lt_size q
    have hae : a ≠ e := fun z => by
      obtain ⟨o, q, qc, _⟩ := hp
      rw [z] at q
      have := q.symm.trans he
      injection this with this
      subst this
      exact absurd (show ("enumerate" : String) = "tuple" from by injection qc) (by decide)
    have hai : a ≠ it := fun z => by
      obtain ⟨o, q, qc, _⟩ := hp
      obtain ⟨o2, q2, qc2, _⟩ := hit
      rw [z] at q
      have := q.symm.trans q2
      injection this with this
      rw [← this, qc] at qc2
      exact absurd qc2 (by decide)
    have hi : i < xs.length := (List.getElem?_eq_some_iff.mp hx).1
    refine wpAny_pyNext_enum_itemD (Draws.tuple (A := X.A.in1) (show X.A.in1.handled = none from I.ok.hd hc) it a hai its.toArray) he ⟨hit, hp⟩ (by rw [List.size_toArray]; omega) hne (by simp [hne, Ne.symm hae]) fun y h' tk hy ho hit' hT hsz hk => ?_
    have ey : y = u := by
      have : its[i]? = some y := by simpa using hy
      rw [hu] at this
      exact (Option.some.inj this).symm
    subst ey
    refine ⟨_, rfl, wpAny_letOwnedTupleGo_enum (s := { s with heap := h', toks := tk + 1 }) ho fun h'' he' sb => ?_⟩
    have hT2 : h''.get? s.heap.objs.size = some { cls := .type "tuple", data := .seq #[.int i tk, y] } := (sb.2 _ (Nat.ne_of_gt hel)).trans hT
    have new : ObjOk X.prog X.w (upd H s.heap.objs.size (.tup [.int (i : Nat), x])) h'' s.heap.objs.size (.tup [.int (i : Nat), x]) :=
      ⟨by show 2 ≤ sizeLine; decide, [.int i tk, y], .cons ⟨_, rfl⟩ (.cons ru .nil), ⟨_, hT2, rfl, _, rfl⟩⟩
    have I1 : Inv X pins σ (upd H s.heap.objs.size (.tup [.int (i : Nat), x])) { s with heap := h'', toks := tk + 1 } :=
      I.turnedNew (ch := [e, it]) (fun b ob hb q => (sb.2 b (fun z => hb (by simp [z]))).trans (hk b ob (fun z => hb (by simp [z])) (fun z => hb (by simp [z])) q)) hf (Nat.le_refl _) new
    refine ⟨.ref s.heap.objs.size, _, I1, rfl, ⟨_, x, rfl, I.hok.fresh (Nat.le_refl _), rfl, fun ys hy => by rw [I.tuple_inj hy hq]; exact hx⟩, ⟨⟨y, ?_⟩, hit'.1.at fun o q => (sb.2 it (Ne.symm hne)).trans q, hne⟩, fun b hb => ?_⟩
    · have e1 : ((i + 1 : Nat) : Int) = (i : Int) + 1 := by omega
      rw [e1]; exact he'
    · have hb' : b < s.heap.objs.size := by
        have e' : b = e ∨ b = it := by simpa using hb
        rcases e' with z | z
        · rw [z]; exact hel
        · rw [z]; exact hil
      rw [upd_ne (Nat.ne_of_lt hb')]
      exact (hf b hb).1
  done := by
    intro X hP hw hK hc i pins s σ H E I hf st hg
    subst hP hw hK
    obtain ⟨⟨old, he⟩, hit, hne⟩ := st
    obtain ⟨xs, hq, hx⟩ := hg
    obtain ⟨its, rv, p, hz⟩ := I.tuple hq
    obtain ⟨f0, f1, f2, f3, f4, f5⟩ := hf it (by simp)
    have hl := rv.length
    have hp : s.heap.IsTuple a its.toArray := p
    have hal : a ≠ it := fun z => by
      obtain ⟨o, q, qc, _⟩ := hp
      obtain ⟨o2, q2, qc2, _⟩ := hit
      rw [z] at q
      have := q.symm.trans q2
      injection this with this
      rw [← this, qc] at qc2
      exact absurd qc2 (by decide)
    exact (wpAny_pyNext_enum_end_tup (I.ok.hd hc) he hit hp (by simp; omega) fun h' eb => ⟨rfl, I.turned (t' := s.toks) (fun b o hb q => eb b o hb q) f0 f1 f3 f4 f5⟩)
  self := fun A i s Q E st h => let ⟨⟨_, he⟩, _⟩ := st; wpAny_pyIter_enum he h
open PySem.Spec PyProof.Rows
def iEnumA (K : PySem.W.Frag) (ta : TA) : TI := fun σ H R => ta σ H fun vs H1 => ∃ a xs, vs = [.ref a] ∧ ((SqL K H1 a xs ∧ R (Ite K a) H1) ∨ (SqT K H1 a xs ∧ R (IteT K a) H1))
theorem pi_enumA {X : Cx} {e : Expr} {ta : TA} {p pos tpos : Pos} {elts : List Expr} {kk : Nat} (hg : Gl X "enumerate") (hm : X.mg "enumerate" = none) (ha : PA X [e] ta) (hs : starEach [e] X.env = [(false, eval e X.env)] := by rfl) :
    PI X (.Tuple elts kk tpos) (.Call (.Name "enumerate" p) [e] [] pos) (iEnumA X.K ta) := by
  refine ⟨fun pins s σ H R I h => ?_⟩
  refine PyProof.Rows.Call_ (ld_blt I hg hm boot_enumerate (PyProof.Rows.callWith_type1 (thn (ha.run pos pins s σ H _ I h) fun us s1 ⟨vs, H1, I1, r1, q1⟩ => ?_) hs rfl))
  obtain ⟨a, xs, ex, hq⟩ := q1
  subst ex
  cases r1 with
  | cons r rr =>
    cases rr
    cases r
    have fp : ∀ b ∈ [s1.heap.objs.size + 1, s1.heap.objs.size], s1.heap.objs.size ≤ b := fun b hb => by
      have e' : b = s1.heap.objs.size + 1 ∨ b = s1.heap.objs.size := by simpa using hb
      rcases e' with z | z
      · rw [z]; exact Nat.le_add_right _ _
      · rw [z]; exact Nat.le_refl _
    rcases hq with ⟨hq, q⟩ | ⟨hq, q⟩
    · obtain ⟨its, rv, p', hz⟩ := I1.list hq
      refine call_enumerate_list p'.isList fun h' he hit hsz hk => wpAny_pyIter_enum he ?_
      have I2 : Inv X pins σ H1 { s1 with heap := h' } := I1.kept (t' := s1.toks) hk
      exact ⟨s1.heap.objs.size + 1, [s1.heap.objs.size + 1, s1.heap.objs.size], _, _, H1, rfl, I2, turn_enum a (s1.heap.objs.size + 1) s1.heap.objs.size, ⟨⟨.none, he⟩, hit, Nat.succ_ne_self _⟩, fun b hb => I1.fpOk (fp b hb) (I1.hok.fresh (fp b hb)), q⟩
    · obtain ⟨its, rv, p', hz⟩ := I1.tuple hq
      refine call_tuple p' fun h' he hit hsz hk => wpAny_pyIter_enum he ?_
      have I2 : Inv X pins σ H1 { s1 with heap := h' } := I1.kept (t' := s1.toks) hk
      exact ⟨s1.heap.objs.size + 1, [s1.heap.objs.size + 1, s1.heap.objs.size], _, _, H1, rfl, I2, turn a (s1.heap.objs.size + 1) s1.heap.objs.size, ⟨⟨.none, he⟩, hit, Nat.succ_ne_self _⟩, fun b hb => I1.fpOk (fp b hb) (I1.hok.fresh (fp b hb)), q⟩
end ET

set_option maxRecDepth 100000
set_option maxHeartbeats 4000000
set_option autoImplicit false
namespace MP
open PySem L2

/-! ### what a for or a comprehension goes over -/
def PPr (b : Bool) (G : Addr → Prop) (A : Nat → Option Addr) (Hk H1 : Hp) : (Nat → Option Addr) → Hp → Hp → Prop := fun A' Hk' H =>
  Same Hk Hk' ∧ (∀ n x, A n = some x → A' n = some x) ∧ Same Hk' H ∧ (b = true → ∀ a o, G a → H1 a = some o → H a = some o)
/-- a value that a turn gives: one that stands, or a new tuple -/
def Yld (K : PySem.W.Frag) (A : Nat → Option Addr) (Hk H : Hp) (x : V) (d : D) (H' : Hp) : Prop :=
  (H' = H ∧ Rep K A Hk x d) ∨ ∃ (T : Addr) (vs : List V) (ds : List D), x = .ref T ∧ d = .tup ds ∧ H T = none ∧ H' = upd H T (.tup vs) ∧ Reps K A Hk vs ds ∧ ds.length ≤ sizeLine
structure Src (K : PySem.W.Frag) (P : (Nat → Option Addr) → Hp → Hp → Prop) (J : It) (xs : List D) : Prop where
  len : xs.length ≤ sizeLine
  go : ∀ (A : Nat → Option Addr) (Hk H : Hp) (i : Nat), P A Hk H → i < xs.length → J.go i H
  yld : ∀ (A : Nat → Option Addr) (Hk H : Hp) (i : Nat) (x : V) (H' : Hp), P A Hk H → i < xs.length → J.yld i H x H' → ∃ d, xs[i]? = some d ∧ Yld K A Hk H x d H'
  stop : ∀ (A : Nat → Option Addr) (Hk H : Hp) (i : Nat), P A Hk H → xs.length ≤ i → J.stop i H
def TIr (c : Cn) (W : WX) (b : Bool) (it : I) : TI := fun σ H R => ∃ G L m ρ, ESt c.K c.own G L m ρ σ H ∧
  PstG c W G L σ H (fun xs _ H' L' => ∀ J, Src c.K (PPr b G (AL L') (hide (Bd G L') H') H') J xs → R J H') (evI c.cfg it ρ m)
section
variable {X : Cx} {c : Cn} {W : WX} {ba bb bc : Bool} {ea eb ec : E} {x y z tg : Expr} {pos : Pos}
/-- what an own or told list tells as it stands later -/
theorem src_lst {K : PySem.W.Frag} {G : Addr → Prop} {L : Lay} {H : Hp} {v : V} {ds : List D} {b : Bool} (r : RB K b G L H v (.lst ds)) : ∃ a, v = .ref a ∧ (∃ xs, SqL K H a xs) ∧ Src K (PPr b G (AL L) (hide (Bd G L) H) H) (Itl K a) ds := by
  have main : ∀ (a : Addr) (vs : List V), Reps K (AL L) (hide (Bd G L) H) vs ds → ds.length ≤ sizeLine → (∀ A' Hk' H', PPr b G (AL L) (hide (Bd G L) H) H A' Hk' H' → SqL K H' a vs) → Src K (PPr b G (AL L) (hide (Bd G L) H) H) (Itl K a) ds := fun a vs rs z st => by
    refine ⟨z, fun A' Hk' H' i p hi => ?_, fun A' Hk' H' i x H2 p hi y => ?_, fun A' Hk' H' i p hi => ?_⟩
    · obtain ⟨u, hu, _⟩ := rs.get (List.getElem?_eq_getElem hi)
      exact ⟨vs, u, st _ _ _ p, hu⟩
    · obtain ⟨e, q⟩ := y
      obtain ⟨d, hd, rd⟩ := rs.getV (q vs (st _ _ _ p))
      exact ⟨d, hd, .inl ⟨e, rd.mono p.1 p.2.1⟩⟩
    · exact ⟨vs, st _ _ _ p, by rw [rs.length]; exact hi⟩
  rcases r with r | ⟨hb, a, e, g, cr⟩
  · cases r with
    | lst h rs z => exact ⟨_, rfl, ⟨_, Same.sqL hide_sub h⟩, main _ _ rs z fun _ _ _ p => Same.sqL p.2.2.1 (Same.sqL p.1 h)⟩
  · cases cr with
    | lst h rs z => exact ⟨a, e, ⟨_, .inl (.inl h)⟩, main _ _ rs z fun A' Hk' H' p => .inl (.inl (p.2.2.2 hb a _ g h))⟩
theorem src_tup {K : PySem.W.Frag} {G : Addr → Prop} {L : Lay} {H : Hp} {v : V} {ds : List D} {b : Bool} (r : RB K b G L H v (.tup ds)) : ∃ a, v = .ref a ∧ (∃ xs, SqT K H a xs) ∧ Src K (PPr b G (AL L) (hide (Bd G L) H) H) (Itt K a) ds := by
  rcases r with r | ⟨hb, a, e, g, cr⟩
  · cases r with
    | tup h rs z =>
      rename_i a vs
      have st : ∀ A' Hk' H', PPr b G (AL L) (hide (Bd G L) H) H A' Hk' H' → SqT K H' a vs := fun A' Hk' H' p => Same.sqT p.2.2.1 (Same.sqT p.1 h)
      refine ⟨_, rfl, ⟨_, Same.sqT hide_sub h⟩, z, fun A' Hk' H' i p hi => ?_, fun A' Hk' H' i x H2 p hi y => ?_, fun A' Hk' H' i p hi => ?_⟩
      · obtain ⟨u, hu, _⟩ := rs.get (List.getElem?_eq_getElem hi)
        exact ⟨vs, u, st _ _ _ p, hu⟩
      · obtain ⟨e, q⟩ := y
        obtain ⟨d, hd, rd⟩ := rs.getV (q vs (st _ _ _ p))
        exact ⟨d, hd, .inl ⟨e, rd.mono p.1 p.2.1⟩⟩
      · exact ⟨vs, st _ _ _ p, by rw [rs.length]; exact hi⟩
  · cases cr
theorem src_str {K : PySem.W.Frag} {P : (Nat → Option Addr) → Hp → Hp → Prop} {s : List Nat} (z : s.length ≤ sizeLine) : Src K P (Its (S s)) (s.map fun c => .str [c]) := by
  have e : (S s).cps.size = s.length := by simp [S]
  refine ⟨by rw [List.length_map]; exact z, fun A' Hk' H' i p hi => ?_, fun A' Hk' H' i x H2 p hi y => ?_, fun A' Hk' H' i p hi => ?_⟩
  · rw [List.length_map] at hi
    show i < (S s).cps.size
    omega
  · obtain ⟨e1, ch, hc, ex⟩ := y
    refine ⟨.str [ch], ?_, .inl ⟨e1, ?_⟩⟩
    · have hc' : s[i]? = some ch := by simpa [S] using hc
      rw [List.getElem?_map, hc']
      rfl
    · rw [ex]
      exact .str [ch] (by show 1 ≤ sizeLine; decide)
  · rw [List.length_map] at hi
    show (S s).cps.size ≤ i
    omega
theorem src_rng {K : PySem.W.Frag} {P : (Nat → Option Addr) → Hp → Hp → Prop} (lo : Int) {n : Nat} (z : n ≤ sizeLine) : Src K P (Itr lo n) (rngL lo n) := by
  have hl : (rngL lo n).length = n := by unfold rngL; rw [List.length_map, List.length_range]
  refine ⟨by rw [hl]; exact z, fun A' Hk' H' i p hi => ?_, fun A' Hk' H' i x H2 p hi y => ?_, fun A' Hk' H' i p hi => ?_⟩
  · rw [hl] at hi
    exact hi
  · obtain ⟨e1, ex⟩ := y
    rw [hl] at hi
    refine ⟨.int (lo + (i : Int)), ?_, .inl ⟨e1, ?_⟩⟩
    · unfold rngL
      rw [List.getElem?_map, List.getElem?_range hi]
      rfl
    · rw [ex]
      exact .int _
  · rw [hl] at hi
    exact hi
theorem s_Ie (hK : c.K = X.K) (ha : PE X x (TEr c W ba ea)) : PI X tg x (TIr c W ba (.e ea)) := ⟨fun pins s σ H R Iv h => by
  obtain ⟨G, L, m, ρ, E, h⟩ := h
  rw [evI] at h
  have q := PstG.bind h
  cases he : evE c.cfg ea ρ m with
  | stuck => rw [he] at q; exact (show False from q).elim
  | err k m1 =>
    refine (pi_list ha).run pins s σ H R Iv ⟨G, L, m, ρ, E, ?_⟩
    rw [he] at q ⊢
    exact q
  | ok d m1 =>
    cases d with
    | lst ds =>
      refine (pi_list ha).run pins s σ H R Iv ⟨G, L, m, ρ, E, ?_⟩
      rw [he] at q ⊢
      refine fun H' L' st ok v r => ?_
      obtain ⟨a, e1, hx, src⟩ := src_lst r
      have q2 := q H' L' st ok
      refine ⟨a, e1, hK ▸ hx, ?_⟩
      have q3 := q2 H' L' (Stp.refl _ _) ok (Itl c.K a) src
      rw [hK] at q3
      exact q3
    | tup ds =>
      refine (pi_tup ha).run pins s σ H R Iv ⟨G, L, m, ρ, E, ?_⟩
      rw [he] at q ⊢
      refine fun H' L' st ok v r => ?_
      obtain ⟨a, e1, hx, src⟩ := src_tup r
      have q2 := q H' L' st ok
      refine ⟨a, e1, hK ▸ hx, ?_⟩
      have q3 := q2 H' L' (Stp.refl _ _) ok (Itt c.K a) src
      rw [hK] at q3
      exact q3
    | str t =>
      refine (pi_str ha).run pins s σ H R Iv ⟨G, L, m, ρ, E, ?_⟩
      rw [he] at q ⊢
      refine fun H' L' st ok v r => ?_
      have q2 := q H' L' st ok
      exact ⟨S t, r.str.1, q2 H' L' (Stp.refl _ _) ok (Its (S t)) (src_str r.str.2)⟩
    | _ =>
      refine (pi_list ha).run pins s σ H R Iv ⟨G, L, m, ρ, E, ?_⟩
      rw [he] at q ⊢
      exact fun H' L' st ok v r => (show False from q H' L' st ok).elim⟩
theorem rngOk_of {i : Int} (h : rngOk i = true) : -(2 ^ 62) ≤ i ∧ i < 2 ^ 62 := by
  unfold rngOk at h
  simpa [Bool.and_eq_true, decide_eq_true_eq] using h
theorem s_I1 {p : Pos} (hg : Gl X "range") (hm : X.mg "range" = none) (ha : PE X x (TEr c W false ea)) (hn : notStar x = true) : PI X tg (.Call (.Name "range" p) [x] [] pos) (TIr c W ba (.rng1 ea)) := ⟨fun pins s σ H R Iv h => by
  obtain ⟨G, L, m, ρ, E, h⟩ := h
  rw [evI] at h
  refine (pi_range1 hg hm (pa_cons ha pa_nil (star_of hn)) (star_of hn)).run pins s σ H R Iv ?_
  refine ⟨G, L, m, ρ, E, (PstG.bind h).imp fun d m1 H1 L1 e s1 ok q v r => ?_⟩
  cases d with
  | int n =>
    by_cases hz : (rngOk n && decide (n.toNat ≤ sizeD)) = true
    · have q' : PstG c W G L1 σ H1 _ (Res.opt (if (rngOk n && decide (n.toNat ≤ sizeD)) = true then some (rngL 0 n.toNat) else none) m1) := q
      rw [if_pos hz] at q'
      rw [Bool.and_eq_true, decide_eq_true_eq] at hz
      exact ⟨n, by rw [r.int], (rngOk_of hz.1).1, (rngOk_of hz.1).2, q' H1 L1 (Stp.refl _ _) ok _ (src_rng 0 hz.2)⟩
    · have q' : PstG c W G L1 σ H1 _ (Res.opt (if (rngOk n && decide (n.toNat ≤ sizeD)) = true then some (rngL 0 n.toNat) else none) m1) := q
      rw [if_neg hz] at q'
      exact (show False from q').elim
  | _ => exact (show False from q).elim⟩
theorem s_I2 {p : Pos} (hg : Gl X "range") (hm : X.mg "range" = none) (ha : PE X x (TEr c W false ea)) (hb : PE X y (TEr c W false eb)) (hn : notStar x = true) (hn2 : notStar y = true) : PI X tg (.Call (.Name "range" p) [x, y] [] pos) (TIr c W ba (.rng2 ea eb)) := ⟨fun pins s σ H R Iv h => by
  obtain ⟨G, L, m, ρ, E, h⟩ := h
  rw [evI] at h
  have s2 : starEach [y] X.env = [(false, eval y X.env)] := star_of hn2
  refine (pi_range2 hg hm (pa_cons ha (pa_cons hb pa_nil s2) (star_of hn)) (by rw [star_of hn, s2]) s2).run pins s σ H R Iv ?_
  refine ⟨G, L, m, ρ, E, (PstG.bind h).imp fun d m1 H1 L1 e s1 ok q v r => ?_⟩
  have E1 := E.step s1 ok
  refine ⟨G, L1, m1, ρ, E1, (PstG.bind q).imp fun d2 m2 H2 L2 e2 s2 ok2 q2 v2 r2 => ?_⟩
  cases d with
  | int n =>
    cases d2 with
    | int k =>
      by_cases hz : (rngOk n && rngOk k && decide ((k - n).toNat ≤ sizeD)) = true
      · have q' : PstG c W G L2 σ H2 _ (Res.opt (if (rngOk n && rngOk k && decide ((k - n).toNat ≤ sizeD)) = true then some (rngL n (k - n).toNat) else none) m2) := q2
        rw [if_pos hz] at q'
        rw [Bool.and_eq_true, Bool.and_eq_true, decide_eq_true_eq] at hz
        exact ⟨n, k, by rw [r.int, r2.int], ⟨(rngOk_of hz.1.1).1, (rngOk_of hz.1.1).2, (rngOk_of hz.1.2).1, (rngOk_of hz.1.2).2⟩, q' H2 L2 (Stp.refl _ _) ok2 _ (src_rng n hz.2)⟩
      · have q' : PstG c W G L2 σ H2 _ (Res.opt (if (rngOk n && rngOk k && decide ((k - n).toNat ≤ sizeD)) = true then some (rngL n (k - n).toNat) else none) m2) := q2
        rw [if_neg hz] at q'
        exact (show False from q').elim
    | _ => exact (show False from q2).elim
  | _ => exact (show False from q2).elim⟩

/-! ### targets -/
theorem wipeE_length (ρ : Env') : ∀ vs : List Nat, (wipeE ρ vs).length = ρ.length
  | [] => rfl
  | v :: vs => by unfold wipeE; rw [List.length_set, wipeE_length ρ vs]
def setS (l : List Nat) (xs : List V) (σ : L2.St) : L2.St := (l.zip xs).foldl (fun σ p => σ.set p.1 (some p.2)) σ
def TGr (K : PySem.W.Frag) (tg : Tgt) : TG := fun v σ H Q => match tg with
  | .one i => Q (σ.set i (some v)) H
  | .many l => ∃ a xs, v = .ref a ∧ SqT K H a xs ∧ xs.length = l.length ∧ Q (setS l xs σ) H
theorem ESt.set {K : PySem.W.Frag} {own : Nat → Bool} {G : Addr → Prop} {L : Lay} {m : Mu} {ρ : Env'} {σ : L2.St} {H : Hp} {i : Nat} {v : V} {d : D} (E : ESt K own G L m ρ σ H) (ho : own i = false) (r : Rep K (AL L) (hide (Bd G L) H) v d) : ESt K own G L m (ρ.set i (some d)) (σ.set i (some v)) H where
  gok := E.gok
  sok := E.sok
  len := by rw [List.length_set, List.length_set, E.len]
  slot := fun j e hj => by
    by_cases hij : i = j
    · subst hij
      rw [List.getElem?_set] at hj ⊢
      rw [if_pos rfl] at hj ⊢
      split at hj
      · rename_i hlt
        cases hj
        rw [if_pos (by rw [← E.len]; exact hlt)]
        exact ⟨v, rfl, fun _ => r, fun q => by rw [ho] at q; cases q⟩
      · cases hj
    · rw [List.getElem?_set_ne hij] at hj ⊢
      exact E.slot j e hj
theorem ESt.wipe {K : PySem.W.Frag} {own : Nat → Bool} {G : Addr → Prop} {L : Lay} {m : Mu} {ρ : Env'} {σ : L2.St} {H : Hp} {vs : List Nat} (E : ESt K own G L m ρ σ H) : ESt K own G L m (wipeE ρ vs) (L2.wipe σ vs) H := by
  refine ⟨E.gok, E.sok, by rw [wipeE_length, wipe_length, E.len], fun j e hj => ?_⟩
  have go : ∀ vs : List Nat, (wipeE ρ vs)[j]? = some (some e) → ρ[j]? = some (some e) ∧ (L2.wipe σ vs)[j]? = σ[j]? := fun vs => by
    induction vs with
    | nil => exact fun h => ⟨h, rfl⟩
    | cons v vs ih =>
      intro h
      unfold wipeE at h
      unfold L2.wipe
      by_cases hv : v = j
      · subst hv
        rw [List.getElem?_set] at h
        rw [if_pos rfl] at h
        split at h <;> cases h
      · rw [List.getElem?_set_ne hv] at h ⊢
        exact ih h
  obtain ⟨h1, h2⟩ := go vs hj
  rw [h2]
  exact E.slot j e h1
theorem wipe_set (σ : L2.St) (i : Nat) (v : Option V) : ∀ vs : List Nat, i ∈ vs → L2.wipe (σ.set i v) vs = L2.wipe σ vs
  | w :: vs, h => by
    unfold L2.wipe
    by_cases hi : i ∈ vs
    · rw [wipe_set σ i v vs hi]
    · have e : i = w := by
        rcases List.mem_cons.mp h with h | h
        · exact h
        · exact absurd h hi
      subst e
      have go : ∀ us : List Nat, i ∉ us → L2.wipe (σ.set i v) us = (L2.wipe σ us).set i v := fun us => by
        induction us with
        | nil => exact fun _ => rfl
        | cons u us ih =>
          intro hu
          unfold L2.wipe
          rw [ih (fun q => hu (List.mem_cons_of_mem _ q))]
          exact List.set_comm _ _ (fun q => hu (by rw [q]; exact List.mem_cons_self))
      rw [go vs hi, List.set_set]
theorem wipe_idem (σ : L2.St) (vs : List Nat) : L2.wipe (L2.wipe σ vs) vs = L2.wipe σ vs := by
  apply List.ext_getElem?
  intro j
  have go : ∀ us : List Nat, ∀ τ : L2.St, (L2.wipe τ us)[j]? = if j ∈ us ∧ j < τ.length then some none else τ[j]? := fun us => by
    induction us with
    | nil => intro τ; simp [L2.wipe]
    | cons u us ih =>
      intro τ
      unfold L2.wipe
      rw [List.getElem?_set, wipe_length]
      by_cases hu : u = j
      · subst hu
        rw [if_pos rfl]
        by_cases hl : u < τ.length
        · rw [if_pos hl, if_pos ⟨List.mem_cons_self, hl⟩]
        · rw [if_neg hl, if_neg (fun q => hl q.2)]
          exact (List.getElem?_eq_none (Nat.le_of_not_lt hl)).symm
      · rw [if_neg hu, ih τ]
        by_cases hm : j ∈ us
        · simp [hm]
        · have : ¬ j ∈ u :: us := fun q => (List.mem_cons.mp q).elim (fun e => hu e.symm) hm
          simp [hm, this]
  rw [go, go, wipe_length]
  split <;> rfl
theorem setS_wipe : ∀ (l : List Nat) (xs : List V) (σ : L2.St) (vs : List Nat), (∀ i ∈ l, i ∈ vs) → L2.wipe (setS l xs σ) vs = L2.wipe σ vs
  | [], _, _, _, _ => rfl
  | i :: l, [], _, _, _ => rfl
  | i :: l, x :: xs, σ, vs, h => by
    show L2.wipe (setS l xs (σ.set i (some x))) vs = _
    rw [setS_wipe l xs _ vs (fun j hj => h j (List.mem_cons_of_mem _ hj)), wipe_set _ _ _ _ (h i List.mem_cons_self)]
/-- the slots that a target sets -/
theorem ESt.bind {K : PySem.W.Frag} {own : Nat → Bool} {G : Addr → Prop} {L : Lay} {m : Mu} {ρ ρ' : Env'} {σ : L2.St} {H : Hp} {tg : Tgt} {v : V} {d : D} (E : ESt K own G L m ρ σ H) (r : Rep K (AL L) (hide (Bd G L) H) v d)
    (ho : ∀ i ∈ tg.slots, own i = false) (hb : bindT tg d ρ = some ρ') {Q : L2.St → Hp → Prop} (q : ∀ σ', ESt K own G L m ρ' σ' H → (∀ vs, (∀ i ∈ tg.slots, i ∈ vs) → L2.wipe σ' vs = L2.wipe σ vs) → (∀ i, i ∉ tg.slots → ρ'[i]? = ρ[i]? ∧ σ'[i]? = σ[i]?) → Q σ' H) : TGr K tg v σ H Q := by
  cases tg with
  | one i =>
    cases hb
    exact q _ (E.set (ho i List.mem_cons_self) r) (fun vs h => wipe_set _ _ _ _ (h i List.mem_cons_self)) fun j hj => by
      have hij : i ≠ j := fun e => hj (by rw [e]; exact List.mem_cons_self)
      exact ⟨List.getElem?_set_ne hij, List.getElem?_set_ne hij⟩
  | many l =>
    cases d with
    | tup ds =>
      have hb' : (if ds.length = l.length then some ((l.zip ds).foldl (fun ρ p => ρ.set p.1 (some p.2)) ρ) else none) = some ρ' := hb
      split at hb'
      · rename_i hz
        cases hb'
        cases r with
        | tup hs rs z =>
          rename_i a vs
          refine ⟨a, vs, rfl, Same.sqT hide_sub hs, by rw [rs.length, hz], ?_⟩
          have go : ∀ (l : List Nat) (vs : List V) (ds : List D) (ρ : Env') (σ : L2.St), (∀ i ∈ l, own i = false) → Reps K (AL L) (hide (Bd G L) H) vs ds → ESt K own G L m ρ σ H →
              ESt K own G L m ((l.zip ds).foldl (fun ρ p => ρ.set p.1 (some p.2)) ρ) (setS l vs σ) H := fun l => by
            induction l with
            | nil => exact fun vs ds ρ σ _ _ E => E
            | cons i l ih =>
              intro vs ds ρ σ ho rs E
              cases rs with
              | nil => exact E
              | cons r rs => exact ih _ _ _ _ (fun j hj => ho j (List.mem_cons_of_mem _ hj)) rs (E.set (ho i List.mem_cons_self) r)
          have keepR : ∀ (l : List Nat) (ds : List D) (ρ : Env') (j : Nat), j ∉ l → ((l.zip ds).foldl (fun ρ p => ρ.set p.1 (some p.2)) ρ)[j]? = ρ[j]? := fun l => by
            induction l with
            | nil => exact fun ds ρ j _ => rfl
            | cons i l ih =>
              intro ds ρ j hj
              cases ds with
              | nil => rfl
              | cons d ds =>
                show ((l.zip ds).foldl _ (ρ.set i (some d)))[j]? = _
                rw [ih ds _ j fun q => hj (List.mem_cons_of_mem _ q)]
                exact List.getElem?_set_ne fun e => hj (by rw [e]; exact List.mem_cons_self)
          have keepS : ∀ (l : List Nat) (vs : List V) (σ : L2.St) (j : Nat), j ∉ l → (setS l vs σ)[j]? = σ[j]? := fun l => by
            induction l with
            | nil => exact fun ds ρ j _ => rfl
            | cons i l ih =>
              intro vs σ j hj
              cases vs with
              | nil => rfl
              | cons d vs =>
                show (setS l vs (σ.set i (some d)))[j]? = _
                rw [ih vs _ j fun q => hj (List.mem_cons_of_mem _ q)]
                exact List.getElem?_set_ne fun e => hj (by rw [e]; exact List.mem_cons_self)
          exact q _ (go l vs ds ρ σ ho rs E) (fun ws h => setS_wipe _ _ _ _ h) fun j hj => ⟨keepR l ds ρ j hj, keepS l vs σ j hj⟩
      · cases hb'
    | _ => cases hb
theorem s_tg1 {i : Nat} {n : Str} (hN : X.N.Nodup) (hi : X.N[i]? = some n) (hx : Loc X.env.scope n) (hf : X.fn n = true ∨ X.env.scope.names.lookup n = some .local) : PG X (.Name n pos) (TGr X.K (.one i)) := pg_name hN hi hx hf
inductive Tgs (X : Cx) : List Expr → List Nat → Prop
  | nil : Tgs X [] []
  | cons {i : Nat} {n : Str} {pos : Pos} {es : List Expr} {l : List Nat} : X.N[i]? = some n → Loc X.env.scope n → (X.fn n = true ∨ X.env.scope.names.lookup n = some .local) → Tgs X es l → Tgs X (.Name n pos :: es) (i :: l)
theorem Tgs.pgs (hN : X.N.Nodup) : ∀ {es : List Expr} {l : List Nat}, Tgs X es l → PGs X es (fun vs σ H Q => vs.length = l.length ∧ Q (setS l vs σ) H) ∧ (assignEach es X.env).length = l.length ∧ (assignEach es X.env).findIdx? (·.1) = none
  | _, _, .nil => by
    refine ⟨⟨fun pins s σ H vs us Q Iv r h => ?_⟩, rfl, rfl⟩
    have e : vs = [] := List.eq_nil_of_length_eq_zero h.1
    subst e
    exact pgs_nil.run pins s σ H [] us Q Iv r ⟨rfl, h.2⟩
  | _, _, .cons (i := i) (n := n) (es := es) (l := l) hi hx hf t => by
    obtain ⟨p, q1, q2⟩ := Tgs.pgs hN t
    refine ⟨⟨fun pins s σ H vs us Q Iv r h => ?_⟩, congrArg (· + 1) q1, ?_⟩
    · cases vs with
      | nil => cases h.1
      | cons v vs =>
        refine (pgs_cons (pg_name hN hi hx hf) p rfl).run pins s σ H _ us Q Iv r ⟨v, vs, rfl, ?_⟩
        exact ⟨by simpa using h.1, h.2⟩
    · show List.findIdx? _ ((false, _) :: assignEach es X.env) = none
      rw [List.findIdx?_cons, q2]
      rfl
theorem s_tgN {es : List Expr} {l : List Nat} {k : Nat} (hc : X.calm = true) (hN : X.N.Nodup) (t : Tgs X es l) : PG X (.Tuple es k pos) (TGr X.K (.many l)) := by
  obtain ⟨p, q1, q2⟩ := t.pgs hN
  refine ⟨fun pins s σ H v u Q Iv r h => (pg_tup hc p q1 q2).run pins s σ H v u Q Iv r ?_⟩
  obtain ⟨a, xs, e, hs, hz, q⟩ := h
  exact ⟨a, xs, e, hs, hz, hz, q⟩
end
/-! ### zip, enumerate, reversed -/
section
variable {X : Cx} {c : Cn} {W : WX} {ba bb bc : Bool} {ea eb ec : E} {x y z tg : Expr} {pos : Pos}
theorem two_le : 2 ≤ sizeLine := by decide
theorem src_enum {K : PySem.W.Frag} {G : Addr → Prop} {A : Nat → Option Addr} {Hk H : Hp} {a : Addr} {vs : List V} {ds : List D} {b : Bool} (h : SqL K Hk a vs) (rs : Reps K A Hk vs ds) (z : ds.length ≤ sizeLine) : Src K (PPr b G A Hk H) (Ite K a) (ds.zipIdx.map fun p => .tup [.int (p.2 : Nat), p.1]) := by
  have st : ∀ A' Hk' H', PPr b G A Hk H A' Hk' H' → SqL K H' a vs := fun A' Hk' H' p => Same.sqL p.2.2.1 (Same.sqL p.1 h)
  have hl : (ds.zipIdx.map fun p => D.tup [.int (p.2 : Nat), p.1]).length = ds.length := by rw [List.length_map, List.length_zipIdx]
  refine ⟨by rw [hl]; exact z, fun A' Hk' H' i p hi => ?_, fun A' Hk' H' i x H2 p hi y => ?_, fun A' Hk' H' i p hi => ?_⟩
  · rw [hl] at hi
    obtain ⟨u, hu, _⟩ := rs.get (List.getElem?_eq_getElem hi)
    exact ⟨vs, u, st _ _ _ p, hu⟩
  · obtain ⟨T, u, e1, e2, e3, q⟩ := y
    obtain ⟨d, hd, rd⟩ := rs.getV (q vs (st _ _ _ p))
    refine ⟨.tup [.int (i : Nat), d], ?_, .inr ⟨T, _, _, e1, rfl, e2, e3, .cons (.int _) (.cons (rd.mono p.1 p.2.1) .nil), two_le⟩⟩
    rw [List.getElem?_map, List.getElem?_zipIdx, hd]
    simp
  · rw [hl] at hi
    exact ⟨vs, st _ _ _ p, by rw [rs.length]; exact hi⟩
theorem src_enumT {K : PySem.W.Frag} {G : Addr → Prop} {A : Nat → Option Addr} {Hk H : Hp} {a : Addr} {vs : List V} {ds : List D} {b : Bool} (h : SqT K Hk a vs) (rs : Reps K A Hk vs ds) (z : ds.length ≤ sizeLine) : Src K (PPr b G A Hk H) (ET.IteT K a) (ds.zipIdx.map fun p => .tup [.int (p.2 : Nat), p.1]) := by
  have st : ∀ A' Hk' H', PPr b G A Hk H A' Hk' H' → SqT K H' a vs := fun A' Hk' H' p => Same.sqT p.2.2.1 (Same.sqT p.1 h)
  have hl : (ds.zipIdx.map fun p => D.tup [.int (p.2 : Nat), p.1]).length = ds.length := by rw [List.length_map, List.length_zipIdx]
  refine ⟨by rw [hl]; exact z, fun A' Hk' H' i p hi => ?_, fun A' Hk' H' i x H2 p hi y => ?_, fun A' Hk' H' i p hi => ?_⟩
  · rw [hl] at hi
    obtain ⟨u, hu, _⟩ := rs.get (List.getElem?_eq_getElem hi)
    exact ⟨vs, u, st _ _ _ p, hu⟩
  · obtain ⟨T, u, e1, e2, e3, q⟩ := y
    obtain ⟨d, hd, rd⟩ := rs.getV (q vs (st _ _ _ p))
    refine ⟨.tup [.int (i : Nat), d], ?_, .inr ⟨T, _, _, e1, rfl, e2, e3, .cons (.int _) (.cons (rd.mono p.1 p.2.1) .nil), two_le⟩⟩
    rw [List.getElem?_map, List.getElem?_zipIdx, hd]
    simp
  · rw [hl] at hi
    exact ⟨vs, st _ _ _ p, by rw [rs.length]; exact hi⟩
theorem src_revL {K : PySem.W.Frag} {G : Addr → Prop} {A : Nat → Option Addr} {Hk H : Hp} {a : Addr} {vs : List V} {ds : List D} {b : Bool} (h : SqL K Hk a vs) (rs : Reps K A Hk vs ds) (z : ds.length ≤ sizeLine) : Src K (PPr b G A Hk H) (Itv K a vs.length) ds.reverse := by
  have st : ∀ A' Hk' H', PPr b G A Hk H A' Hk' H' → SqL K H' a vs := fun A' Hk' H' p => Same.sqL p.2.2.1 (Same.sqL p.1 h)
  have hl := rs.length
  refine ⟨by rw [List.length_reverse]; exact z, fun A' Hk' H' i p hi => ?_, fun A' Hk' H' i x H2 p hi y => ?_, fun A' Hk' H' i p hi => ?_⟩
  · rw [List.length_reverse] at hi
    have hj : vs.length - 1 - i < vs.length := by omega
    exact ⟨by omega, vs, _, st _ _ _ p, List.getElem?_eq_getElem hj⟩
  · rw [List.length_reverse] at hi
    obtain ⟨e, q⟩ := y
    obtain ⟨d, hd, rd⟩ := rs.getV (q vs (st _ _ _ p))
    refine ⟨d, ?_, .inl ⟨e, rd.mono p.1 p.2.1⟩⟩
    rw [List.getElem?_reverse hi, ← hl]
    exact hd
  · rw [List.length_reverse] at hi
    show vs.length ≤ i
    omega
theorem src_revT {K : PySem.W.Frag} {G : Addr → Prop} {A : Nat → Option Addr} {Hk H : Hp} {a : Addr} {vs : List V} {ds : List D} {b : Bool} (h : SqT K Hk a vs) (rs : Reps K A Hk vs ds) (z : ds.length ≤ sizeLine) : Src K (PPr b G A Hk H) (RT.ItvT K a vs.length) ds.reverse := by
  have st : ∀ A' Hk' H', PPr b G A Hk H A' Hk' H' → SqT K H' a vs := fun A' Hk' H' p => Same.sqT p.2.2.1 (Same.sqT p.1 h)
  have hl := rs.length
  refine ⟨by rw [List.length_reverse]; exact z, fun A' Hk' H' i p hi => ?_, fun A' Hk' H' i x H2 p hi y => ?_, fun A' Hk' H' i p hi => ?_⟩
  · rw [List.length_reverse] at hi
    have hj : vs.length - 1 - i < vs.length := by omega
    exact ⟨by omega, vs, _, st _ _ _ p, List.getElem?_eq_getElem hj⟩
  · rw [List.length_reverse] at hi
    obtain ⟨e, q⟩ := y
    obtain ⟨d, hd, rd⟩ := rs.getV (q vs (st _ _ _ p))
    refine ⟨d, ?_, .inl ⟨e, rd.mono p.1 p.2.1⟩⟩
    rw [List.getElem?_reverse hi, ← hl]
    exact hd
  · rw [List.length_reverse] at hi
    show vs.length ≤ i
    omega
theorem zw_get {a b : List D} {i : Nat} {x y : D} (h1 : a[i]? = some x) (h2 : b[i]? = some y) : (List.zipWith (fun x y => D.tup [x, y]) a b)[i]? = some (.tup [x, y]) := by
  rw [List.getElem?_zipWith, h1, h2]
theorem src_zipL {K : PySem.W.Frag} {G : Addr → Prop} {A : Nat → Option Addr} {Hk H : Hp} {a a2 : Addr} {vs vs2 : List V} {ds ds2 : List D} {b : Bool} (h : SqL K Hk a vs) (rs : Reps K A Hk vs ds) (z : ds.length ≤ sizeLine) (h2 : SqL K Hk a2 vs2) (rs2 : Reps K A Hk vs2 ds2) : Src K (PPr b G A Hk H) (Itz K a a2) (List.zipWith (fun x y => .tup [x, y]) ds ds2) := by
  have st : ∀ A' Hk' H', PPr b G A Hk H A' Hk' H' → SqL K H' a vs ∧ SqL K H' a2 vs2 := fun A' Hk' H' p => ⟨Same.sqL p.2.2.1 (Same.sqL p.1 h), Same.sqL p.2.2.1 (Same.sqL p.1 h2)⟩
  have hl := rs.length
  have hl2 := rs2.length
  refine ⟨by rw [List.length_zipWith]; omega, fun A' Hk' H' i p hi => ?_, fun A' Hk' H' i x H2 p hi y => ?_, fun A' Hk' H' i p hi => ?_⟩
  · rw [List.length_zipWith] at hi
    exact ⟨vs, vs2, _, _, (st _ _ _ p).1, (st _ _ _ p).2, List.getElem?_eq_getElem (by omega), List.getElem?_eq_getElem (by omega)⟩
  · obtain ⟨T, u, w, e1, e2, e3, q, q2⟩ := y
    obtain ⟨d, hd, rd⟩ := rs.getV (q vs (st _ _ _ p).1)
    obtain ⟨d2, hd2, rd2⟩ := rs2.getV (q2 vs2 (st _ _ _ p).2)
    exact ⟨.tup [d, d2], zw_get hd hd2, .inr ⟨T, _, _, e1, rfl, e2, e3, .cons (rd.mono p.1 p.2.1) (.cons (rd2.mono p.1 p.2.1) .nil), two_le⟩⟩
  · rw [List.length_zipWith] at hi
    exact ⟨vs, vs2, (st _ _ _ p).1, (st _ _ _ p).2, by omega⟩
theorem src_zipT {K : PySem.W.Frag} {G : Addr → Prop} {A : Nat → Option Addr} {Hk H : Hp} {a a2 : Addr} {vs vs2 : List V} {ds ds2 : List D} {b : Bool} (h : SqT K Hk a vs) (rs : Reps K A Hk vs ds) (z : ds.length ≤ sizeLine) (h2 : SqT K Hk a2 vs2) (rs2 : Reps K A Hk vs2 ds2) : Src K (PPr b G A Hk H) (RZ.ItzT K a a2) (List.zipWith (fun x y => .tup [x, y]) ds ds2) := by
  have st : ∀ A' Hk' H', PPr b G A Hk H A' Hk' H' → SqT K H' a vs ∧ SqT K H' a2 vs2 := fun A' Hk' H' p => ⟨Same.sqT p.2.2.1 (Same.sqT p.1 h), Same.sqT p.2.2.1 (Same.sqT p.1 h2)⟩
  have hl := rs.length
  have hl2 := rs2.length
  refine ⟨by rw [List.length_zipWith]; omega, fun A' Hk' H' i p hi => ?_, fun A' Hk' H' i x H2 p hi y => ?_, fun A' Hk' H' i p hi => ?_⟩
  · rw [List.length_zipWith] at hi
    exact ⟨vs, vs2, _, _, (st _ _ _ p).1, (st _ _ _ p).2, List.getElem?_eq_getElem (by omega), List.getElem?_eq_getElem (by omega)⟩
  · obtain ⟨T, u, w, e1, e2, e3, q, q2⟩ := y
    obtain ⟨d, hd, rd⟩ := rs.getV (q vs (st _ _ _ p).1)
    obtain ⟨d2, hd2, rd2⟩ := rs2.getV (q2 vs2 (st _ _ _ p).2)
    exact ⟨.tup [d, d2], zw_get hd hd2, .inr ⟨T, _, _, e1, rfl, e2, e3, .cons (rd.mono p.1 p.2.1) (.cons (rd2.mono p.1 p.2.1) .nil), two_le⟩⟩
  · rw [List.length_zipWith] at hi
    exact ⟨vs, vs2, (st _ _ _ p).1, (st _ _ _ p).2, by omega⟩
theorem rep_lst {K : PySem.W.Frag} {A : Nat → Option Addr} {H : Hp} {v : V} {ds : List D} (r : Rep K A H v (.lst ds)) : ∃ a vs, v = .ref a ∧ SqL K H a vs ∧ Reps K A H vs ds ∧ ds.length ≤ sizeLine := by
  cases r with
  | lst h r z => exact ⟨_, _, rfl, h, r, z⟩
theorem rep_tup {K : PySem.W.Frag} {A : Nat → Option Addr} {H : Hp} {v : V} {ds : List D} (r : Rep K A H v (.tup ds)) : ∃ a vs, v = .ref a ∧ SqT K H a vs ∧ Reps K A H vs ds ∧ ds.length ≤ sizeLine := by
  cases r with
  | tup h r z => exact ⟨_, _, rfl, h, r, z⟩
theorem s_Ienum {p tpos : Pos} {elts : List Expr} {kk : Nat} (hK : c.K = X.K) (hg : Gl X "enumerate") (hm : X.mg "enumerate" = none) (ha : PE X x (TEr c W false ea)) (hn : notStar x = true) : PI X (.Tuple elts kk tpos) (.Call (.Name "enumerate" p) [x] [] pos) (TIr c W ba (.enum ea)) := ⟨fun pins s σ H R Iv h => by
  obtain ⟨G, L, m, ρ, E, h⟩ := h
  rw [evI] at h
  refine (ET.pi_enumA hg hm (pa_cons ha pa_nil (star_of hn)) (star_of hn)).run pins s σ H R Iv ?_
  refine ⟨G, L, m, ρ, E, (PstG.bind h).imp fun d m1 H1 L1 e s1 ok q v r => ?_⟩
  cases d with
  | lst ds =>
    obtain ⟨a, vs, e1, hs, rs, z⟩ := rep_lst r.rep
    exact ⟨a, vs, by rw [e1], .inl ⟨hK ▸ Same.sqL hide_sub hs, hK ▸ q H1 L1 (Stp.refl _ _) ok _ (src_enum hs rs z)⟩⟩
  | tup ds =>
    obtain ⟨a, vs, e1, hs, rs, z⟩ := rep_tup r.rep
    exact ⟨a, vs, by rw [e1], .inr ⟨hK ▸ Same.sqT hide_sub hs, hK ▸ q H1 L1 (Stp.refl _ _) ok _ (src_enumT hs rs z)⟩⟩
  | _ => exact (show False from q).elim⟩
theorem s_Irev {p : Pos} (hK : c.K = X.K) (hg : Gl X "reversed") (hm : X.mg "reversed" = none) (ha : PE X x (TEr c W false ea)) (hn : notStar x = true) : PI X tg (.Call (.Name "reversed" p) [x] [] pos) (TIr c W ba (.rev ea)) := ⟨fun pins s σ H R Iv h => by
  obtain ⟨G, L, m, ρ, E, h⟩ := h
  rw [evI] at h
  refine (RT.pi_revA hg hm ha (star_of hn)).run pins s σ H R Iv ?_
  refine ⟨G, L, m, ρ, E, (PstG.bind h).imp fun d m1 H1 L1 e s1 ok q v r => ?_⟩
  cases d with
  | lst ds =>
    obtain ⟨a, vs, e1, hs, rs, z⟩ := rep_lst r.rep
    exact ⟨a, vs, e1, .inl ⟨hK ▸ Same.sqL hide_sub hs, hK ▸ q H1 L1 (Stp.refl _ _) ok _ (src_revL hs rs z)⟩⟩
  | tup ds =>
    obtain ⟨a, vs, e1, hs, rs, z⟩ := rep_tup r.rep
    exact ⟨a, vs, e1, .inr ⟨hK ▸ Same.sqT hide_sub hs, hK ▸ q H1 L1 (Stp.refl _ _) ok _ (src_revT hs rs z)⟩⟩
  | _ => exact (show False from q).elim⟩
theorem s_Izip {p tpos : Pos} {elts : List Expr} {kk : Nat} (hK : c.K = X.K) (hg : Gl X "zip") (hm : X.mg "zip" = none) (ha : PE X x (TEr c W false ea)) (hb : PE X y (TEr c W false eb)) (hn : notStar x = true) (hn2 : notStar y = true) : PI X (.Tuple elts kk tpos) (.Call (.Name "zip" p) [x, y] [] pos) (TIr c W ba (.zip ea eb)) := ⟨fun pins s σ H R Iv h => by
  obtain ⟨G, L, m, ρ, E, h⟩ := h
  rw [evI] at h
  refine (RZ.pi_zipA hg hm (pa_cons ha (pa_cons hb pa_nil (star_of hn2)) (star_of hn)) (star_of hn) (by rw [star_of hn2]; rfl)).run pins s σ H R Iv ?_
  refine ⟨G, L, m, ρ, E, (PstG.bind h).imp fun d m1 H1 L1 e s1 ok q v r => ?_⟩
  have E1 := E.step s1 ok
  refine ⟨G, L1, m1, ρ, E1, (PstG.bind q).imp fun d2 m2 H2 L2 e2 s2 ok2 q2 v2 r2 => ?_⟩
  have r' := r.step E1 s2
  cases d with
  | lst ds =>
    cases d2 with
    | lst ds2 =>
      obtain ⟨a, vs, e1, hs, rs, z⟩ := rep_lst r'.rep
      obtain ⟨a2, vs2, e2, hs2, rs2, z2⟩ := rep_lst r2.rep
      exact ⟨a, a2, vs, vs2, by rw [e1, e2], .inl ⟨hK ▸ Same.sqL hide_sub hs, hK ▸ Same.sqL hide_sub hs2, hK ▸ q2 H2 L2 (Stp.refl _ _) ok2 _ (src_zipL hs rs z hs2 rs2)⟩⟩
    | _ => exact (show False from q2).elim
  | tup ds =>
    cases d2 with
    | tup ds2 =>
      obtain ⟨a, vs, e1, hs, rs, z⟩ := rep_tup r'.rep
      obtain ⟨a2, vs2, e2, hs2, rs2, z2⟩ := rep_tup r2.rep
      exact ⟨a, a2, vs, vs2, by rw [e1, e2], .inr ⟨hK ▸ Same.sqT hide_sub hs, hK ▸ Same.sqT hide_sub hs2, hK ▸ q2 H2 L2 (Stp.refl _ _) ok2 _ (src_zipT hs rs z hs2 rs2)⟩⟩
    | _ => exact (show False from q2).elim
  | _ =>
    cases d2 <;> exact (show False from q2).elim⟩
end
end MP

set_option maxRecDepth 100000
set_option maxHeartbeats 4000000
set_option autoImplicit false
namespace MP
open PySem L2

/-! ### comprehensions -/
section
variable {X : Cx} {c : Cn} {W : WX} {ba bb bc : Bool} {ea eb ec : E} {x y z tg : Expr} {pos : Pos}
def W0 : WX := fun _ _ _ _ => False
def TKr (c : Cn) (W : WX) (o : OE) : TT := fun σ H Q => ∃ G L m ρ, ESt c.K c.own G L m ρ σ H ∧ PstT c W G L σ H Q (evK c.cfg o ρ m)
theorem s_kno : PTs X [] (TKr c W .no) := ⟨fun pins s σ H Q I h => by
  obtain ⟨G, L, m, ρ, E, h⟩ := h
  rw [evK] at h
  exact pts_nil.run pins s σ H Q I (h H L (Stp.refl _ _) E.sok)⟩
theorem s_kyes (ha : PT X x (TTr c W ea)) : PTs X [x] (TKr c W (.yes ea)) := ⟨fun pins s σ H Q I h => by
  obtain ⟨G, L, m, ρ, E, h⟩ := h
  rw [evK] at h
  exact (pts_one ha).run pins s σ H Q I ⟨G, L, m, ρ, E, h⟩⟩
/-- a fresh object of our own beside all that is told -/
theorem ESt.guard {K : PySem.W.Frag} {own : Nat → Bool} {G : Addr → Prop} {L : Lay} {m : Mu} {ρ : Env'} {σ : L2.St} {H : Hp} {p : Addr} {o : HO} (E : ESt K own G L m ρ σ H) (n : H p = none) :
    ESt K own (fun a => G a ∨ a = p) L m ρ σ (upd H p o) ∧ Same (hide (Bd G L) H) (hide (Bd (fun a => G a ∨ a = p) L) (upd H p o)) := by
  have nb := E.nb E.sok.foot n
  have np : ∀ a u, H a = some u → a ≠ p := fun a u h => ne_of_none h n
  have sm : Same (hide (Bd G L) H) (hide (Bd (fun a => G a ∨ a = p) L) (upd H p o)) := hide_same fun a u hb h => ⟨fun q => by
    rcases q with (q | q) | q
    · exact hb (.inl q)
    · exact np a u h q
    · exact hb (.inr q), by rw [upd_ne (np a u h)]; exact h⟩
  refine ⟨⟨fun a g => ?_, ?_, E.len, fun i d e => ?_⟩, sm⟩
  · rcases g with g | g
    · obtain ⟨⟨u, h⟩, nf⟩ := E.gok a g
      exact ⟨⟨u, by rw [upd_ne (np a u h)]; exact h⟩, nf⟩
    · subst g
      exact ⟨⟨o, upd_same⟩, fun q => nb (.inr q)⟩
  · exact E.sok.own fun a u ng h => ⟨fun q => q.elim ng (np a u h), by rw [upd_ne (np a u h)]; exact h⟩
  · obtain ⟨v, h1, h2, h3⟩ := E.slot i d e
    refine ⟨v, h1, fun q => (h2 q).mono sm fun _ _ h => h, fun q => ?_⟩
    obtain ⟨a, e1, g, cr⟩ := h3 q
    exact ⟨a, e1, .inl g, cr.mono sm (fun _ _ h => h) fun u h => by rw [upd_ne (np a u h)]; exact h⟩
/-- the guarded object is written -/
theorem ESt.rewrite {K : PySem.W.Frag} {own : Nat → Bool} {G : Addr → Prop} {L : Lay} {m : Mu} {ρ : Env'} {σ : L2.St} {H : Hp} {p : Addr} {o : HO} (hs : ∀ (i : Nat) (d : D), own i = true → ρ[i]? = some (some d) → σ[i]? ≠ some (some (.ref p))) (E : ESt K own (fun a => G a ∨ a = p) L m ρ σ H) :
    ESt K own (fun a => G a ∨ a = p) L m ρ σ (upd H p o) ∧ Same (hide (Bd (fun a => G a ∨ a = p) L) H) (hide (Bd (fun a => G a ∨ a = p) L) (upd H p o)) := by
  have sm : Same (hide (Bd (fun a => G a ∨ a = p) L) H) (hide (Bd (fun a => G a ∨ a = p) L) (upd H p o)) := hide_same fun a u hb h => ⟨hb, by
    rw [upd_ne (fun q => hb (.inl (.inr q)))]; exact h⟩
  refine ⟨⟨fun a g => ?_, ?_, E.len, fun i d e => ?_⟩, sm⟩
  · obtain ⟨⟨u, h⟩, nf⟩ := E.gok a g
    by_cases hp : a = p
    · subst hp
      exact ⟨⟨o, upd_same⟩, nf⟩
    · exact ⟨⟨u, by rw [upd_ne hp]; exact h⟩, nf⟩
  · exact E.sok.own fun a u nq h => ⟨nq, by rw [upd_ne (fun q => nq (.inr q))]; exact h⟩
  · obtain ⟨v, h1, h2, h3⟩ := E.slot i d e
    refine ⟨v, h1, fun q => (h2 q).mono sm fun _ _ h => h, fun q => ?_⟩
    obtain ⟨a, e1, g, cr⟩ := h3 q
    have na : a ≠ p := fun z => hs i d q e (by rw [h1, e1, z])
    exact ⟨a, e1, g, cr.mono sm (fun _ _ h => h) fun u h => by rw [upd_ne na]; exact h⟩
theorem turns_cons {f : D → Mu → Res (Option D)} {x : D} {xs ys : List D} {m m' : Mu} (h : turns f (x :: xs) m = .ok ys m') : ∃ o m1 r, f x m = .ok o m1 ∧ turns f xs m1 = .ok r m' ∧ ys = (match o with | some y => y :: r | none => r) := by
  rw [turns] at h
  obtain ⟨o, m1, h1, h⟩ := Res.bind_eq_ok h
  obtain ⟨r, m2, h2, h⟩ := Res.bind_eq_ok h
  cases h
  exact ⟨o, m1, r, h1, h2, rfl⟩
theorem PstG.ok_of {α : Type} {c : Cn} {G : Addr → Prop} {L : Lay} {σ : L2.St} {H : Hp} {q : α → Mu → Hp → Lay → Prop} {a : α} {m : Mu} (h : ∀ H' L', Stp L L' H H' → SOk c.K G L' m H' → q a m H' L') : PstG c W0 G L σ H q (.ok a m) := h
/-- a turn's value is told -/
theorem Yld.told {K : PySem.W.Frag} {own : Nat → Bool} {G : Addr → Prop} {L : Lay} {m : Mu} {ρ : Env'} {σ : L2.St} {H H' : Hp} {x : V} {d : D} (E : ESt K own G L m ρ σ H) (y : Yld K (AL L) (hide (Bd G L) H) H x d H') : Same H H' ∧ Rep K (AL L) (hide (Bd G L) H') x d := by
  rcases y with ⟨e, r⟩ | ⟨T, vs, ds, e1, e2, n, e3, rs, z⟩
  · subst e
    exact ⟨fun _ _ h => h, r⟩
  · subst e1 e2 e3
    have nb := E.nb E.sok.foot n
    have sm : Same H (upd H T (.tup vs)) := fun a u e => by rw [upd_ne (ne_of_none e n)]; exact e
    exact ⟨sm, .tup (.inl (.inl (Rep.new n nb))) (rs.mono (Stp.upd n).hid fun _ _ h => h) z⟩
theorem comp_imp {tgt : Tgt} {it : I} {oc : OE} {own : List (Str × Nat)} (hv : own.map (·.2) = tgt.slots) (ho : ∀ i ∈ tgt.slots, c.own i = false) (σ : L2.St) (H : Hp) (Q : VK) (h : TEr c W false (.comp tgt it oc ea) σ H Q) :
    tLc (TIr c W bc it) (TGr c.K tgt) (TKr c W0 oc) (TEr c W0 false ea) (own.map (·.2)) σ H Q := by
  obtain ⟨G, L, m, ρ, E, h⟩ := h
  rw [evE] at h
  rw [hv]
  refine ⟨G, L, m, ρ, E, (PstG.bind h).imp fun xs m1 H1 L1 e1 s1 ok1 q J src => fun Dl hD => ?_⟩
  have E1 := E.step s1 ok1
  generalize hf : (fun x m2 => match bindT tgt x (wipeE ρ tgt.slots) with
    | some ρ' => (evK c.cfg oc ρ' m2).bind fun t m3 => if t = true then (evE c.cfg ea ρ' m3).bind fun y m4 => Res.ok (some y) m4 else Res.ok none m3
    | none => Res.stuck) = f at q
  cases hys : turns f xs m1 with
  | stuck => rw [hys] at q; exact (show False from q).elim
  | err k m2 => rw [hys] at q; exact (show False from q).elim
  | ok ys m5 =>
  rw [hys] at q
  have q' : Pst c W false G L1 σ H1 Q (.ok (.lst ys) m5) := q
  -- the state that all turns bear
  have Ew : ESt c.K c.own G L1 m1 (wipeE ρ tgt.slots) (L2.wipe σ tgt.slots) H1 := E1.wipe
  have hown : ∀ (i : Nat) (d : D), c.own i = true → (wipeE ρ tgt.slots)[i]? = some (some d) → (L2.wipe σ tgt.slots)[i]? ≠ some (some (.ref Dl)) := fun i d q1 q2 q3 => by
    obtain ⟨v, h1, _, h3⟩ := Ew.slot i d q2
    obtain ⟨a, e, g, _⟩ := h3 q1
    rw [h1, e] at q3
    cases q3
    obtain ⟨⟨o, h⟩, _⟩ := Ew.gok _ g
    rw [hD] at h
    cases h
  refine ⟨fun i n H' => n = xs.length - i ∧ i ≤ xs.length ∧ ∃ (L' : Lay) (m' : Mu) (acc ys' : List D) (vacc : List V), ESt c.K c.own (fun a => G a ∨ a = Dl) L' m' (wipeE ρ tgt.slots) (L2.wipe σ tgt.slots) H' ∧ Stp L1 L' H1 H' ∧
      H' Dl = some (.lst vacc) ∧ Reps c.K (AL L') (hide (Bd (fun a => G a ∨ a = Dl) L') H') vacc acc ∧ acc.length ≤ i ∧ turns f (xs.drop i) m' = .ok ys' m5 ∧ ys = acc ++ ys' ∧ Same (hide (Bd G L1) H1) (hide (Bd (fun a => G a ∨ a = Dl) L') H') ∧ (∀ a o, G a → H1 a = some o → H' a = some o), ⟨_, rfl, Nat.zero_le _, L1, m1, [], ys, [], (Ew.guard hD).1, Stp.upd hD, upd_same, .nil, Nat.zero_le _, hys, rfl, (Ew.guard hD).2, fun a o g h => by
      rw [upd_ne (ne_of_none h hD)]
      exact h⟩, ?_⟩
  rintro i n H' ⟨rfl, hle, L', m', acc, ys', vacc, E', st, hDl, racc, hacc, htl, hcat, sm, kG⟩
  have PP : PPr bc G (AL L1) (hide (Bd G L1) H1) H1 (AL L') (hide (Bd (fun a => G a ∨ a = Dl) L') H') H' := ⟨sm, st.al, hide_sub, fun _ => kG⟩
  by_cases hlt : i < xs.length
  · right
    refine ⟨src.go _ _ _ i PP hlt, fun H3 => ∃ n', n' = xs.length - (i + 1) ∧ i + 1 ≤ xs.length ∧ ∃ (L' : Lay) (m' : Mu) (acc ys' : List D) (vacc : List V), ESt c.K c.own (fun a => G a ∨ a = Dl) L' m' (wipeE ρ tgt.slots) (L2.wipe σ tgt.slots) H3 ∧ Stp L1 L' H1 H3 ∧
      H3 Dl = some (.lst vacc) ∧ Reps c.K (AL L') (hide (Bd (fun a => G a ∨ a = Dl) L') H3) vacc acc ∧ acc.length ≤ i + 1 ∧ turns f (xs.drop (i + 1)) m' = .ok ys' m5 ∧ ys = acc ++ ys' ∧ Same (hide (Bd G L1) H1) (hide (Bd (fun a => G a ∨ a = Dl) L') H3) ∧ (∀ a o, G a → H1 a = some o → H3 a = some o), fun H3 ⟨n', h1, h2⟩ => ⟨n', by omega, h1, h2⟩, fun x H2 y => ?_⟩
    obtain ⟨d, hd, yl⟩ := src.yld _ _ _ i x H2 PP hlt y
    obtain ⟨sm2, rd⟩ := yl.told E'
    have st2 : Stp L' L' H' H2 := Stp.same sm2
    have E2 : ESt c.K c.own (fun a => G a ∨ a = Dl) L' m' (wipeE ρ tgt.slots) (L2.wipe σ tgt.slots) H2 := E'.step st2 (E'.sok.same sm2)
    have hdrop : xs.drop i = d :: xs.drop (i + 1) := by
      rw [List.drop_eq_getElem_cons hlt]
      have : xs[i] = d := by
        have := List.getElem?_eq_getElem hlt
        rw [hd] at this
        exact (Option.some.inj this).symm
      rw [this]
    rw [hdrop] at htl
    obtain ⟨o, m2, r, hfx, htl2, hys'⟩ := turns_cons htl
    rw [← hf] at hfx
    cases hb : bindT tgt d (wipeE ρ tgt.slots) with
    | none =>
      have hfx' : (match bindT tgt d (wipeE ρ tgt.slots) with
        | some ρ' => (evK c.cfg oc ρ' m').bind fun t m3 => if t = true then (evE c.cfg ea ρ' m3).bind fun y m4 => Res.ok (some y) m4 else Res.ok none m3
        | none => Res.stuck) = .ok o m2 := hfx
      rw [hb] at hfx'
      cases hfx'
    | some ρ' =>
      have hfx' : (match bindT tgt d (wipeE ρ tgt.slots) with
        | some ρ' => (evK c.cfg oc ρ' m').bind fun t m3 => if t = true then (evE c.cfg ea ρ' m3).bind fun y m4 => Res.ok (some y) m4 else Res.ok none m3
        | none => Res.stuck) = .ok o m2 := hfx
      rw [hb] at hfx'
      refine E2.bind rd ho hb fun σ' E3 hw _ => ⟨by rw [hw _ (fun _ h => h), wipe_idem], ?_⟩
      obtain ⟨t, m3, ht1, hfx2⟩ := Res.bind_eq_ok hfx'
      refine ⟨_, L', m', ρ', E3, ?_⟩
      rw [ht1]
      refine PstG.ok_of fun H4 L4 s4 ok4 => ?_
      have stA : Stp L' L4 H' H4 := st2.trans s4
      have E4w := E'.step stA ok4
      have stB : Stp L1 L4 H1 H4 := st.trans stA
      have kD : ∀ o, H' Dl = some o → H4 Dl = some o := fun o h => stA.keep Dl o (E'.gok Dl (.inr rfl)).2 h
      have kG4 : ∀ a o, G a → H1 a = some o → H4 a = some o := fun a o g h => stA.keep a o (E'.gok a (.inl g)).2 (kG a o g h)
      cases t with
      | false =>
        rw [if_neg Bool.false_ne_true] at hfx2
        cases hfx2
        refine iteF ?_
        exact ⟨_, rfl, by omega, L4, _, acc, r, vacc, E4w, stB, kD _ hDl, racc.mono stA.hid stA.al, by omega, htl2, by rw [hcat, hys'], fun a o h => stA.hid a o (sm a o h), kG4⟩
      | true =>
        rw [if_pos rfl] at hfx2
        refine iteT ?_
        obtain ⟨yd, m4, hy, hfx3⟩ := Res.bind_eq_ok hfx2
        cases hfx3
        have E4 := E3.step s4 ok4
        refine ⟨_, L4, m3, ρ', E4, ?_⟩
        rw [hy]
        refine PstG.ok_of fun H5 L5 s5 ok5 v rv => ?_
        have stC : Stp L' L5 H' H5 := stA.trans s5
        have E5w := E'.step stC ok5
        have kD5 : H5 Dl = some (.lst vacc) := stC.keep Dl _ (E'.gok Dl (.inr rfl)).2 hDl
        obtain ⟨E6, sm6⟩ := E5w.rewrite (o := .lst (vacc ++ [v])) hown
        refine ⟨vacc, kD5, ?_, ?_⟩
        · rw [racc.length]
          have := src.len
          omega
        · refine ⟨_, rfl, by omega, L5, _, acc ++ [yd], r, vacc ++ [v], E6, ?_, upd_same, ?_, ?_, htl2, by rw [hcat, hys']; simp, ?_, ?_⟩
          · have stD : Stp L1 L5 H1 H5 := st.trans stC
            refine ⟨fun a o nf h => ?_, stD.new, fun a o h => ?_, stD.al⟩
            · rw [upd_ne (ne_of_none h hD)]
              exact stD.keep a o nf h
            · rw [upd_ne (ne_of_none h hD)]
              exact stD.stay a o h
          · exact ((racc.mono stC.hid stC.al).mono sm6 fun _ _ h => h).append (.cons (rv.rep.mono sm6 fun _ _ h => h) .nil)
          · rw [List.length_append, List.length_singleton]
            omega
          · exact fun a o h => sm6 a o (stC.hid a o (sm a o h))
          · intro a o g h
            rw [upd_ne (ne_of_none h hD)]
            exact stC.keep a o (E'.gok a (.inl g)).2 (kG a o g h)
  · left
    refine ⟨src.stop _ _ _ i PP (by omega), ?_⟩
    rw [List.drop_eq_nil_of_le (by omega)] at htl
    cases htl
    rw [List.append_nil] at hcat
    subst hcat
    have nD : ¬ Bd G L' Dl := fun z => by
      rcases z with z | z
      · obtain ⟨⟨o, h⟩, _⟩ := E1.gok Dl z
        rw [hD] at h
        cases h
      · exact (E'.gok Dl (.inr rfl)).2 z
    have smB : Same (hide (Bd (fun a => G a ∨ a = Dl) L') H') (hide (Bd G L') H') := hide_same fun a o nb h => ⟨fun z => nb (z.elim (fun g => .inl (.inl g)) .inr), h⟩
    refine q' H' L' st (E'.sok.own fun a o ng h => ⟨fun g => ng (.inl g), h⟩) _ (.inl (.lst (.inl (.inl (hide_of nD hDl))) (racc.mono smB fun _ _ h => h) ?_))
    have := src.len
    omega
theorem s_comp {tgt : Tgt} {it : I} {oc : OE} {iter elt : Expr} {ifs : List Expr} {scope : Scope} {own : List (Str × Nat)} (hK : c.K = X.K) (hc : X.calm = true) (hN : X.N.Nodup) (hi : PI X tg iter (TIr c W bc it)) (ok : BlkOk X.N X.env.scope scope own)
    (hv : own.map (·.2) = tgt.slots) (ho : ∀ i ∈ tgt.slots, c.own i = false)
    (hg : ∀ (s : Shared) (H : Hp) (C : Addr) (cl : List (Str × Addr)) (fp : List Addr), PG (X.blk s H scope (compEnvC scope cl C X.env) fp) tg (TGr c.K tgt))
    (ht : ∀ (s : Shared) (H : Hp) (C : Addr) (cl : List (Str × Addr)) (fp : List Addr), PTs (X.blk s H scope (compEnvC scope cl C X.env) fp) ifs (TKr c W0 oc))
    (he : ∀ (s : Shared) (H : Hp) (C : Addr) (cl : List (Str × Addr)) (fp : List Addr), PE (X.blk s H scope (compEnvC scope cl C X.env) fp) elt (TEr c W0 false ea)) (hs : ∀ x, foldedSetIterable iter X.env x = pure x) :
    PE X (.ListComp elt [⟨tg, iter, ifs, 0⟩] scope pos) (TEr c W false (.comp tgt it oc ea)) := by
  exact pe_imp (pe_lc hc hN hi ok hg ht he hs) fun σ H Q h => comp_imp hv ho σ H Q h

/-! ### leaves -/
theorem s_var {i : Nat} {n : Str} (hN : X.N[i]? = some n) (hv : Vis X.env.scope n) (hd : (n == ("__debug__" : Str)) = false) (hcd : (n == ("__classdict__" : Str)) = false) : PE X (.Name n pos) (TEr c W (c.own i) (.var i)) := by
  refine pe_imp (pe_var hN hv hd hcd) fun σ H Q h => ?_
  obtain ⟨G, L, m, ρ, E, h⟩ := h
  rw [evE] at h
  cases hr : ρ[i]? with
  | none => rw [hr] at h; exact (show False from h).elim
  | some o =>
    cases o with
    | none => rw [hr] at h; exact (show False from h).elim
    | some d =>
      rw [hr] at h
      obtain ⟨v, h1, h2, h3⟩ := E.slot i d hr
      refine ⟨v, h1, h H L (Stp.refl _ _) E.sok v ?_⟩
      cases ho : c.own i with
      | false => exact .inl (h2 ho)
      | true => exact .inr ⟨rfl, h3 ho⟩
def litD : D → Bool
  | .non | .bl _ | .int _ => true
  | .str s => decide (s.length ≤ sizeD)
  | _ => false
theorem s_lit {v : V} {e : Expr} {d : D} (h : PE X e (tC v)) (r : ∀ (A : Nat → Option Addr) (H : Hp), Rep c.K A H v d) : PE X e (TEr c W false (.lit d)) := by
  refine pe_imp h fun σ H Q h => ?_
  obtain ⟨G, L, m, ρ, E, h⟩ := h
  rw [evE] at h
  exact Pst.val E h (.inl (r _ _))
theorem s_glob {v : V} {e : Expr} {d : D} {n : Str} (h : PE X e (tC v)) (r : ∀ (A : Nat → Option Addr) (H : Hp), Rep c.K A H v d) : PE X e (TEr c W false (.glob n d)) := by
  refine pe_imp h fun σ H Q h => ?_
  obtain ⟨G, L, m, ρ, E, h⟩ := h
  rw [evE] at h
  exact Pst.val E h (.inl (r _ _))
/-! ### displays -/
theorem sz1000 {n : Nat} (h : n ≤ 1000) : n ≤ sizeLine := Nat.le_trans h (by decide)
theorem s_tup {es : List Expr} {l : Es} {k : Nat} (ha : PA X es (TAr c W false l)) (hz : l.len ≤ 1000) : PE X (.Tuple es k pos) (TEr c W false (.tup l)) := by
  refine pe_imp (pe_tup ha) fun σ H Q h => ?_
  obtain ⟨G, L, m, ρ, E, h⟩ := h
  rw [evE] at h
  refine TAr.bind E h fun ds m1 vs H1 L1 e1 s1 E1 r1 h1 => ⟨by rw [r1.length, evEs_len e1]; exact sz1000 hz, fun p n => ?_⟩
  exact Pst.tup E1 h1 r1.reps (by rw [evEs_len e1]; exact sz1000 hz) n
theorem s_lst {es : List Expr} {l : Es} (ha : PA X es (TAr c W false l)) (hz : l.len ≤ 1000) : PE X (.List es pos) (TEr c W false (.lst l)) := by
  refine pe_imp (pe_lst ha) fun σ H Q h => ?_
  obtain ⟨G, L, m, ρ, E, h⟩ := h
  rw [evE] at h
  refine TAr.bind E h fun ds m1 vs H1 L1 e1 s1 E1 r1 h1 => ⟨by rw [r1.length, evEs_len e1]; exact sz1000 hz, fun p n => ?_⟩
  exact Pst.lst E1 h1 r1.reps (by rw [evEs_len e1]; exact sz1000 hz) n
theorem s_dic0 : PE X (.Dict [] [] pos) (TEr c W false .dic0) := by
  refine pe_imp pe_dnewK fun σ H Q h => ?_
  obtain ⟨G, L, m, ρ, E, h⟩ := h
  rw [evE] at h
  intro p n
  have nb := E.nb E.sok.foot n
  exact h _ L (Stp.upd n) (E.sok.upd n) _ (.inl (.dic (.inl (Rep.new n nb)) .nil (Nat.zero_le _)))
/-! ### from the end on -/
theorem s_rev {k : Nat} {p1 p2 p3 : Pos} (hK : c.K = X.K) (ha : PE X x (TEr c W bb ea)) : PE X (.Subscript x (.Slice none none (some (.UnaryOp .USub (.Constant (.int 1) k p1) p2)) p3) pos) (TEr c W false (.slS ea .no (-1))) := by
  refine pe_imp (pe_revL ha) fun σ H Q h => ?_
  obtain ⟨G, L, m, ρ, E, h⟩ := h
  rw [evE] at h
  refine TEr.bind E h fun d m1 v H1 L1 e1 s1 E1 r1 h1 => ?_
  rw [evP, Res.bind_ok] at h1
  cases d with
  | lst ds =>
    obtain ⟨a, vs, e, hs, rs, z⟩ := r1.lst
    subst e
    exact ⟨a, vs, rfl, hK ▸ hs, fun p n => Pst.lst E1 h1 rs.rev (by rw [List.length_reverse]; exact z) n⟩
  | _ => exact (show False from h1).elim
/-! ### with steps -/
theorem Reps.pick {K : PySem.W.Frag} {A : Nat → Option Addr} {H : Hp} {vs : List V} {ds : List D} (r : Reps K A H vs ds) : ∀ is : List Nat, Reps K A H (is.filterMap (vs[·]?)) (is.filterMap (ds[·]?))
  | [] => .nil
  | i :: is => by
    cases h : ds[i]? with
    | none =>
      have h2 : vs[i]? = none := by
        rw [List.getElem?_eq_none_iff] at h ⊢
        rw [r.length]
        exact h
      rw [List.filterMap_cons_none h, List.filterMap_cons_none h2]
      exact Reps.pick r is
    | some d =>
      obtain ⟨v, h2, rd⟩ := r.get h
      rw [List.filterMap_cons_some h, List.filterMap_cons_some h2]
      exact .cons rd (Reps.pick r is)
theorem vals_pick {vs : List V} {us : List Value} (r : Vals vs us) : ∀ is : List Nat, Vals (is.filterMap (vs[·]?)) (is.filterMap (us[·]?))
  | [] => .nil
  | i :: is => by
    cases h : vs[i]? with
    | none =>
      have h2 : us[i]? = none := by
        rw [List.getElem?_eq_none_iff] at h ⊢
        rw [← r.length]
        exact h
      rw [List.filterMap_cons_none h, List.filterMap_cons_none h2]
      exact vals_pick r is
    | some d =>
      obtain ⟨v, h2, rd⟩ := r.get h
      rw [List.filterMap_cons_some h, List.filterMap_cons_some h2]
      exact .cons rd (vals_pick r is)
theorem pick_len {α : Type} (xs : List α) (lo : Option Int) {st : Int} (hs : 0 < st) : (pickL xs lo st).length ≤ xs.length := by
  refine Nat.le_trans (List.length_filterMap_le _ _) ?_
  have h1 : (sliceBounds lo none (some st) xs.length).2.2 = st := rfl
  refine sliceRange_length_le _ _ _ _ (fun _ => ?_) fun n => ?_
  · have hst : (some st : Option Int).getD 1 > 0 := hs
    refine ⟨?_, ?_⟩
    · unfold sliceBounds
      cases lo with
      | none => simp [hs]
      | some i =>
        show 0 ≤ (if st > 0 then max 0 (min (if i < 0 then i + (xs.length : Int) else i) xs.length) else _)
        rw [if_pos hs]
        omega
    · show (if st > 0 then (xs.length : Int) else -1) ≤ _
      rw [if_pos hs]
      exact Int.le_refl _
  · exact absurd hs (by rw [← h1]; exact n)
def tStep (K : PySem.W.Frag) (st : Int) (te : TE) (tl : TO) : TE := fun σ H Q => te σ H fun x H1 => tl σ H1 fun l H2 => ∃ a xs, x = .ref a ∧ SqL K H2 a xs ∧ ∀ p, H2 p = none → Q (.ref p) (upd H2 p (.lst (pickL xs l st)))
open PySem.Spec PyProof.Rows in
theorem pe_step {X : Cx} {e : Expr} {lo : Option Expr} {te : TE} {tl : TO} {k : Nat} {st : Int} {p1 p2 pos : Pos} (hs : 0 < st) (he : PE X e te) (hl : PO X lo tl) : PE X (.Subscript e (.Slice lo none (some (.Constant (.int st) k p1)) p2) pos) (tStep X.K st te tl) := by
  refine ⟨fun pins s σ H Q I h => ?_⟩
  refine Subscript_ (thn (he.run pins s σ H _ I h) fun v s1 ⟨x, H1, I1, r1, q1⟩ => ?_)
  refine wpAny_Slice (thn (hl.run pins s1 σ H1 _ I1 q1) fun vl s2 ⟨l, H2, I2, pl, q2⟩ => ?_)
  obtain ⟨a, xs, ex, hx, q⟩ := q2
  subst ex
  cases r1
  have hst : PO X (some (.Constant (.int st) k p1)) (tPart (tC (.int st))) := po_some pe_int
  refine thn (po_none.run pins s2 σ H2 (fun o H3 => o = none ∧ H3 = H2) I2 ⟨rfl, rfl⟩) fun vu s3 ⟨u, H3, I3, pu, eu, e3⟩ => ?_
  subst eu e3
  refine thn (hst.run pins s3 σ H3 (fun o H4 => o = some st ∧ H4 = H3) I3 ⟨st, rfl, rfl, rfl⟩) fun vs s4 ⟨o, H4, I4, ps, eo, e4⟩ => ?_
  subst eo e4
  have I5 : Inv X pins σ H4 { s4 with heap := s4.heap.push { cls := .type "slice", data := .fields #[vl, vu, vs] } } := I4.kept (t' := s4.toks) fun b ob q => Heap.get?_push_of_some _ q
  obtain ⟨its, r, ht, hz⟩ := I5.list hx
  have hlen := r.length
  show wpAny (model X.prog X.w) X.A (subscriptTail e (.Slice lo none (some (.Constant (.int st) k p1)) p2) (.ref a) (.ref s4.heap.objs.size)) (EP X pins σ Q) X.xe { s4 with heap := s4.heap.push { cls := .type "slice", data := .fields #[vl, vu, vs] } }
  refine tail_any (ops := [.ref a, .ref s4.heap.objs.size]) ht.isList.typeIs (PySem.slot_list_getitem.lookup) ?_ (by cases lo <;> with_unfolding_all rfl)
  refine wpAny_getItem_list_slice ht.isList (Heap.IsSliceOf.new _ vl vu vs) pl pu ps (fun z => by cases z; exact absurd hs (by decide)) ?_ (by rw [List.size_toArray]; omega)
  have epick : slicePick its.toArray l none (some st) = (pickL its l st).toArray := by
    unfold slicePick pickL
    rw [List.size_toArray]
    simp
  rw [epick]
  have hsz : xs.length = its.length := hlen
  have r2 : Vals (pickL xs l st) (pickL its l st) := by
    unfold pickL
    rw [hsz]
    exact vals_pick r _
  refine ⟨.ref _, _, I5.laid (t' := s4.toks) (o := .lst (pickL xs l st)) (fun b ob q => Heap.get?_push_of_some _ q) (Nat.le_refl _) ?_, rfl, q _ (I5.hok.fresh (Nat.le_refl _))⟩
  exact ⟨Nat.le_trans (pick_len xs l hs) hz, _, 0, r2, Heap.get?_push_size _ rfl⟩
theorem s_step {X : Cx} {c : Cn} {W : WX} {bb : Bool} {ea : E} {el : OE} {x : Expr} {lo : Option Expr} {k : Nat} {st : Int} {p1 p2 pos : Pos} (hs : 0 < st) (hK : c.K = X.K) (ha : PE X x (TEr c W bb ea)) (hl : PO X lo (TOr c W el)) : PE X (.Subscript x (.Slice lo none (some (.Constant (.int st) k p1)) p2) pos) (TEr c W false (.slS ea el st)) := by
  refine pe_imp (pe_step hs ha hl) fun σ H Q h => ?_
  obtain ⟨G, L, m, ρ, E, h⟩ := h
  rw [evE] at h
  refine TEr.bind E h fun d m1 v H1 L1 e1 s1 E1 r1 h1 => ?_
  refine ⟨G, L1, m1, ρ, E1, (PstG.bind h1).imp fun l m2 H2 L2 e2 s2 ok2 q2 => ?_⟩
  have E2 := E1.step s2 ok2
  have r2 := r1.step E1 s2
  have ne : st ≠ -1 := by omega
  cases d with
  | lst ds =>
    obtain ⟨a, vs, e, hs', rs, z⟩ := r2.lst
    have hp : Reps c.K (AL L2) (hide (Bd G L2) H2) (pickL vs l st) (pickL ds l st) := by
      unfold pickL
      rw [rs.length]
      exact rs.pick _
    have q3 : Pst c W false G L2 σ H2 Q (.ok (.lst (pickL ds l st)) m2) := by
      have ee : slSD (.lst ds) l st = some (.lst (pickL ds l st)) := if_pos hs
      rw [ee] at q2
      exact q2
    exact ⟨a, vs, e, hK ▸ hs', fun p n => Pst.lst E2 q3 hp (Nat.le_trans (pick_len ds l hs) z) n⟩
  | _ => exact (show False from q2).elim
/-! ### calls of defs -/
def spD (K : PySem.W.Frag) (cls : Nat → Value) (par : Nat) (g : List D → Mu → Res D) : Sp := fun vs H Q E => ∃ (G : Addr → Prop) (L : Lay) (m : Mu) (ds : List D), (∀ a, G a → (∃ o, H a = some o) ∧ ¬ foot L a) ∧ SOk K G L m H ∧ Reps K (AL L) (hide (Bd G L) H) vs ds ∧ ds.length = par ∧
  match g ds m with
  | .ok d m' => ∀ v H' L', Stp L L' H H' → SOk K G L' m' H' → Rep K (AL L') (hide (Bd G L') H') v d → Q v H'
  | .err k m' => ∀ H' L', Stp L L' H H' → SOk K G L' m' H' → E (cls k) none H'
  | .stuck => False
theorem s_call {n fn : Nat} {f : Addr} {fd : FuncData} {ps : List Str} {nm : Str} {p : Pos} {e : Expr} {es : List Expr} {l : Es} {par : Nat} (hK : c.K = X.K) (F : FnOk X.prog X.w X.K X.mg X.base (L2.CX X.prog X.w) n f fd ps (spD X.K c.cls par (c.cfg.call fn))) (hr : Room n X.A) (hg : Gl X nm) (hm : X.mg nm = some (.ref f))
    (hk : PySem.W.keepIn X.K (.ref f) = true) (hb : Binds X.K fd ps []) (pa : ∀ σ, PassesAt (L2.CX X.prog X.w) X σ (WE W σ)) (ha : PA X (e :: es) (TAr c W false l)) (hl : l.len = par) (hdb : (nm == ("__debug__" : Str)) = false) (hn : (e :: es).all notStar = true) : PE X (.Call (.Name nm p) (e :: es) [] pos) (TEr c W false (.call fn l)) := by
  have hn1 : notStar e = true := by
    rw [List.all_cons, Bool.and_eq_true] at hn
    exact hn.1
  have hn2 : es.all notStar = true := by
    rw [List.all_cons, Bool.and_eq_true] at hn
    exact hn.2
  refine pe_imp (pe_callS (E := WE W) F hr hg hm hk hb pa ha hdb (star_of hn1) (by rw [back_any]; exact star_any hn2)) fun σ H Q h => ?_
  obtain ⟨G, L, m, ρ, E, h⟩ := h
  rw [evE] at h
  refine TAr.bind E h fun ds m1 vs H1 L1 e1 s1 E1 r1 h1 => ?_
  refine ⟨G, L1, m1, ds, E1.gok, hK ▸ E1.sok, hK ▸ r1.reps, by rw [evEs_len e1, hl], ?_⟩
  cases hres : c.cfg.call fn ds m1 with
  | ok d m' =>
    rw [hres] at h1
    exact fun v H' L' st ok r => h1 H' L' st (hK ▸ ok) v (.inl (hK ▸ r))
  | err k m' =>
    rw [hres] at h1
    exact fun H' L' st ok => h1 H' L' st (hK ▸ ok)
  | stuck =>
    rw [hres] at h1
    exact h1
theorem pe_callS0 {CX : CXT} {k : Nat} {f : Addr} {fd : FuncData} {ps : List Str} {sp : Sp} {E : L2.St → XK} {x : Str} {p : Pos} (F : FnOk X.prog X.w X.K X.mg X.base CX k f fd ps sp) (hr : Room k X.A) (hg : Gl X x) (hm : X.mg x = some (.ref f)) (hk : PySem.W.keepIn X.K (.ref f) = true) (hb : Binds X.K fd ps []) (hx : ∀ σ, PassesAt CX X σ (E σ))
    (hdb : (x == ("__debug__" : Str)) = false) : PE X (.Call (.Name x p) [] [] pos) (tCallS sp E tNil) := by
  refine ⟨fun pins s σ H Q I h => ?_⟩
  refine wpAny_Call_Name_kw (ld_glob I hg hm ?_ hdb)
  exact PySem.W.callWith_K0 I.kIn hk (run_fnS (us := []) F hr hb (hx σ) I .nil h)
theorem s_call0 {n fn : Nat} {f : Addr} {fd : FuncData} {ps : List Str} {nm : Str} {p : Pos} (hK : c.K = X.K) (F : FnOk X.prog X.w X.K X.mg X.base (L2.CX X.prog X.w) n f fd ps (spD X.K c.cls 0 (c.cfg.call fn))) (hr : Room n X.A) (hg : Gl X nm) (hm : X.mg nm = some (.ref f))
    (hk : PySem.W.keepIn X.K (.ref f) = true) (hb : Binds X.K fd ps []) (pa : ∀ σ, PassesAt (L2.CX X.prog X.w) X σ (WE W σ)) (hdb : (nm == ("__debug__" : Str)) = false) : PE X (.Call (.Name nm p) [] [] pos) (TEr c W false (.call fn .nil)) := by
  refine pe_imp (pe_callS0 (E := WE W) F hr hg hm hk hb pa hdb) fun σ H Q h => ?_
  obtain ⟨G, L, m, ρ, E, h⟩ := h
  rw [evE, evEs, Res.bind_ok] at h
  show spD X.K c.cls 0 (c.cfg.call fn) [] H Q (WE W σ)
  refine ⟨G, L, m, [], E.gok, hK ▸ E.sok, .nil, rfl, ?_⟩
  cases hres : c.cfg.call fn [] m with
  | ok d m' =>
    rw [hres] at h
    exact fun v H' L' st ok r => h H' L' st (hK ▸ ok) v (.inl (hK ▸ r))
  | err k m' =>
    rw [hres] at h
    exact fun H' L' st ok => h H' L' st (hK ▸ ok)
  | stuck =>
    rw [hres] at h
    exact h
end
end MP

set_option maxRecDepth 100000
set_option maxHeartbeats 4000000
set_option autoImplicit false
namespace MP
open PySem L2 PySem.Spec PyProof.Rows

/-! ### a comprehension whose step may raise -/
abbrev blkX (X : Cx) (s : Shared) (H : Hp) (scope : Scope) (ce : Env) (fp : List Addr) : Cx :=
  { X.blk s H scope ce fp with xe := notedBy (model X.prog X.w) X.A ce (CompFails (model X.prog X.w) X.A X.xe ce) }
theorem inv_toX {X : Cx} {s3 : Shared} {H3 : Hp} {scope : Scope} {ce : Env} {fp : List Addr} {pins : List (Addr × Obj)} {σ : L2.St} {H : Hp} {s : Shared} (I : Inv (X.blk s3 H3 scope ce fp) pins σ H s) : Inv (blkX X s3 H3 scope ce fp) pins σ H s :=
  ⟨⟨I.ok.mod, I.ok.kind, I.ok.glob, I.ok.blt, I.ok.above, I.ok.inj, I.ok.has, I.ok.cab, I.ok.hd, I.ok.frames, I.ok.stk, I.ok.exf, I.ok.bs, I.ok.bsz, I.ok.noex, I.ok.exfs, I.ok.funs, I.ok.frf⟩, I.os, I.bare, I.base, I.loc, I.cell, I.free, I.freeC, I.pin, I.hok, I.len⟩
theorem ff_but {h h2 B B1 : Heap} {C : Addr} (sb : ∀ b, b ≠ C → h2.get? b = h.get? b) (hB : ∀ L, B.get? L = none → B1.get? L = none) {oC : Obj} (bC : B.get? C = some oC) : ∀ {l : List Env}, h.FunFrames B l → h2.FunFrames B1 l
  | [], _ => trivial
  | env :: l, hh => by
    obtain ⟨hk, ⟨L, o, hf, hn, ho, hd⟩, hr⟩ := hh
    have hLC : L ≠ C := fun z => by rw [z, bC] at hn; cases hn
    exact ⟨hk, ⟨L, o, hf, hB L hn, (sb L hLC).trans ho, hd⟩, ff_but sb hB bC hr⟩
theorem comp_passes {X : Cx} {W : WX} {σ : L2.St} {pins : List (Addr × Obj)} {s3 : Shared} {H3 : Hp} {scope : Scope} {ce : Env} {fp : List Addr} (tk : Takes X W) (hs : X.stack = X.env :: X.outer) (hf : X.env.frame = some X.env.locals) (hce : ce.frame = X.env.frame)
    (I3 : Inv X pins σ H3 s3) (f3 : ∀ b ∈ fp, FpOk X pins H3 b) (hC : ce.locals = s3.heap.objs.size) (σ' : L2.St) : PassesAt (L2.CX X.prog X.w) (blkX X s3 H3 scope ce fp) σ' (fun cls d H => W cls d σ H) := by
  intro pins' H' s' e s'' I c
  obtain ⟨a, B, H2, cls, d, rfl, fl, hok, ub, na, os, ag, hE⟩ := c
  have fl : HandSPX.FlyingZ B X.stack a (Zc cls d) s''.heap := fl
  have ub : UB (frs X.stack) H' H2 s'.heap B s''.heap := ub
  obtain ⟨G, g1, g2⟩ := restrict s''.heap fun b => (B.get? b).isSome || decide (b ∈ frs X.stack)
  have st : B.StaysIn s''.heap := fl.1
  have gB : ∀ b o, B.get? b = some o → G.get? b = some o := fun b o e => by
    rw [g1 b (by simp [e])]
    exact st b o e
  have gF : ∀ b, b ∈ frs X.stack → G.get? b = s''.heap.get? b := fun b hb => g1 b (by simp [hb])
  have og : ∀ b o, G.get? b = some o → s''.heap.get? b = some o ∧ ((B.get? b).isSome = true ∨ b ∈ frs X.stack) := fun b o e => by
    cases q : ((B.get? b).isSome || decide (b ∈ frs X.stack)) with
    | false => rw [g2 b q] at e; cases e
    | true =>
      rw [g1 b q] at e
      exact ⟨e, by simpa [Bool.or_eq_true] using q⟩
  have J : Inv (blkX X s3 H3 scope ce fp) pins' σ' H2 { s' with heap := G, gens := s''.gens, drawn := s''.drawn, toks := s''.toks } := by
    refine I.call (ch := []) ⟨fun b o e n hb _ => gB b o (ub.keep b o e n hb), fun b o e n hb _ => ?_, fun b o e n _ => ub.free b o e n, fun b o e _ => ?_, ub.tups, ub.frzs, ub.tbls⟩ (hok.kept gB) ag (fun _ z => nomatch z)
    · obtain ⟨sl, q⟩ := ub.slot b o e hb
      exact ⟨sl, by rw [gF b hb]; exact q⟩
    · by_cases hb : b ∈ frs X.stack
      · obtain ⟨sl, q⟩ := ub.slot b o e hb
        exact ⟨_, by rw [gF b hb]; exact q⟩
      · obtain ⟨o', q⟩ := ub.there b o e hb
        exact ⟨o', gB b o' q⟩
  have nb : ∀ b o, G.get? b = some o → b ∉ frs X.stack → B.get? b = some o := fun b o e hb => by
    obtain ⟨e', h⟩ := og b o e
    rcases h with h | h
    · obtain ⟨o', q⟩ := Option.isSome_iff_exists.mp h
      have z := st b o' q
      rw [e'] at z; cases z
      exact q
    · exact absurd h hb
  have hCf : ce.locals ∉ frs X.stack := fun hm => by
    obtain ⟨_, o, e, _⟩ := I.ok.funs.mem (show ce.locals ∈ frs X.stack from hm)
    have h1 := Heap.lt_size e
    have h2 : s3.heap.objs.size ≤ ce.locals := I.ok.above
    exact absurd (Nat.lt_of_lt_of_le h1 h2) (Nat.lt_irrefl _)
  obtain ⟨m, hnJ, _⟩ := J.loc
  have hnJ : G.Ns ce.locals m := hnJ
  obtain ⟨oC, eC⟩ : ∃ o, G.get? ce.locals = some o := let ⟨o, _, _, h, _⟩ := hnJ; ⟨o, h⟩
  have bC : B.get? ce.locals = some oC := nb _ _ eC hCf
  have nC : H2 ce.locals = none := J.free
  have IX : Inv X pins σ H2 { s' with heap := G, gens := s''.gens, drawn := s''.drawn, toks := s''.toks } := I3.call' (ch := fp) J.os J.base J.hok J.bare fun b hb => ⟨(f3 b hb).2.2.2.1, (f3 b hb).2.1, (f3 b hb).2.2.2.2.1, (f3 b hb).2.2.2.2.2⟩
  have FC : FpOk X pins H2 ce.locals := I3.fpOk (by rw [hC]; exact Nat.le_refl _) nC
  have hfr : X.A.frames = some (X.env :: X.outer) := by rw [I3.ok.frames, hs]
  show wpAny (model X.prog X.w) X.A (noteFrame (.ref a) ce) (fun _ s4 => CompFails (model X.prog X.w) X.A X.xe ce (.ref a) s4) _ s''
  have en : noteFrame (.ref a) ce = noteFrame (.ref a) X.env := by
    unfold noteFrame PySem.frameOf
    rw [hce]
  rw [en]
  have fl' : HandSPX.FlyingZ B (X.env :: X.outer) a (Zc cls d) s''.heap := by rw [← hs]; exact fl
  refine HandSPX.looks_onZ Zc.steady hfr hf fl' fun h' held up' => ?_
  obtain ⟨k1, k2, k3, oe, vs, T, oT, ts, he, hz, hd, h1, hnT, hTe, hT, hdT, h3⟩ := held
  refine ⟨m, hnJ.at (h' := h') fun o e => k1 _ o (nb _ _ e hCf), fun h2 m' hn2 sb => ?_⟩
  have aC : a ≠ ce.locals := fun z => by rw [z, bC] at k2; cases k2
  have TC : T ≠ ce.locals := fun z => by rw [z, bC] at hnT; cases hnT
  obtain ⟨B1, b1, b2⟩ := restrict B fun b => decide (b ≠ ce.locals)
  obtain ⟨G1, c1, c2⟩ := restrict G fun b => decide (b ≠ ce.locals)
  have B1of : ∀ b o, B1.get? b = some o → b ≠ ce.locals ∧ B.get? b = some o := fun b o e => by
    by_cases q : b = ce.locals
    · rw [b2 b (by simp [q])] at e; cases e
    · rw [b1 b (by simp [q])] at e; exact ⟨q, e⟩
  have G1of : ∀ b o, G1.get? b = some o → b ≠ ce.locals ∧ G.get? b = some o := fun b o e => by
    by_cases q : b = ce.locals
    · rw [c2 b (by simp [q])] at e; cases e
    · rw [c1 b (by simp [q])] at e; exact ⟨q, e⟩
  have B1none : ∀ L, B.get? L = none → B1.get? L = none := fun L hn => by
    cases q : B1.get? L with
    | none => rfl
    | some o => rw [(B1of L o q).2] at hn; cases hn
  have he2 : h2.get? a = some oe := (sb.2 a aC).trans he
  have hT2 : h2.get? T = some oT := (sb.2 T TC).trans hT
  have st2 : B1.StaysIn h2 := fun b o e => by
    obtain ⟨q1, q2⟩ := B1of b o e
    exact (sb.2 b q1).trans (k1 b o q2)
  have ff2 : h2.FunFrames B1 (X.env :: X.outer) := ff_but (fun b hb => sb.2 b hb) B1none bC k3
  have tr2 : HandSPX.TracedZ h2 B1 a (Zc cls d) (rawInt X.env.locals) := ⟨oe, vs, T, oT, ts, he2, hz, hd, h1, B1none T hnT, hTe, hT2, hdT, h3⟩
  have IX1 : Inv X pins σ H2 { s' with heap := G1, gens := s''.gens, drawn := s''.drawn, toks := s''.toks } := by
    obtain ⟨q0, q1, q2, q3, q4, q5⟩ := FC
    exact IX.turned (t' := s''.toks) (it := ce.locals) (h' := G1) (fun b o hb e => by rw [c1 b (by simp [hb])]; exact e) q0 q1 q3 q4 q5
  have up1 : ∀ h5, h2.UpToSlots h5 → G1.UpToSlots h5 := fun h5 u b o e hd => by
    obtain ⟨q1, q2⟩ := G1of b o e
    obtain ⟨sl, e1⟩ := up' b o (og b o q2).1 hd
    have e2 : h2.get? b = some { o with slots := sl } := (sb.2 b q1).trans e1
    obtain ⟨sl2, e3⟩ := u b _ e2 hd
    exact ⟨sl2, e3⟩
  unfold PySem.passOn
  refine wpAny_bind (wpAny_field he2 hd h1 ?_)
  rw [if_neg (show ¬ ((Value.ref T == Value.none) = true) from by simp)]
  have fin : wpAny (model X.prog X.w) X.A (setFlight (.ref a) ce.frame) (fun _ s4 => wpAny (model X.prog X.w) X.A (throw (.ref a) : Sem Value) (fun _ _ => False) X.xe s4) X.xe { s'' with heap := h2 } := by
    rw [hce, hf]
    refine HandSPX.setFlight_anyZ (base := B1) st2 ff2 tr2 fun h5 q1 q2 q3 q4 => wpAny_throw (tk _ _ ?_)
    exact ⟨a, B1, _, pins, σ, H2, cls, d, rfl, IX1, fun b o e hb => by
      obtain ⟨r1, r2⟩ := G1of b o e
      rw [b1 b (by simp [r1])]
      exact nb b o r2 hb, up1 h5 q4, .inr (.inr (by rw [hs]; exact ⟨q1, B1none a k2, q2, q3⟩)), na, os, ag, hE⟩
  first
    | exact wpAny_bind (wpAny_pure (wpAny_bind fin))
    | exact wpAny_bind fin
theorem thnE {α : Type} {M : Model} {A : Around} {t : Sem α} {Q Q' : α → Shared → Prop} {E : Value → Shared → Prop} {s : Shared} (h : wpAny M A t Q (fun _ _ => False) s) (hQ : ∀ a s, Q a s → Q' a s) : wpAny M A t Q' E s := wpAny_mono h hQ fun _ _ z => False.elim z
theorem lc_coreX {X : Cx} {W : WX} {pins : List (Addr × Obj)} {s : Shared} {σ : L2.St} {H : Hp} {Q : VK} {elt tg iter : Expr} {ifs : List Expr} {scope : Scope} {own : List (Str × Nat)} {pos pos' : Pos} {wi : TI} {g : TG} {tt : TT} {te : L2.St → TE} {use : Option (Value → Sem Unit)} {Qf : Value → Shared → Prop}
    (hc : X.calm = true) (tk : Takes X W) (hst : X.stack = X.env :: X.outer) (hf : X.env.frame = some X.env.locals) (hN : X.N.Nodup) (I : Inv X pins σ H s) (hi : PI X tg iter wi) (ok : BlkOk X.N X.env.scope scope own)
    (hg : ∀ (s : Shared) (H : Hp) (C : Addr) (cl : List (Str × Addr)) (fp : List Addr), PG (blkX X s H scope (compEnvC scope cl C X.env) fp) tg g) (ht : ∀ (s : Shared) (H : Hp) (C : Addr) (cl : List (Str × Addr)) (fp : List Addr), PTs (blkX X s H scope (compEnvC scope cl C X.env) fp) ifs tt)
    (he : ∀ (σ : L2.St) (s : Shared) (H : Hp) (C : Addr) (cl : List (Str × Addr)) (fp : List Addr), (∀ σ', PassesAt (L2.CX X.prog X.w) (blkX X s H scope (compEnvC scope cl C X.env) fp) σ' (fun cls d H => W cls d σ H)) → PE (blkX X s H scope (compEnvC scope cl C X.env) fp) elt (te σ)) (hs : ∀ x, foldedSetIterable iter X.env x = pure x)
    (h : tLc wi g tt (te σ) (own.map (·.2)) σ H Q)
    (hRR : ∀ D ce s' m H', Inv X pins σ H' s' → Q (.ref D) H' → s'.heap.Ns ce.locals m → FpOk X pins H' ce.locals → compEnds (model X.prog X.w) X.A X.xe use Qf (.ref D) ce (.ok .next) s') :
    wpAny (model X.prog X.w) X.A (comprehension (.ListComp elt [⟨tg, iter, ifs, 0⟩] scope pos) scope X.env pos' (newList []) false (eval iter X.env) use) Qf X.xe s := by
  have hfree : ∀ y ∈ scope.names, y.2 = .free → ∃ c, X.env.cells.lookup y.1 = some c := fun y hy e => by
    rcases ok.free y hy e with k | k
    · exact I.ok.has _ (.inl k)
    · exact I.ok.has _ (.inr k)
  refine comprehension_at (use := use) rfl hs (closure_ok hfree) ok.kind (fun y hy e => by rw [ok.uniq y hy, e])
    (thn (hi.run pins s σ H _ I h) fun xv s1 hx => thn hx fun itv s2 h2 => ?_)
  obtain ⟨it, fp, tn, J, H2, e, I2, T, st2, f2, q⟩ := h2
  subst e
  refine wpAny_newObj_type (newEnv_comp ?_) (by show 0 ≤ sizeLine; decide)
  generalize hD : s2.heap.objs.size = D
  have hDn : H2 D = none := I2.hok.fresh (Nat.le_of_eq hD)
  obtain ⟨W, ⟨m0, w0⟩, turn⟩ := q D hDn
  -- the new list
  generalize hs3 : ({ s2 with heap := s2.heap.push { cls := .type "list", data := .seq ([] : List Value).toArray } } : Shared) = s3
  have I3 : Inv X pins σ (upd H2 D (.lst [])) s3 := by
    rw [← hs3]
    refine I2.laid (t' := s2.toks) (fun b o e => Heap.get?_push_of_some _ e) (Nat.le_of_eq hD) ⟨Nat.zero_le _, [], 0, .nil, ?_⟩
    rw [← hD]
    exact Heap.get?_push_size _ rfl
  have h3 : s3.heap = s2.heap.push { cls := .type "list", data := .seq ([] : List Value).toArray } := by rw [← hs3]
  have sz : ∀ b ∈ fp, b < s2.heap.objs.size := fun b hb => by
    obtain ⟨o, e, _⟩ := T.obj _ _ st2 b hb
    exact Heap.lt_size e
  have f3 : ∀ b ∈ fp, FpOk X pins (upd H2 D (.lst [])) b ∧ b < s3.heap.objs.size := fun b hb => by
    have hlt := sz b hb
    refine ⟨⟨?_, (f2 b hb).2⟩, by rw [h3, Heap.size_push]; exact Nat.lt_succ_of_lt hlt⟩
    rw [upd_ne (by rw [← hD]; exact Nat.ne_of_lt hlt)]
    exact (f2 b hb).1
  have st3 : tn 0 s3.heap := T.keep _ _ _ st2 fun b _ o e => by rw [h3]; exact Heap.get?_push_of_some _ e
  have I4 := inv_toX (block_start I3 ok hN f3)
  have pg := hg s3 (upd H2 D (.lst [])) s3.heap.objs.size (cellsFrom (s3.heap.objs.size + 1) scope.names (cloFrom X.env.cells scope.names [])) fp
  have pt := ht s3 (upd H2 D (.lst [])) s3.heap.objs.size (cellsFrom (s3.heap.objs.size + 1) scope.names (cloFrom X.env.cells scope.names [])) fp
  have hpa := comp_passes (scope := scope) (ce := compEnvC scope (cellsFrom (s3.heap.objs.size + 1) scope.names (cloFrom X.env.cells scope.names [])) s3.heap.objs.size X.env) tk hst hf rfl I3 (fun b hb => (f3 b hb).1) rfl
  have pe := he σ s3 (upd H2 D (.lst [])) s3.heap.objs.size (cellsFrom (s3.heap.objs.size + 1) scope.names (cloFrom X.env.cells scope.names [])) fp hpa
  show codeAny _ _ (.compStart (.ListComp elt [⟨tg, iter, ifs, 0⟩] scope pos) 0 (.ref it) (.ref D) (compEnvC scope (cellsFrom (s3.heap.objs.size + 1) scope.names (cloFrom X.env.cells scope.names [])) s3.heap.objs.size X.env)) (compEnds (model X.prog X.w) X.A X.xe use Qf (.ref D) (compEnvC scope (cellsFrom (s3.heap.objs.size + 1) scope.names (cloFrom X.env.cells scope.names [])) s3.heap.objs.size X.env)) { s3 with heap := pushCells (s3.heap.push { cls := .type "dict", data := .dict #[] }) scope.names }
  have nfp : ∀ b ∈ fp, (upd H2 D (.lst [])) b = none := fun b hb => (f3 b hb).1.1
  generalize hce : compEnvC scope (cellsFrom (s3.heap.objs.size + 1) scope.names (cloFrom X.env.cells scope.names [])) s3.heap.objs.size X.env = ce at I4 pg pt pe hpa ⊢
  have cL : ce.locals = s3.heap.objs.size := by subst hce; rfl
  generalize hH3 : upd H2 D (.lst []) = H3 at I3 I4 pg pt pe hpa w0 nfp f3
  generalize hs4 : ({ s3 with heap := pushCells (s3.heap.push { cls := .type "dict", data := .dict #[] }) scope.names } : Shared) = s4 at I4 ⊢
  have st4 : tn 0 s4.heap := T.keep _ _ _ st3 fun b _ o e => by rw [← hs4]; exact pushCells_keeps _ _ _ _ (Heap.get?_push_of_some _ e)
  have stat : ∀ {σ' : L2.St} {H' : Hp} {s' : Shared}, Inv (blkX X s3 H3 scope ce fp) [] σ' H' s' → (∀ b ∈ fp, H' b = none) → ∀ b ∈ fp, FpOk (blkX X s3 H3 scope ce fp) [] H' b := fun {σ' H' s'} I' hn b hb =>
    ⟨hn b hb, (I'.ok.exf b hb).1, I'.ok.exfs b hb, .inl hb, fun x c e => (I'.ok.exf b hb).2 x c e, fun p hp => absurd (show p ∈ ([] : List (Addr × Obj)) ++ [] from hp) (by simp)⟩
  have loop : codeAny (model X.prog X.w) X.A (.compLoop (.ListComp elt [⟨tg, iter, ifs, 0⟩] scope pos) 0 (.ref it) (.ref D) ce) (compEnds (model X.prog X.w) X.A X.xe use Qf (.ref D) ce) s4 := by
    refine compLoop_any (fun n s' => ∃ i H', Inv (blkX X s3 H3 scope ce fp) [] (wipe σ (own.map (·.2))) H' s' ∧ tn i s'.heap ∧ (∀ b ∈ fp, H' b = none) ∧ W i n H') ?_ m0 ⟨0, H3, I4, st4, nfp, w0⟩
    rintro n s5 ⟨i, H5, I5, st5, n5, w5⟩
    rcases turn i n H5 w5 with ⟨stop, qq⟩ | ⟨go, Nx, hNx, step⟩
    · have td := T.done (blkX X s3 H3 scope ce fp) rfl rfl rfl hc i [] s5 _ H5 ((blkX X s3 H3 scope ce fp).xe) I5 (stat I5 n5) st5 stop
      refine thn td fun r s6 ⟨hr, I6⟩ => ?_
      subst hr
      -- back in the def's context
      have I7 : Inv X pins σ H5 s6 := I3.call' (ch := fp) I6.os I6.base I6.hok I6.bare fun b hb => ⟨(f3 b hb).1.2.2.2.1, (f3 b hb).1.2.1, (f3 b hb).1.2.2.2.2.1, (f3 b hb).1.2.2.2.2.2⟩
      have nC : H5 s3.heap.objs.size = none := by
        have z : H5 ce.locals = none := I6.free
        rw [cL] at z
        exact z
      obtain ⟨m, hn, _⟩ := I6.loc
      have hn : s6.heap.Ns ce.locals m := hn
      rw [cL] at hn
      exact hRR D ce s6 m H5 I7 qq (by rw [cL]; exact hn) (by rw [cL]; exact I3.fpOk (Nat.le_refl _) nC)
    · have ti := T.item (blkX X s3 H3 scope ce fp) rfl rfl rfl hc i [] s5 _ H5 ((blkX X s3 H3 scope ce fp).xe) I5 (stat I5 n5) st5 go
      refine thn ti fun r s6 ⟨u, hr, h6⟩ => ?_
      subst hr
      refine thn h6 fun _ s7 ⟨x, H7, I7, r7, y7, st7, n7⟩ => ?_
      have I7' := I7.pinned (stat I7 n7) (T.obj _ _ st7)
      refine thn (pg.run _ s7 _ H7 x u _ I7' r7 (step x H7 y7)) fun _ s8 ⟨σ8, H8, I8, hw8, q8⟩ => ?_
      refine thn (pt.run _ s8 σ8 H8 _ I8 q8) fun b s9 ⟨H9, I9, q9⟩ => ?_
      -- the turn's end
      have fin : ∀ {s' : Shared} {H' : Hp}, Inv (blkX X s3 H3 scope ce fp) ([] ++ pinsAt fp s7.heap) σ8 H' s' → Nx H' → ∃ m, m < n ∧ ∃ i H', Inv (blkX X s3 H3 scope ce fp) [] (wipe σ (own.map (·.2))) H' s' ∧ tn i s'.heap ∧ (∀ b ∈ fp, H' b = none) ∧ W i m H' := fun {s' H'} I' nx => by
        obtain ⟨m', hm, w'⟩ := hNx H' nx
        have pin' : ∀ b ∈ fp, ∀ o, s7.heap.get? b = some o → s'.heap.get? b = some o ∧ H' b = none := fun b hb o e =>
          let z := I'.pin (b, o) (List.mem_append_right _ (List.mem_append_right _ (mem_pinsAt hb e)))
          ⟨z.1, z.2.1⟩
        have hl : (wipe σ (own.map (·.2))).length = σ8.length := by rw [← hw8, wipe_length]
        refine ⟨m', hm, i + 1, H', (I'.unpinned (pins := [])).weak hl (fun j v e => ?_), T.keep _ _ _ st7 fun b hb o e => (pin' b hb o e).1, fun b hb => ?_, w'⟩
        · rw [← hw8] at e
          exact (wipe_some e).1
        · obtain ⟨o, e, _⟩ := T.obj _ _ st7 b hb
          exact (pin' b hb o e).2
      cases b with
      | false =>
        simp only [Bool.false_eq_true, if_false] at q9 ⊢
        exact fin I9 q9
      | true =>
        simp only [if_true] at q9 ⊢
        refine thn (pe.run _ s9 σ8 H9 _ I9 q9) fun z s10 ⟨yv, H10, I10, r10, acc, hD10, hz10, nx⟩ => ?_
        exact app_ok (X := blkX X s3 H3 scope ce fp) I10 hD10 hz10 r10 fun s11 I11 => fin I11 nx
  exact codeAny_compStart_list loop (T.self X.A 0 _ _ _ st4 loop)
theorem pe_lcX {X : Cx} {W : WX} {elt tg iter : Expr} {ifs : List Expr} {scope : Scope} {own : List (Str × Nat)} {pos : Pos} {wi : TI} {g : TG} {tt : TT} {te : L2.St → TE} (hc : X.calm = true) (tk : Takes X W) (hst : X.stack = X.env :: X.outer) (hf : X.env.frame = some X.env.locals) (hN : X.N.Nodup)
    (hi : PI X tg iter wi) (ok : BlkOk X.N X.env.scope scope own)
    (hg : ∀ (s : Shared) (H : Hp) (C : Addr) (cl : List (Str × Addr)) (fp : List Addr), PG (blkX X s H scope (compEnvC scope cl C X.env) fp) tg g) (ht : ∀ (s : Shared) (H : Hp) (C : Addr) (cl : List (Str × Addr)) (fp : List Addr), PTs (blkX X s H scope (compEnvC scope cl C X.env) fp) ifs tt)
    (he : ∀ (σ : L2.St) (s : Shared) (H : Hp) (C : Addr) (cl : List (Str × Addr)) (fp : List Addr), (∀ σ', PassesAt (L2.CX X.prog X.w) (blkX X s H scope (compEnvC scope cl C X.env) fp) σ' (fun cls d H => W cls d σ H)) → PE (blkX X s H scope (compEnvC scope cl C X.env) fp) elt (te σ)) (hs : ∀ x, foldedSetIterable iter X.env x = pure x) :
    PE X (.ListComp elt [⟨tg, iter, ifs, 0⟩] scope pos) (fun σ H Q => tLc wi g tt (te σ) (own.map (·.2)) σ H Q) := by
  refine ⟨fun pins s σ H Q I h => ?_⟩
  rw [eval_ListComp]
  refine lc_coreX hc tk hst hf hN I hi ok hg ht he hs h fun D ce s' m H' I' q hn f => ⟨m, hn, fun h'' sb => ?_⟩
  obtain ⟨f0, f1, f2, f3, f4, f5⟩ := f
  exact ⟨.ref D, H', I'.turned (t' := s'.toks) (fun b o hb e => (sb.2 b hb).trans e) f0 f1 f3 f4 f5, rfl, q⟩
end MP

set_option maxRecDepth 100000
set_option maxHeartbeats 4000000
set_option autoImplicit false
namespace MP
open PySem L2

/-! ### least and greatest texts -/
def cpV : Value → List Nat
  | .str x _ => x.cps.toList
  | _ => []
theorem cmpOf_ltS {prog : Program} {w : World} {A : Around} (vs : Array Value) (hn : ∀ v ∈ vs, ∃ x t, v = Value.str x t) :
    CmpOf prog w A .Lt (fun i v => vs[i]? = some v) (fun i j => decide (cpV (vs.getD i .none) < cpV (vs.getD j .none))) := fun i j vi vj s Q E hi hj h => by
  have e1 : vs.getD i .none = vi := by simp [Array.getD_eq_getD_getElem?, hi]
  have e2 : vs.getD j .none = vj := by simp [Array.getD_eq_getD_getElem?, hj]
  simp only [e1, e2] at h
  obtain ⟨x, t, rfl⟩ := hn _ (Array.mem_of_getElem? hi)
  obtain ⟨y, u, rfl⟩ := hn _ (Array.mem_of_getElem? hj)
  exact P.lt_str h
theorem cmpOf_gtS {prog : Program} {w : World} {A : Around} (vs : Array Value) (hn : ∀ v ∈ vs, ∃ x t, v = Value.str x t) :
    CmpOf prog w A .Gt (fun i v => vs[i]? = some v) (fun i j => decide (cpV (vs.getD j .none) < cpV (vs.getD i .none))) := fun i j vi vj s Q E hi hj h => by
  have e1 : vs.getD i .none = vi := by simp [Array.getD_eq_getD_getElem?, hi]
  have e2 : vs.getD j .none = vj := by simp [Array.getD_eq_getD_getElem?, hj]
  simp only [e1, e2] at h
  obtain ⟨x, t, rfl⟩ := hn _ (Array.mem_of_getElem? hi)
  obtain ⟨y, u, rfl⟩ := hn _ (Array.mem_of_getElem? hj)
  exact P.gt_str h
section
variable {prog : Program} {w : World} {A : Around} {E : Value → Shared → Prop} {s : Shared} {Q : Value → Shared → Prop} {x y : Str} {t u : Tok}
theorem max_two_str (hh : A.handled = none) (h : ∀ h' tk, (∀ c o, s.heap.get? c = some o → h'.get? c = some o) → Q (if decide (x.cps.toList < y.cps.toList) then .str y u else .str x t) { s with heap := h', toks := tk }) :
    wpAny (model prog w) A (call (.builtin "max") [.str x t, .str y u]) Q E s := by
  have hT : (s.heap.push { cls := .type "tuple", data := .seq #[.str x t, .str y u] }).IsTuple s.heap.objs.size #[.str x t, .str y u] := ⟨_, Heap.get?_push_size _ rfl, rfl, 0, rfl⟩
  refine call_max_two (wpAny_pyIter_tuple hT ?_)
  have hsz : (s.heap.push { cls := .type "tuple", data := .seq #[Value.str x t, Value.str y u] }).objs.size = s.heap.objs.size + 1 := Heap.size_push ..
  refine ⟨_, [_, s.heap.objs.size], [_], _, _, _, _, rfl, Walks.tuple (A := A.in1) hh _ s.heap.objs.size (by rw [hsz]; exact Nat.ne_of_lt (Nat.lt_succ_self _)) #[.str x t, .str y u],
    ⟨⟨_, Heap.get?_push_size _ rfl, rfl, rfl⟩, hT.push _⟩, fun c hc => ?_, by simp, cmpOf_gtS #[.str x t, .str y u] (by simp), fun v h' tk hP hk => ?_⟩
  · show c < ((s.heap.push _).push _).objs.size
    rw [Heap.size_push, hsz]
    rcases List.mem_cons.mp hc with rfl | hc
    · rw [hsz]; exact Nat.lt_succ_self _
    · rcases List.mem_cons.mp hc with rfl | hc
      · exact Nat.lt_succ_of_lt (Nat.lt_succ_self _)
      · cases hc
  · have hold : ∀ c o, s.heap.get? c = some o → h'.get? c = some o := fun c o e => by
      refine hk c o (fun hm => ?_) (Heap.get?_push_of_some _ (Heap.get?_push_of_some _ e))
      rcases List.mem_cons.mp hm with e1 | hm
      · have := Heap.lt_size e; rw [e1, hsz] at this; exact Nat.lt_irrefl _ (Nat.lt_of_succ_lt this)
      · cases hm
    have := h h' tk hold
    have hv : v = if decide (x.cps.toList < y.cps.toList) then .str y u else .str x t := by
      cases hc : decide (x.cps.toList < y.cps.toList)
      · have hc' := of_decide_eq_false hc
        simp [argBest, cpV, hc'] at hP
        simpa using hP.symm
      · have hc' := of_decide_eq_true hc
        simp [argBest, cpV, hc'] at hP
        simpa using hP.symm
    rw [hv]; exact this
theorem min_two_str (hh : A.handled = none) (h : ∀ h' tk, (∀ c o, s.heap.get? c = some o → h'.get? c = some o) → Q (if decide (y.cps.toList < x.cps.toList) then .str y u else .str x t) { s with heap := h', toks := tk }) :
    wpAny (model prog w) A (call (.builtin "min") [.str x t, .str y u]) Q E s := by
  have hT : (s.heap.push { cls := .type "tuple", data := .seq #[.str x t, .str y u] }).IsTuple s.heap.objs.size #[.str x t, .str y u] := ⟨_, Heap.get?_push_size _ rfl, rfl, 0, rfl⟩
  refine call_min_two (wpAny_pyIter_tuple hT ?_)
  have hsz : (s.heap.push { cls := .type "tuple", data := .seq #[Value.str x t, Value.str y u] }).objs.size = s.heap.objs.size + 1 := Heap.size_push ..
  refine ⟨_, [_, s.heap.objs.size], [_], _, _, _, _, rfl, Walks.tuple (A := A.in1) hh _ s.heap.objs.size (by rw [hsz]; exact Nat.ne_of_lt (Nat.lt_succ_self _)) #[.str x t, .str y u],
    ⟨⟨_, Heap.get?_push_size _ rfl, rfl, rfl⟩, hT.push _⟩, fun c hc => ?_, by simp, cmpOf_ltS #[.str x t, .str y u] (by simp), fun v h' tk hP hk => ?_⟩
  · show c < ((s.heap.push _).push _).objs.size
    rw [Heap.size_push, hsz]
    rcases List.mem_cons.mp hc with rfl | hc
    · rw [hsz]; exact Nat.lt_succ_self _
    · rcases List.mem_cons.mp hc with rfl | hc
      · exact Nat.lt_succ_of_lt (Nat.lt_succ_self _)
      · cases hc
  · have hold : ∀ c o, s.heap.get? c = some o → h'.get? c = some o := fun c o e => by
      refine hk c o (fun hm => ?_) (Heap.get?_push_of_some _ (Heap.get?_push_of_some _ e))
      rcases List.mem_cons.mp hm with e1 | hm
      · have := Heap.lt_size e; rw [e1, hsz] at this; exact Nat.lt_irrefl _ (Nat.lt_of_succ_lt this)
      · cases hm
    have := h h' tk hold
    have hv : v = if decide (y.cps.toList < x.cps.toList) then .str y u else .str x t := by
      cases hc : decide (y.cps.toList < x.cps.toList)
      · have hc' := of_decide_eq_false hc
        simp [argBest, cpV, hc'] at hP
        simpa using hP.symm
      · have hc' := of_decide_eq_true hc
        simp [argBest, cpV, hc'] at hP
        simpa using hP.symm
    rw [hv]; exact this
end
section
variable {X : Cx}
theorem call_maxS2 (hc : X.calm = true) : CallR X (.builtin "max") (fun xs H Q => ∃ a b : List Nat, xs = [.str (S a), .str (S b)] ∧ Q (.str (S (if ltS a b then b else a))) H) := by
  intro pins s σ H xs us Q I r h
  obtain ⟨i, j, rfl, q⟩ := h
  obtain ⟨u, w', rfl, ⟨t, rfl⟩, ⟨t', rfl⟩⟩ := vals2 r
  refine max_two_str (I.ok.hd hc) fun h' tk k => ⟨_, H, I.kept k, ?_, q⟩
  have e : decide ((S i).cps.toList < (S j).cps.toList) = ltS i j := by simp [S, ltS]
  rw [e]
  cases ltS i j
  · exact ⟨_, rfl⟩
  · exact ⟨_, rfl⟩
theorem call_minS2 (hc : X.calm = true) : CallR X (.builtin "min") (fun xs H Q => ∃ a b : List Nat, xs = [.str (S a), .str (S b)] ∧ Q (.str (S (if ltS b a then b else a))) H) := by
  intro pins s σ H xs us Q I r h
  obtain ⟨i, j, rfl, q⟩ := h
  obtain ⟨u, w', rfl, ⟨t, rfl⟩, ⟨t', rfl⟩⟩ := vals2 r
  refine min_two_str (I.ok.hd hc) fun h' tk k => ⟨_, H, I.kept k, ?_, q⟩
  have e : decide ((S j).cps.toList < (S i).cps.toList) = ltS j i := by simp [S, ltS]
  rw [e]
  cases ltS j i
  · exact ⟨_, rfl⟩
  · exact ⟨_, rfl⟩
theorem minD_S (r : List (List Nat)) : ∀ a : List Nat, PySem.W.minD (.str (S a)) (r.map fun x => PyData.str (S x)) = .str (S (minS a r)) := by
  induction r with
  | nil => exact fun _ => rfl
  | cons y r ih =>
    intro a
    have e : PySem.W.dataLt (.str (S y)) (.str (S a)) = ltS y a := by rw [PySem.W.dataLt_str]; simp [S, ltS]
    unfold minS
    rw [← ih]
    unfold PySem.W.minD
    rw [List.map_cons, List.foldl_cons, e]
    cases ltS y a <;> rfl
theorem maxD_S (r : List (List Nat)) : ∀ a : List Nat, PySem.W.maxD (.str (S a)) (r.map fun x => PyData.str (S x)) = .str (S (maxS a r)) := by
  induction r with
  | nil => exact fun _ => rfl
  | cons y r ih =>
    intro a
    have e : PySem.W.dataLt (.str (S a)) (.str (S y)) = ltS a y := by rw [PySem.W.dataLt_str]; simp [S, ltS]
    unfold maxS
    rw [← ih]
    unfold PySem.W.maxD
    rw [List.map_cons, List.foldl_cons, e]
    cases ltS a y <;> rfl
theorem readsS (h : Heap) : ∀ (ss : List (List Nat)) (vs : List Value), Vals ((ss.map S).map V.str) vs → ReadsAll h vs (ss.map fun x => PyData.str (S x)) []
  | [], _, .nil => .nil
  | s :: ss, _, .cons ⟨t, e⟩ r => by
    subst e
    exact .cons (as := []) (.str _ _) (readsS h ss _ r)
theorem alikeS (ss : List (List Nat)) : PySem.W.AlikeAll (ss.map fun x => PyData.str (S x)) := by
  refine ⟨fun x hx y hy => ?_, fun x hx => ?_⟩
  · obtain ⟨a, _, rfl⟩ := List.mem_map.mp hx
    obtain ⟨b, _, rfl⟩ := List.mem_map.mp hy
    rfl
  · obtain ⟨a, _, rfl⟩ := List.mem_map.mp hx
    intro e
    cases e
theorem depS : ∀ ss : List (List Nat), PyData.depthAll (ss.map fun x => PyData.str (S x)) ≤ 1
  | [] => by rw [List.map_nil, PyData.depthAll]; exact Nat.zero_le _
  | s :: ss => by
    rw [List.map_cons, PyData.depthAll]
    exact Nat.max_le.mpr ⟨by rw [PyData.depth] <;> decide, depS ss⟩
theorem call_minSs (hc : X.calm = true) (hu : X.A.units + 65 < cLine) : CallR X (.builtin "min") (fun xs H Q => ∃ (a : Addr) (x : List Nat) (ss : List (List Nat)), xs = [.ref a] ∧ (SqL X.K H a (((x :: ss).map S).map V.str) ∨ SqT X.K H a (((x :: ss).map S).map V.str)) ∧ Q (.str (S (minS x ss))) H) := by
  intro pins s σ H xs us Q I r h
  obtain ⟨a, x, ss, rfl, hs, q⟩ := h
  have hd := depS (x :: ss)
  rw [Vals.ref1 r]
  rcases hs with hs | hs
  · obtain ⟨its, rv, hl, _⟩ := I.list hs
    refine PySem.W.min_list_data (vs := its.toArray) (I.ok.hd hc) hl.isList (readsS s.heap (x :: ss) its rv) (alikeS (x :: ss)) (by show X.A.units + 1 + PyData.depthAll ((x :: ss).map fun x => PyData.str (S x)) < _; omega) fun i v h' tk bs _ rd k => ?_
    have e := minD_S ss x
    have rd : Reads h' v (PySem.W.minD (.str (S x)) (ss.map fun x => PyData.str (S x))) bs := rd
    rw [e] at rd
    cases rd
    exact ⟨.str (S (minS x ss)), H, I.kept k, ⟨_, rfl⟩, q⟩
  · obtain ⟨its, rv, hl, _⟩ := I.tuple hs
    refine PySem.W.min_tuple_data (vs := its.toArray) (I.ok.hd hc) hl (readsS s.heap (x :: ss) its rv) (alikeS (x :: ss)) (by show X.A.units + 1 + PyData.depthAll ((x :: ss).map fun x => PyData.str (S x)) < _; omega) fun i v h' tk bs _ rd k => ?_
    have e := minD_S ss x
    have rd : Reads h' v (PySem.W.minD (.str (S x)) (ss.map fun x => PyData.str (S x))) bs := rd
    rw [e] at rd
    cases rd
    exact ⟨.str (S (minS x ss)), H, I.kept k, ⟨_, rfl⟩, q⟩
theorem call_maxSs (hc : X.calm = true) (hu : X.A.units + 65 < cLine) : CallR X (.builtin "max") (fun xs H Q => ∃ (a : Addr) (x : List Nat) (ss : List (List Nat)), xs = [.ref a] ∧ (SqL X.K H a (((x :: ss).map S).map V.str) ∨ SqT X.K H a (((x :: ss).map S).map V.str)) ∧ Q (.str (S (maxS x ss))) H) := by
  intro pins s σ H xs us Q I r h
  obtain ⟨a, x, ss, rfl, hs, q⟩ := h
  have hd := depS (x :: ss)
  rw [Vals.ref1 r]
  rcases hs with hs | hs
  · obtain ⟨its, rv, hl, _⟩ := I.list hs
    refine PySem.W.max_list_data (vs := its.toArray) (I.ok.hd hc) hl.isList (readsS s.heap (x :: ss) its rv) (alikeS (x :: ss)) (by show X.A.units + 1 + PyData.depthAll ((x :: ss).map fun x => PyData.str (S x)) < _; omega) fun i v h' tk bs _ rd k => ?_
    have e := maxD_S ss x
    have rd : Reads h' v (PySem.W.maxD (.str (S x)) (ss.map fun x => PyData.str (S x))) bs := rd
    rw [e] at rd
    cases rd
    exact ⟨.str (S (maxS x ss)), H, I.kept k, ⟨_, rfl⟩, q⟩
  · obtain ⟨its, rv, hl, _⟩ := I.tuple hs
    refine PySem.W.max_tuple_data (vs := its.toArray) (I.ok.hd hc) hl (readsS s.heap (x :: ss) its rv) (alikeS (x :: ss)) (by show X.A.units + 1 + PyData.depthAll ((x :: ss).map fun x => PyData.str (S x)) < _; omega) fun i v h' tk bs _ rd k => ?_
    have e := maxD_S ss x
    have rd : Reads h' v (PySem.W.maxD (.str (S x)) (ss.map fun x => PyData.str (S x))) bs := rd
    rw [e] at rd
    cases rd
    exact ⟨.str (S (maxS x ss)), H, I.kept k, ⟨_, rfl⟩, q⟩
end
/-! ### dict of pairs -/
section
variable {K : PySem.W.Frag} {A : Nat → Option Addr} {H : Hp}
inductive RepK (K : PySem.W.Frag) (A : Nat → Option Addr) (H : Hp) : List (Key × V) → List (Key × D) → Prop
  | nil : RepK K A H [] []
  | cons {k : Key} {v : V} {vs : List (Key × V)} {d : D} {ds : List (Key × D)} : KeyZ k → Rep K A H v d → RepK K A H vs ds → RepK K A H ((k, v) :: vs) ((k, d) :: ds)
theorem RepK.repk : ∀ {vs : List (Key × V)} {ds : List (Key × D)}, RepK K A H vs ds → Repk K A H vs (kdD ds)
  | _, _, .nil => .nil
  | _, _, .cons z h r => .cons z h r.repk
theorem RepK.append : ∀ {vs ws : List (Key × V)} {ds es : List (Key × D)}, RepK K A H vs ds → RepK K A H ws es → RepK K A H (vs ++ ws) (ds ++ es)
  | _, _, _, _, .nil, s => s
  | _, _, _, _, .cons z h t, s => .cons z h (RepK.append t s)
theorem RepK.any {k : Key} : ∀ {vs : List (Key × V)} {ds : List (Key × D)}, RepK K A H vs ds → (vs.any fun kv => decide (kv.1 = k)) = (ds.any fun kv => decide (kv.1 = k))
  | _, _, .nil => rfl
  | _, _, .cons _ h r => by rw [List.any_cons, List.any_cons, r.any]
theorem RepK.map {k : Key} {v : V} {d : D} (q : Rep K A H v d) : ∀ {vs : List (Key × V)} {ds : List (Key × D)}, RepK K A H vs ds → RepK K A H (vs.map fun kv => if kv.1 = k then (kv.1, v) else kv) (ds.map fun kv => if kv.1 = k then (kv.1, d) else kv)
  | _, _, .nil => .nil
  | _, _, .cons (k := k') z h r => by
    rw [List.map_cons, List.map_cons]
    by_cases e : k' = k
    · rw [if_pos e, if_pos e]
      exact .cons z q (r.map q)
    · rw [if_neg e, if_neg e]
      exact .cons z h (r.map q)
theorem RepK.put {k : Key} {v : V} {d : D} (z : KeyZ k) (q : Rep K A H v d) {vs : List (Key × V)} {ds : List (Key × D)} (r : RepK K A H vs ds) : RepK K A H (putK vs k v) (putDK ds k d) := by
  unfold putK putDK
  rw [r.any (k := k)]
  split
  · exact r.map q
  · exact r.append (.cons z q .nil)
theorem RepK.merge : ∀ {ws : List (Key × V)} {es : List (Key × D)} {vs : List (Key × V)} {ds : List (Key × D)}, RepK K A H ws es → RepK K A H vs ds → RepK K A H (mergeK vs ws) (mergeDK ds es)
  | _, _, _, _, .nil, s => s
  | _, _, _, _, .cons (k := k) z h t, s => by
    have h2 := s.put (k := k) z h
    have q := RepK.merge t h2
    exact q
theorem length_putDK (l : List (Key × D)) (k : Key) (v : D) : (putDK l k v).length ≤ l.length + 1 := by
  unfold putDK
  split
  · rw [List.length_map]; exact Nat.le_succ _
  · rw [List.length_append]; exact Nat.le_refl _
theorem length_mergeDK : ∀ (more l : List (Key × D)), (mergeDK l more).length ≤ l.length + more.length
  | [], l => Nat.le_refl _
  | p :: r, l => by
    have h1 := length_mergeDK r (putDK l p.1 p.2)
    have h2 := length_putDK l p.1 p.2
    have e : mergeDK l (p :: r) = mergeDK (putDK l p.1 p.2) r := rfl
    rw [e, List.length_cons]
    omega
theorem pairsOf_len : ∀ {l : List D} {ps : List (Key × D)}, pairsOf l = some ps → ps.length = l.length
  | [], _, h => by cases h; rfl
  | d :: l, ps, h => by
    unfold pairsOf at h
    split at h
    · rename_i e; cases e
    · rename_i k v r e
      cases e
      split at h
      · obtain ⟨ps', h', e⟩ := Option.map_eq_some_iff.mp h
        subst e
        rw [List.length_cons, List.length_cons, pairsOf_len h']
      · cases h
    · cases h
theorem paired_imp {α β : Type} {F F' : α → β → Prop} (h : ∀ a b, F a b → F' a b) : ∀ {l : List α} {m : List β}, Paired F l m → Paired F' l m
  | _, _, .nil => .nil
  | _, _, .cons q r => .cons (h _ _ q) (paired_imp h r)
theorem pairs_rep : ∀ {l : List D} {ps : List (Key × D)} {vs : List V}, pairsOf l = some ps → Reps K A H vs l → ∃ (as : List Addr) (kvs : List (Key × V)), vs = as.map V.ref ∧ Paired (fun p kv => SqT K H p [kV kv.1, kv.2]) as kvs ∧ RepK K A H kvs ps
  | [], _, _, h, r => by
    cases h
    cases r
    exact ⟨[], [], rfl, .nil, .nil⟩
  | d :: l, ps, _, h, r => by
    unfold pairsOf at h
    split at h
    · rename_i e; cases e
    · rename_i k v r' e
      cases e
      split at h
      · rename_i q hq
        obtain ⟨ps', h', e⟩ := Option.map_eq_some_iff.mp h
        subst e
        cases r with
        | cons h0 rs =>
          cases h0 with
          | tup ht rt z =>
            cases rt with
            | cons hk rt => cases rt with
              | cons hv rt => cases rt with
                | nil =>
                  obtain ⟨as, kvs, e1, e2, e3⟩ := pairs_rep h' rs
                  subst e1
                  refine ⟨_ :: as, (q, _) :: kvs, rfl, .cons ?_ e2, .cons ?_ hv e3⟩
                  · cases hk <;> simp [keyOf] at hq <;> subst hq <;> exact ht
                  · cases hk <;> simp [keyOf] at hq <;> subst hq
                    · exact trivial
                    · show (tl (S _)).length ≤ sizeLine
                      rw [tl_S]
                      assumption
      · cases h
    · cases h
theorem keysS_rep : ∀ {l : List (D × D)} {ss : List (List Nat)} {kvs : List (Key × V)}, keysS l = some ss → Repk K A H kvs l → kvs.map (·.1) = (ss.map S).map Sum.inr ∧ ss.length = l.length
  | [], _, _, h, r => by
    cases h
    cases r
    exact ⟨rfl, rfl⟩
  | (d, d2) :: l, ss, _, h, r => by
    cases r with
    | @cons k _ _ _ _ _ hv r =>
      cases k with
      | inl i => simp [keyD, keysS] at h
      | inr s =>
        simp only [keyD, keysS] at h
        obtain ⟨ss', h', e⟩ := Option.map_eq_some_iff.mp h
        subst e
        obtain ⟨e1, e2⟩ := keysS_rep h' r
        refine ⟨?_, by rw [List.length_cons, List.length_cons, e2]⟩
        rw [List.map_cons, e1, List.map_cons, List.map_cons, S_tl]
theorem keysS_sz : ∀ {l : List (D × D)} {ss : List (List Nat)} {kvs : List (Key × V)}, keysS l = some ss → Repk K A H kvs l → ∀ s ∈ ss, s.length ≤ sizeLine
  | [], _, _, h, r, _, hs => by
    cases h
    cases hs
  | (d, d2) :: l, ss, _, h, r, s, hs => by
    cases r with
    | @cons k _ _ _ _ z hv r =>
      cases k with
      | inl i => simp [keyD, keysS] at h
      | inr x =>
        simp only [keyD, keysS] at h
        obtain ⟨ss', h', e⟩ := Option.map_eq_some_iff.mp h
        subst e
        rcases List.mem_cons.mp hs with e | e
        · rw [e]; exact z
        · exact keysS_sz h' r s e
end
section
variable {c : Cn} {W : WX} {G : Addr → Prop} {L : Lay} {m : Mu} {ρ : Env'} {σ : L2.St} {H : Hp} {b : Bool} {Q : VK}
theorem Pst.dic {ds : List (D × D)} {vs : List (Key × V)} {p : Addr} (E : ESt c.K c.own G L m ρ σ H) (h : Pst c W b G L σ H Q (.ok (.dic ds) m)) (r : Repk c.K (AL L) (hide (Bd G L) H) vs ds) (z : ds.length ≤ sizeLine) (n : H p = none) : Q (.ref p) (L2.upd H p (.dK vs)) := by
  have nb := E.nb E.sok.foot n
  refine h _ L (Stp.upd n) (E.sok.upd n) _ (.inl (.dic (.inl (Rep.new n nb)) ?_ z))
  exact r.mono (Stp.upd n).hid fun _ _ h => h
end
end MP

set_option maxRecDepth 100000
set_option maxHeartbeats 4000000
set_option autoImplicit false
namespace MP
open PySem L2

/-! ### sorting -/
section
variable {α : Type} {le : α → α → Bool}
theorem putIn_perm (x : α) : ∀ l : List α, (putIn le x l).Perm (x :: l)
  | [] => List.Perm.refl _
  | y :: r => by
    unfold putIn
    split
    · exact List.Perm.refl _
    · exact ((putIn_perm x r).cons y).trans (List.Perm.swap x y r)
theorem sortL_perm : ∀ l : List α, (sortL le l).Perm l
  | [] => List.Perm.refl _
  | x :: r => (putIn_perm x _).trans ((sortL_perm r).cons x)
theorem putIn_pw (tot : ∀ a b, le a b = false → le b a = true) (tr : ∀ a b c, le a b = true → le b c = true → le a c = true) (x : α) : ∀ l : List α, l.Pairwise (fun a b => le a b = true) → (putIn le x l).Pairwise (fun a b => le a b = true)
  | [], _ => List.pairwise_singleton _ _
  | y :: r, h => by
    rw [List.pairwise_cons] at h
    unfold putIn
    split
    · rename_i hxy
      refine List.pairwise_cons.mpr ⟨fun z hz => ?_, List.pairwise_cons.mpr h⟩
      rcases List.mem_cons.mp hz with hz | hz
      · rw [hz]; exact hxy
      · exact tr _ _ _ hxy (h.1 z hz)
    · rename_i hxy
      refine List.pairwise_cons.mpr ⟨fun z hz => ?_, putIn_pw tot tr x r h.2⟩
      rcases List.mem_cons.mp ((putIn_perm x r).mem_iff.mp hz) with hz | hz
      · rw [hz]; exact tot _ _ (by simpa using hxy)
      · exact h.1 z hz
theorem sortL_pw (tot : ∀ a b, le a b = false → le b a = true) (tr : ∀ a b c, le a b = true → le b c = true → le a c = true) : ∀ l : List α, (sortL le l).Pairwise (fun a b => le a b = true)
  | [] => .nil
  | x :: r => putIn_pw tot tr x _ (sortL_pw tot tr r)
theorem sortL_uniq (tot : ∀ a b, le a b = false → le b a = true) (tr : ∀ a b c, le a b = true → le b c = true → le a c = true) (anti : ∀ a b, le a b = true → le b a = true → a = b) {l ys : List α} (p : ys.Perm l) (h : ys.Pairwise (fun a b => le a b = true)) : ys = sortL le l :=
  List.Perm.eq_of_pairwise (fun a b _ _ h1 h2 => anti a b h1 h2) h (sortL_pw tot tr l) (p.trans (sortL_perm l).symm)
end
theorem leS_iff (a b : List Nat) : leS a b = true ↔ a ≤ b := by
  unfold leS ltS
  rw [Bool.not_eq_true', decide_eq_false_iff_not]
  exact List.not_lt
theorem leS_tot (a b : List Nat) (h : leS a b = false) : leS b a = true := by
  rw [leS_iff]
  rcases List.le_total a b with q | q
  · rw [(leS_iff a b).mpr q] at h; cases h
  · exact q
theorem leS_tr (a b c : List Nat) (h : leS a b = true) (h2 : leS b c = true) : leS a c = true := by
  rw [leS_iff] at *
  exact List.le_trans h h2
theorem leS_anti (a b : List Nat) (h : leS a b = true) (h2 : leS b a = true) : a = b := by
  rw [leS_iff] at *
  exact List.le_antisymm h h2
theorem sortedS_pw : ∀ (ys : List Str), PyProof.Rows.sortedS ys = true → (ys.map tl).Pairwise (fun a b => leS a b = true)
  | [], _ => .nil
  | x :: r, h => by
    have go : ∀ (p : Str) (r : List Str), PyProof.Rows.risingS p r = true → ((p :: r).map tl).Pairwise (fun a b => leS a b = true) := fun p r => by
      induction r generalizing p with
      | nil => exact fun _ => List.pairwise_singleton _ _
      | cons y r ih =>
        intro h
        unfold PyProof.Rows.risingS at h
        rw [Bool.and_eq_true] at h
        have h2 := ih y h.2
        have h1 : leS (tl p) (tl y) = true := by
          have := h.1
          rw [PyProof.Rows.ltCps_eq] at this
          exact this
        rw [List.map_cons, List.map_cons]
        rw [List.map_cons] at h2
        refine List.pairwise_cons.mpr ⟨fun z hz => ?_, h2⟩
        rcases List.mem_cons.mp hz with hz | hz
        · rw [hz]; exact h1
        · exact leS_tr _ _ _ h1 ((List.pairwise_cons.mp h2).1 z hz)
    exact go x r h

section
variable {K : PySem.W.Frag} {A : Nat → Option Addr} {H : Hp}
theorem ints_of : ∀ {l : List D} {ns : List Int} {vs : List V}, intsOf l = some ns → Reps K A H vs l → vs = ns.map V.int
  | [], _, _, h, r => by
    cases h
    cases r
    rfl
  | .int i :: l, ns, _, h, r => by
    unfold intsOf at h
    obtain ⟨ns', h', e⟩ := Option.map_eq_some_iff.mp h
    subst e
    cases r with
    | cons r rs =>
      cases r
      rw [ints_of h' rs]
      rfl
  | .non :: _, _, _, h, _ => by cases h
  | .bl _ :: _, _, _, h, _ => by cases h
  | .str _ :: _, _, _, h, _ => by cases h
  | .tup _ :: _, _, _, h, _ => by cases h
  | .lst _ :: _, _, _, h, _ => by cases h
  | .dic _ :: _, _, _, h, _ => by cases h
  | .obj _ :: _, _, _, h, _ => by cases h
  | .exc _ :: _, _, _, h, _ => by cases h
theorem strs_of : ∀ {l : List D} {ss : List (List Nat)} {vs : List V}, strsOf l = some ss → Reps K A H vs l → vs = (ss.map S).map V.str ∧ ∀ s ∈ ss, s.length ≤ sizeLine
  | [], _, _, h, r => by
    cases h
    cases r
    exact ⟨rfl, fun _ q => by cases q⟩
  | .str s :: l, ns, _, h, r => by
    unfold strsOf at h
    obtain ⟨ns', h', e⟩ := Option.map_eq_some_iff.mp h
    subst e
    cases r with
    | cons r rs =>
      cases r with
      | str _ z =>
        obtain ⟨e1, e2⟩ := strs_of h' rs
        rw [e1]
        exact ⟨rfl, fun s hs => (List.mem_cons.mp hs).elim (fun e => by rw [e]; exact z) (e2 s)⟩
  | .non :: _, _, _, h, _ => by cases h
  | .bl _ :: _, _, _, h, _ => by cases h
  | .int _ :: _, _, _, h, _ => by cases h
  | .tup _ :: _, _, _, h, _ => by cases h
  | .lst _ :: _, _, _, h, _ => by cases h
  | .dic _ :: _, _, _, h, _ => by cases h
  | .obj _ :: _, _, _, h, _ => by cases h
  | .exc _ :: _, _, _, h, _ => by cases h
theorem bls_of : ∀ {l : List D} {ss : List Bool} {vs : List V}, blsOf l = some ss → Reps K A H vs l → vs = ss.map V.bl
  | [], _, _, h, r => by
    cases h
    cases r
    rfl
  | .bl s :: l, ns, _, h, r => by
    unfold blsOf at h
    obtain ⟨ns', h', e⟩ := Option.map_eq_some_iff.mp h
    subst e
    cases r with
    | cons r rs =>
      cases r
      rw [bls_of h' rs]
      rfl
  | .non :: _, _, _, h, _ => by cases h
  | .str _ :: _, _, _, h, _ => by cases h
  | .int _ :: _, _, _, h, _ => by cases h
  | .tup _ :: _, _, _, h, _ => by cases h
  | .lst _ :: _, _, _, h, _ => by cases h
  | .dic _ :: _, _, _, h, _ => by cases h
  | .obj _ :: _, _, _, h, _ => by cases h
  | .exc _ :: _, _, _, h, _ => by cases h
theorem reps_int : ∀ (ns : List Int), Reps K A H (ns.map V.int) (ns.map D.int)
  | [] => .nil
  | n :: ns => .cons (.int n) (reps_int ns)
theorem reps_str : ∀ (ss : List (List Nat)), (∀ s ∈ ss, s.length ≤ sizeLine) → Reps K A H ((ss.map S).map V.str) (ss.map D.str)
  | [], _ => .nil
  | s :: ss, h => .cons (.str s (h s List.mem_cons_self)) (reps_str ss fun t ht => h t (List.mem_cons_of_mem _ ht))
theorem mt_sindexF {X : Cx} : MtR X "str.index" (fun x xs H Q => ∃ a b i k rest, x = .str a ∧ xs = [.str b, .int i] ∧ Builtin.Str.occurrences a b (PySem.fromIndex a.length i) a.length 1 = k :: rest ∧ Q (.int (k : Nat)) H) := by
  intro pins s σ H x xs v us Q I rx rs h
  obtain ⟨a, b, i, k, rest, e1, e2, ho, q⟩ := h
  subst e1
  subst e2
  obtain ⟨t, e⟩ := rx
  subst e
  cases rs with
  | cons r1 rs =>
    cases rs with
    | cons r2 rs =>
      cases rs
      obtain ⟨u, e⟩ := r1
      subst e
      obtain ⟨z, e⟩ := r2
      subst e
      exact call_gives PySem.F.slot_str_index (typeIs_str _ _ _) PySem.F.entry_str_index (PySem.F.args_str_index_3 _ _ _) (gives_str_index_from a b i t u z k rest ho) ⟨.int (k : Nat), H, I.tok _, ⟨_, rfl⟩, q⟩
theorem minS_sz {n : Nat} : ∀ {ss : List (List Nat)} {x : List Nat}, (∀ s ∈ x :: ss, s.length ≤ n) → (minS x ss).length ≤ n
  | [], x, h => h x List.mem_cons_self
  | y :: r, x, h => by
    unfold minS
    refine minS_sz fun s hs => ?_
    rcases List.mem_cons.mp hs with e | e
    · rw [e]
      split
      · exact h y (List.mem_cons_of_mem _ List.mem_cons_self)
      · exact h x List.mem_cons_self
    · exact h s (List.mem_cons_of_mem _ (List.mem_cons_of_mem _ e))
theorem maxS_sz {n : Nat} : ∀ {ss : List (List Nat)} {x : List Nat}, (∀ s ∈ x :: ss, s.length ≤ n) → (maxS x ss).length ≤ n
  | [], x, h => h x List.mem_cons_self
  | y :: r, x, h => by
    unfold maxS
    refine maxS_sz fun s hs => ?_
    rcases List.mem_cons.mp hs with e | e
    · rw [e]
      split
      · exact h y (List.mem_cons_of_mem _ List.mem_cons_self)
      · exact h x List.mem_cons_self
    · exact h s (List.mem_cons_of_mem _ (List.mem_cons_of_mem _ e))
theorem Repk.length : ∀ {v : List (Key × V)} {d : List (D × D)}, Repk K A H v d → v.length = d.length
  | _, _, .nil => rfl
  | _, _, .cons _ _ r => congrArg (· + 1) (Repk.length r)
theorem len_of {l : List D} {vs : List V} (r : Reps K A H vs l) : vs.length = l.length := r.length
end
def biName : BI → Str
  | .len => "len" | .sum => "sum" | .sorted => "sorted" | .min => "min" | .max => "max" | .all => "all" | .any => "any" | .list => "list" | .tuple => "tuple" | .str => "str" | .int => "int" | .dict => "dict"
def biVal : BI → Value
  | .len => .builtin "len" | .sum => .builtin "sum" | .sorted => .builtin "sorted" | .min => .builtin "min" | .max => .builtin "max" | .all => .builtin "all" | .any => .builtin "any" | .list => .type "list" | .tuple => .type "tuple" | .str => .type "str" | .int => .type "int" | .dict => .type "dict"
theorem callNo {X : Cx} {f : Value} : CallR X f (fun _ _ _ => False) := fun _ _ _ _ _ _ _ _ _ h => h.elim
section
variable {X : Cx} {c : Cn} {W : WX} {b : Bool} {ea eb ec : E} {x y z : Expr} {pos : Pos}
theorem call_lenR : CallR X (.builtin "len") (fun xs H Q => ∃ a kvs, xs = [V.ref a] ∧ Rd H a (.dK kvs) ∧ Q (.int kvs.length) H) := by
  intro pins s σ H xs us Q I r h
  obtain ⟨a, kvs, rfl, ha, q⟩ := h
  obtain ⟨u, rfl, ru⟩ := vals1 r
  cases ru
  exact d_len I ha fun t s' I' => ⟨.int kvs.length, H, I', ⟨t, rfl⟩, q⟩
def rListStr : List V → Hp → VK → Prop := fun xs H Q => ∃ s, xs = [V.str (S s)] ∧ s.length ≤ sizeLine ∧ ∀ p, H p = none → Q (.ref p) (upd H p (.lst (s.map fun ch => V.str (S [ch]))))
theorem call_listStr (hc : X.calm = true) : CallR X (.type "list") rListStr := by
  intro pins s σ H xs us Q I r h
  obtain ⟨t, rfl, z, q⟩ := h
  obtain ⟨u, rfl, tk, rfl⟩ := vals1 r
  refine PySem.call_list_str (I.ok.hd hc) (S t) tk (fun h' k acc' c' hk hS hacc => ?_) (by simpa [S] using z)
  refine ⟨.ref s.heap.objs.size, upd H s.heap.objs.size (.lst (t.map fun ch => V.str (S [ch]))), I.laid (t' := k) hk (Nat.le_refl _) ?_, rfl, q _ I.fresh⟩
  have hl : acc'.toList.length = t.length := by
    have := hacc.1
    rw [Array.length_toList, this]
    simp [S]
  refine ⟨by rw [List.length_map]; exact z, acc'.toList, c', ?_, hS⟩
  have key : ∀ (us : List V) (ws : List Value), us.length = ws.length → (∀ (j : Nat) (v : V) (w : Value), us[j]? = some v → ws[j]? = some w → RelV v w) → Vals us ws := fun us => by
    induction us with
    | nil => intro ws hl _; cases ws with
      | nil => exact .nil
      | cons _ _ => cases hl
    | cons v us ih =>
      intro ws hl h
      cases ws with
      | nil => cases hl
      | cons w ws => exact .cons (h 0 v w rfl rfl) (ih ws (by simpa using hl) fun j => h (j + 1))
  refine key _ _ (by rw [List.length_map, hl]) fun j v w h1 h2 => ?_
  have hj : j < t.length := by
    have := (List.getElem?_eq_some_iff.mp h1).1
    rw [List.length_map] at this
    exact this
  obtain ⟨ch, hch, ev⟩ := by
    rw [List.getElem?_map] at h1
    exact Option.map_eq_some_iff.mp h1
  subst ev
  obtain ⟨c1, u1, h3, h4⟩ := hacc.2 j w (by rw [← Array.getElem?_toList]; exact h2)
  have h5 : t[j]? = some c1 := by simpa [S] using h3
  rw [hch] at h5
  cases h5
  exact ⟨u1, h4⟩
/-- the rule of a built-in function whose answer is known -/
theorem bi_rule (hc : X.calm = true) (hu : X.A.units + 65 < cLine) (o : BI) (ds : List D) (z : D) (h : biD o ds = some z) : ∃ R : List V → Hp → VK → Prop, CallR X (biVal o) R ∧ ∀ (G : Addr → Prop) (L : Lay) (m : Mu) (ρ : Env') (σ : L2.St) (H : Hp) (Q : VK) (vs : List V), ESt X.K c.own G L m ρ σ H → RBs X.K b G L H vs ds → Pst c W false G L σ H Q (.ok z m) → (hK : c.K = X.K) → R vs H Q := by
  have one : ∀ {G : Addr → Prop} {L : Lay} {H : Hp} {vs : List V} {d : D}, RBs X.K b G L H vs [d] → ∃ v, vs = [v] ∧ RB X.K b G L H v d := fun r => by
    cases r with
    | cons r rs => cases rs; exact ⟨_, rfl, r⟩
  have two : ∀ {G : Addr → Prop} {L : Lay} {H : Hp} {vs : List V} {d e : D}, RBs X.K b G L H vs [d, e] → ∃ v w, vs = [v, w] ∧ RB X.K b G L H v d ∧ RB X.K b G L H w e := fun r => by
    cases r with
    | cons r rs => cases rs with
      | cons r2 rs => cases rs; exact ⟨_, _, rfl, r, r2⟩
  unfold biD at h
  split at h
  · cases h
    refine ⟨_, call_len, fun G L m ρ σ H Q vs E r0 q hK => ?_⟩
    obtain ⟨v, e, r⟩ := one r0
    obtain ⟨a, ws, e1, hr, rs, hz⟩ := r.lst
    subst e e1
    exact ⟨_, ws.length, rfl, .inl ⟨ws, hr, rfl⟩, by rw [rs.length]; exact q H L (Stp.refl _ _) (hK ▸ E.sok) _ (.inl (.int _))⟩
  · cases h
    refine ⟨_, call_len, fun G L m ρ σ H Q vs E r0 q hK => ?_⟩
    obtain ⟨v, e, r⟩ := one r0
    obtain ⟨a, ws, e1, hr, rs, hz⟩ := r.tup
    subst e e1
    exact ⟨_, ws.length, rfl, .inr ⟨ws, hr, rfl⟩, by rw [rs.length]; exact q H L (Stp.refl _ _) (hK ▸ E.sok) _ (.inl (.int _))⟩
  · cases h
    refine ⟨_, call_len, fun G L m ρ σ H Q vs E r0 q hK => ?_⟩
    obtain ⟨v, e, r⟩ := one r0
    rw [r.str.1] at e
    subst e
    exact ⟨_, _, rfl, ⟨by rw [S_len]; exact r.str.2, rfl⟩, by rw [S_len]; exact q H L (Stp.refl _ _) (hK ▸ E.sok) _ (.inl (.int _))⟩
  · cases h
    refine ⟨_, call_lenR, fun G L m ρ σ H Q vs E r0 q hK => ?_⟩
    obtain ⟨v, e, r⟩ := one r0
    obtain ⟨a, ws, e1, hr, rs, hz⟩ := r.dic
    subst e e1
    have hl : ws.length = _ := Repk.length rs
    exact ⟨_, ws, rfl, hr, by rw [hl]; exact q H L (Stp.refl _ _) (hK ▸ E.sok) _ (.inl (.int _))⟩
  · obtain ⟨ns, hn, ez⟩ := Option.map_eq_some_iff.mp h
    subst ez
    refine ⟨_, cr_sum hc, fun G L m ρ σ H Q vs E r0 q hK => ?_⟩
    obtain ⟨v, e, r⟩ := one r0
    obtain ⟨a, ws, e1, hr, rs, hz⟩ := r.lst
    subst e e1
    exact ⟨a, ns, rfl, by rw [← ints_of hn rs]; exact hr, q H L (Stp.refl _ _) (hK ▸ E.sok) _ (.inl (.int _))⟩
  · rename_i l
    split at h
    · rename_i h64
      cases hn : intsOf l with
      | some ns =>
        rw [hn] at h
        cases h
        refine ⟨_, cr_sorted, fun G L m ρ σ H Q vs E r0 q hK => ?_⟩
        obtain ⟨v, e, r⟩ := one r0
        obtain ⟨a, ws, e1, hr, rs, hz⟩ := r.lst
        subst e e1
        have ew := ints_of hn rs
        have hlen : ns.length = l.length := by rw [← rs.length, ew, List.length_map]
        refine ⟨a, ns, rfl, by rw [← ew]; exact hr, by rw [hlen]; exact h64, fun ns' p hp hs n => ?_⟩
        have eu : ns' = sortL (fun a b => decide (a ≤ b)) ns := sortL_uniq (fun a b h => by simp at h ⊢; omega) (fun a b c h h2 => by simp at h h2 ⊢; omega) (fun a b h h2 => by simp at h h2; omega) hp (hs.imp fun h => by simpa using h)
        rw [eu]
        exact Pst.lst (c := c) (hK ▸ E) q (hK ▸ reps_int _) (by rw [List.length_map, (sortL_perm ns).length_eq, hlen]; exact small64 h64) n
      | none =>
        rw [hn] at h
        cases hn2 : strsOf l with
        | none => rw [hn2] at h; cases h
        | some ss =>
          rw [hn2] at h
          cases h
          refine ⟨_, cr_sortedS, fun G L m ρ σ H Q vs E r0 q hK => ?_⟩
          obtain ⟨v, e, r⟩ := one r0
          obtain ⟨a, ws, e1, hr, rs, hz⟩ := r.lst
          subst e e1
          obtain ⟨ew, hsz⟩ := strs_of hn2 rs
          have hlen : ss.length = l.length := by rw [← rs.length, ew, List.length_map, List.length_map]
          refine ⟨a, ss.map S, rfl, by rw [← ew]; exact hr, by rw [List.length_map, hlen]; exact h64, fun ys p hp hs n => ?_⟩
          have hp' : (ys.map tl).Perm ss := by
            have := hp.map tl
            rw [List.map_map] at this
            have e2 : ss.map (tl ∘ S) = ss := by
              have : (tl ∘ S) = id := funext fun s => tl_S s
              rw [this, List.map_id]
            rw [e2] at this
            exact this
          have eu : ys.map tl = sortL leS ss := sortL_uniq leS_tot leS_tr leS_anti hp' (sortedS_pw ys hs)
          have ey : ys = (sortL leS ss).map S := by
            rw [← eu, List.map_map]
            have : (S ∘ tl) = id := funext fun s => S_tl s
            rw [this, List.map_id]
          rw [ey]
          exact Pst.lst (c := c) (hK ▸ E) q (hK ▸ reps_str _ fun s hs => hsz s ((sortL_perm ss).mem_iff.mp hs)) (by rw [List.length_map, (sortL_perm ss).length_eq, hlen]; exact small64 h64) n
    · cases h
  · cases h
    refine ⟨_, call_min2 hc, fun G L m ρ σ H Q vs E r0 q hK => ?_⟩
    obtain ⟨v, w, e, r1, r2⟩ := two r0
    exact ⟨_, _, by rw [e, r1.int, r2.int], q H L (Stp.refl _ _) (hK ▸ E.sok) _ (.inl (.int _))⟩
  · cases h
    refine ⟨_, call_max2 hc, fun G L m ρ σ H Q vs E r0 q hK => ?_⟩
    obtain ⟨v, w, e, r1, r2⟩ := two r0
    exact ⟨_, _, by rw [e, r1.int, r2.int], q H L (Stp.refl _ _) (hK ▸ E.sok) _ (.inl (.int _))⟩
  · obtain ⟨bs, hn, ez⟩ := Option.map_eq_some_iff.mp h
    subst ez
    refine ⟨_, cr_all hc, fun G L m ρ σ H Q vs E r0 q hK => ?_⟩
    obtain ⟨v, e, r⟩ := one r0
    obtain ⟨a, ws, e1, hr, rs, hz⟩ := r.lst
    subst e e1
    exact ⟨a, bs, rfl, by rw [← bls_of hn rs]; exact hr, q H L (Stp.refl _ _) (hK ▸ E.sok) _ (.inl (.bl _))⟩
  · obtain ⟨bs, hn, ez⟩ := Option.map_eq_some_iff.mp h
    subst ez
    refine ⟨_, cr_any hc, fun G L m ρ σ H Q vs E r0 q hK => ?_⟩
    obtain ⟨v, e, r⟩ := one r0
    obtain ⟨a, ws, e1, hr, rs, hz⟩ := r.lst
    subst e e1
    exact ⟨a, bs, rfl, by rw [← bls_of hn rs]; exact hr, q H L (Stp.refl _ _) (hK ▸ E.sok) _ (.inl (.bl _))⟩
  · cases h
    refine ⟨_, call_list_of, fun G L m ρ σ H Q vs E r0 q hK => ?_⟩
    obtain ⟨v, e, r⟩ := one r0
    obtain ⟨a, ws, e1, hr, rs, hz⟩ := r.lst
    subst e e1
    exact ⟨a, ws, rfl, .inl hr, fun p n => Pst.lst (c := c) (hK ▸ E) q (hK ▸ rs) hz n⟩
  · cases h
    refine ⟨_, call_list_of, fun G L m ρ σ H Q vs E r0 q hK => ?_⟩
    obtain ⟨v, e, r⟩ := one r0
    obtain ⟨a, ws, e1, hr, rs, hz⟩ := r.tup
    subst e e1
    exact ⟨a, ws, rfl, .inr hr, fun p n => Pst.lst (c := c) (hK ▸ E) q (hK ▸ rs) hz n⟩
  · cases h
    refine ⟨_, call_listStr hc, fun G L m ρ σ H Q vs E r0 q hK => ?_⟩
    obtain ⟨v, e, r⟩ := one r0
    rw [r.str.1] at e
    subst e
    rename_i t
    refine ⟨t, rfl, r.str.2, fun p n => Pst.lst (c := c) (hK ▸ E) q ?_ (by rw [List.length_map]; exact r.str.2) n⟩
    have go : ∀ s : List Nat, Reps c.K (AL L) (hide (Bd G L) H) (s.map fun ch => V.str (S [ch])) (s.map fun ch => D.str [ch]) := fun s => by
      induction s with
      | nil => exact .nil
      | cons ch s ih => exact .cons (.str [ch] (by show 1 ≤ sizeLine; decide)) ih
    exact go t
  · cases h
    refine ⟨_, call_int1, fun G L m ρ σ H Q vs E r0 q hK => ?_⟩
    obtain ⟨v, e, r⟩ := one r0
    exact .inl ⟨_, by rw [e, r.int], q H L (Stp.refl _ _) (hK ▸ E.sok) _ (.inl (.int _))⟩
  · cases h
    refine ⟨_, call_int1, fun G L m ρ σ H Q vs E r0 q hK => ?_⟩
    obtain ⟨v, e, r⟩ := one r0
    exact .inr ⟨_, by rw [e, r.bl], q H L (Stp.refl _ _) (hK ▸ E.sok) _ (.inl (.int _))⟩
  · split at h
    · rename_i hz
      obtain ⟨n, hn, ez⟩ := Option.map_eq_some_iff.mp h
      subst ez
      refine ⟨_, call_int_str, fun G L m ρ σ H Q vs E r0 q hK => ?_⟩
      obtain ⟨v, e, r⟩ := one r0
      exact ⟨_, n, by rw [e, r.str.1], hn, by rw [S_len]; exact hz, q H L (Stp.refl _ _) (hK ▸ E.sok) _ (.inl (.int _))⟩
    · cases h
  · cases h
    refine ⟨_, call_tuple_of, fun G L m ρ σ H Q vs E r0 q hK => ?_⟩
    obtain ⟨v, e, r⟩ := one r0
    obtain ⟨a, ws, e1, hr, rs, hz⟩ := r.lst
    subst e e1
    exact ⟨a, ws, rfl, .inl ⟨hr, fun p n => Pst.tup (c := c) (hK ▸ E) q (hK ▸ rs) hz n⟩⟩
  · cases h
    refine ⟨_, call_tuple_of, fun G L m ρ σ H Q vs E r0 q hK => ?_⟩
    obtain ⟨v, e, r⟩ := one r0
    obtain ⟨a, ws, e1, hr, rs, hz⟩ := r.tup
    subst e e1
    exact ⟨a, ws, rfl, .inr ⟨hr, q H L (Stp.refl _ _) (hK ▸ E.sok) _ (.inl (hK ▸ (r.elim (fun r => r) fun ⟨_, _, _, _, cr⟩ => by cases cr)))⟩⟩
  · split at h
    · rename_i hz
      cases h
      refine ⟨_, call_str_int, fun G L m ρ σ H Q vs E r0 q hK => ?_⟩
      obtain ⟨v, e, r⟩ := one r0
      rw [r.int] at e
      subst e
      rename_i k
      obtain ⟨n, rfl⟩ := Int.eq_ofNat_of_zero_le hz.1
      have hb : (Int.ofNat n).natAbs < 2 ^ 400 := Nat.lt_of_lt_of_le (show n < 10 ^ 100 by have := hz.2; omega) (by decide)
      refine ⟨(n : Int), rfl, Nat.lt_of_lt_of_le (PySem.Flt.log2_lt_of (by decide) hb) (by decide), ?_⟩
      have e2 : (toString (n : Int) : Str) = S (numS n) := by
        rw [← S_tl (toString (n : Int) : Str)]
        exact congrArg S (TL.tl_num n)
      rw [e2]
      refine q H L (Stp.refl _ _) (hK ▸ E.sok) _ (.inl (.str _ ?_))
      exact Nat.le_trans (TL.numL_len (k := 100) (by decide) (by have := hz.2; omega)) (by decide)
    · cases h
  · cases h
    refine ⟨_, call_minS2 hc, fun G L m ρ σ H Q vs E r0 q hK => ?_⟩
    obtain ⟨v, w, e, r1, r2⟩ := two r0
    exact ⟨_, _, by rw [e, r1.str.1, r2.str.1], q H L (Stp.refl _ _) (hK ▸ E.sok) _ (.inl (.str _ (by split; exact r2.str.2; exact r1.str.2)))⟩
  · cases h
    refine ⟨_, call_maxS2 hc, fun G L m ρ σ H Q vs E r0 q hK => ?_⟩
    obtain ⟨v, w, e, r1, r2⟩ := two r0
    exact ⟨_, _, by rw [e, r1.str.1, r2.str.1], q H L (Stp.refl _ _) (hK ▸ E.sok) _ (.inl (.str _ (by split; exact r2.str.2; exact r1.str.2)))⟩
  · obtain ⟨ss, hn, ez⟩ := Option.bind_eq_some_iff.mp h
    cases ss with
    | nil => cases ez
    | cons x ss =>
      cases ez
      refine ⟨_, call_minSs hc hu, fun G L m ρ σ H Q vs E r0 q hK => ?_⟩
      obtain ⟨v, e, r⟩ := one r0
      obtain ⟨a, ws, e1, hr, rs, hz⟩ := r.lst
      subst e e1
      obtain ⟨ew, hsz⟩ := strs_of hn rs
      subst ew
      exact ⟨a, x, ss, rfl, .inl hr, q H L (Stp.refl _ _) (hK ▸ E.sok) _ (.inl (.str _ (minS_sz hsz)))⟩
  · obtain ⟨ss, hn, ez⟩ := Option.bind_eq_some_iff.mp h
    cases ss with
    | nil => cases ez
    | cons x ss =>
      cases ez
      refine ⟨_, call_minSs hc hu, fun G L m ρ σ H Q vs E r0 q hK => ?_⟩
      obtain ⟨v, e, r⟩ := one r0
      obtain ⟨a, ws, e1, hr, rs, hz⟩ := r.tup
      subst e e1
      obtain ⟨ew, hsz⟩ := strs_of hn rs
      subst ew
      exact ⟨a, x, ss, rfl, .inr hr, q H L (Stp.refl _ _) (hK ▸ E.sok) _ (.inl (.str _ (minS_sz hsz)))⟩
  · obtain ⟨ss, hn, ez⟩ := Option.bind_eq_some_iff.mp h
    cases ss with
    | nil => cases ez
    | cons x ss =>
      cases ez
      refine ⟨_, call_maxSs hc hu, fun G L m ρ σ H Q vs E r0 q hK => ?_⟩
      obtain ⟨v, e, r⟩ := one r0
      obtain ⟨a, ws, e1, hr, rs, hz⟩ := r.lst
      subst e e1
      obtain ⟨ew, hsz⟩ := strs_of hn rs
      subst ew
      exact ⟨a, x, ss, rfl, .inl hr, q H L (Stp.refl _ _) (hK ▸ E.sok) _ (.inl (.str _ (maxS_sz hsz)))⟩
  · obtain ⟨ss, hn, ez⟩ := Option.bind_eq_some_iff.mp h
    cases ss with
    | nil => cases ez
    | cons x ss =>
      cases ez
      refine ⟨_, call_maxSs hc hu, fun G L m ρ σ H Q vs E r0 q hK => ?_⟩
      obtain ⟨v, e, r⟩ := one r0
      obtain ⟨a, ws, e1, hr, rs, hz⟩ := r.tup
      subst e e1
      obtain ⟨ew, hsz⟩ := strs_of hn rs
      subst ew
      exact ⟨a, x, ss, rfl, .inr hr, q H L (Stp.refl _ _) (hK ▸ E.sok) _ (.inl (.str _ (maxS_sz hsz)))⟩
  · obtain ⟨ps, hn, ez⟩ := Option.map_eq_some_iff.mp h
    subst ez
    refine ⟨_, call_dictP hc, fun G L m ρ σ H Q vs E r0 q hK => ?_⟩
    obtain ⟨v, e, r⟩ := one r0
    obtain ⟨a, ws, e1, hr, rs, hz⟩ := r.lst
    subst e e1
    obtain ⟨as, kvs, e2, e3, e4⟩ := pairs_rep hn rs
    subst e2
    refine ⟨a, as, kvs, rfl, hr, ?_, fun p n => Pst.dic (c := c) (hK ▸ E) q (hK ▸ (RepK.merge e4 .nil).repk) ?_ n⟩
    · exact paired_imp (fun _ _ h => Same.sqT hide_sub h) e3
    · unfold kdD
      rw [List.length_map]
      refine Nat.le_trans (length_mergeDK ps []) ?_
      rw [pairsOf_len hn]
      simpa using hz
  · split at h
    · rename_i h64
      obtain ⟨ss, hn, ez⟩ := Option.map_eq_some_iff.mp h
      subst ez
      refine ⟨_, call_sortedD hc, fun G L m ρ σ H Q vs E r0 q hK => ?_⟩
      obtain ⟨v, e, r⟩ := one r0
      obtain ⟨a, ws, e1, hr, rs, hz⟩ := r.dic
      subst e e1
      obtain ⟨ek, hl⟩ := keysS_rep hn rs
      refine ⟨a, ws, ss.map S, rfl, hr, ek, by rw [List.length_map, hl]; exact h64, fun ys p hp hs n => ?_⟩
      have hp' : (ys.map tl).Perm ss := by
        have := hp.map tl
        rw [List.map_map] at this
        have e2 : ss.map (tl ∘ S) = ss := by
          have : (tl ∘ S) = id := funext fun s => tl_S s
          rw [this, List.map_id]
        rw [e2] at this
        exact this
      have eu : ys.map tl = sortL leS ss := sortL_uniq leS_tot leS_tr leS_anti hp' (sortedS_pw ys hs)
      have ey : ys = (sortL leS ss).map S := by
        rw [← eu, List.map_map]
        have : (S ∘ tl) = id := funext fun s => S_tl s
        rw [this, List.map_id]
      rw [ey]
      exact Pst.lst (c := c) (hK ▸ E) q (hK ▸ reps_str _ fun s hs => keysS_sz hn rs s ((sortL_perm ss).mem_iff.mp hs)) (by rw [List.length_map, (sortL_perm ss).length_eq, hl]; exact small64 h64) n
    · cases h
  · cases h

theorem s_bi_run (hK : c.K = X.K) (hc : X.calm = true) (hu : X.A.units + 65 < cLine) (o : BI) {l : Es} {σ : L2.St} {H : Hp} {Q : VK} (h : TEr c W false (.bi o l) σ H Q) : ∃ R : List V → Hp → VK → Prop, CallR X (biVal o) R ∧ tCB R (TAr c W true l) σ H Q := by
  obtain ⟨G, L, m, ρ, E, h⟩ := h
  rw [evE] at h
  by_cases hz : ∃ ds m1 z, evEs c.cfg l ρ m = .ok ds m1 ∧ biD o ds = some z
  · obtain ⟨ds, m1, z, e1, e2⟩ := hz
    obtain ⟨r, hr, k⟩ := bi_rule (X := X) (c := c) (W := W) (b := true) hc hu o ds z e2
    refine ⟨r, hr, ?_⟩
    refine TAr.bind E h fun ds' m1' vs H1 L1 q1 s1 E1 r1 h1 => ?_
    rw [e1] at q1
    cases q1
    rw [e2] at h1
    exact k G L1 _ ρ σ H1 Q vs (hK ▸ E1) (hK ▸ r1) h1 hK
  · refine ⟨_, callNo, ?_⟩
    refine TAr.bind E h fun ds' m1' vs H1 L1 q1 s1 E1 r1 h1 => ?_
    cases e3 : biD o ds' with
    | none => rw [e3] at h1; exact h1
    | some z => exact hz ⟨_, _, _, q1, e3⟩
theorem bi_boot (o : BI) : bootBuiltins (biName o) = some (biVal o) := by cases o <;> decide +kernel
theorem bi_name (o : BI) : biName o ≠ "__name__" ∧ (biName o == ("__debug__" : Str)) = false := by cases o <;> decide +kernel
theorem s_bi {p : Pos} {e : Expr} {es : List Expr} {l : Es} (hK : c.K = X.K) (hc : X.calm = true) (hu : X.A.units + 65 < cLine) (o : BI) (hg : Gl X (biName o)) (hm : X.mg (biName o) = none) (ha : PA X (e :: es) (TAr c W true l)) (hn : (e :: es).all notStar = true) : PE X (.Call (.Name (biName o) p) (e :: es) [] pos) (TEr c W false (.bi o l)) := by
  have hn1 : notStar e = true := by
    rw [List.all_cons, Bool.and_eq_true] at hn
    exact hn.1
  have hn2 : es.all notStar = true := by
    rw [List.all_cons, Bool.and_eq_true] at hn
    exact hn.2
  refine ⟨fun pins s σ H Q I h => ?_⟩
  obtain ⟨R, hR, h⟩ := s_bi_run hK hc hu o h
  have hb := bi_boot o
  have hv : (∃ id, biVal o = .builtin id) ∨ ∃ T, biVal o = .type T := by
    cases o <;> first | exact .inl ⟨_, rfl⟩ | exact .inr ⟨_, rfl⟩
  rcases hv with ⟨id, e1⟩ | ⟨T, e1⟩
  · rw [e1] at hR hb
    exact (pe_callB hR hg hm hb ha (bi_name o).1 (bi_name o).2 (star_of hn1) (by rw [back_any]; exact star_any hn2)).run pins s σ H Q I h
  · rw [e1] at hR hb
    exact (pe_callTy hR hg hm hb ha (bi_name o).1 (bi_name o).2 (star_of hn1) (by rw [back_any]; exact star_any hn2)).run pins s σ H Q I h
/-! ### isinstance -/
def tyName : Ty → Str
  | .int => "int" | .bool => "bool" | .str => "str" | .list => "list" | .tuple => "tuple" | .dict => "dict"
def tyStr : Ty → String
  | .int => "int" | .bool => "bool" | .str => "str" | .list => "list" | .tuple => "tuple" | .dict => "dict"
theorem kit_d (t : Ty) (d : D) (s : String) (h : clsD d = some s) : kitB s (tyStr t) = some (tyD t d) := by
  cases d <;> cases h <;> cases t <;> first | (show kitB _ _ = some true; decide +kernel) | (show kitB _ _ = some false; decide +kernel)
theorem ty_boot (t : Ty) : bootBuiltins (tyName t) = some (.type (tyStr t)) := by cases t <;> decide +kernel
theorem ty_name (t : Ty) : tyName t ≠ "__name__" ∧ (tyName t == ("__debug__" : Str)) = false := by cases t <;> decide +kernel
theorem boot_isi : bootBuiltins "isinstance" = some (.builtin "isinstance") := by decide +kernel
theorem tyx_of {K : PySem.W.Frag} {G : Addr → Prop} {L : Lay} {H : Hp} {v : V} {d : D} {b : Bool} {s : String} (r : RB K b G L H v d) (h : clsD d = some s) : TyX K H v (.type s) := by
  cases d with
  | non => cases h; rw [r.non]; exact .base .non
  | bl i => cases h; rw [r.bl]; exact .base (.bl i)
  | int i => cases h; rw [r.int]; exact .base (.int i)
  | str i => cases h; rw [r.str.1]; exact .base (.str _)
  | tup l =>
    cases h
    obtain ⟨a, vs, e, hs, rs, z⟩ := r.tup
    subst e
    rcases hs with (hs | ⟨o, hs⟩) | ⟨o, its, n, hk, hcl, _⟩
    · exact .base (.tup hs)
    · exact .fTuple hs
    · exact .kTuple hk hcl
  | lst l =>
    cases h
    obtain ⟨a, vs, e, hs, rs, z⟩ := r.lst
    subst e
    rcases hs with (hs | ⟨o, hs⟩) | ⟨o, its, n, hk, hcl, _⟩
    · exact .base (.lst hs)
    · exact .base (.frz hs)
    · exact .kList hk hcl
  | dic l =>
    cases h
    obtain ⟨a, vs, e, hs, rs, z⟩ := r.dic
    subst e
    rcases hs with hs | ⟨o, hs⟩
    · exact .base (.dK hs)
    · exact .fDict hs
  | obj n => cases h
  | exc n => cases h
theorem s_isi1 {p p2 : Pos} {k : Nat} {e : Expr} (t : Ty) (hK : c.K = X.K) (hg : Gl X "isinstance") (hm : X.mg "isinstance" = none) (hg2 : Gl X (tyName t)) (hm2 : X.mg (tyName t) = none) (ha : PE X e (TEr c W b ea)) (hn : notStar e = true) :
    PE X (.Call (.Name "isinstance" p) [e, .Name (tyName t) p2] [] pos) (TEr c W false (.isi [t] ea)) := by
  have he : PE X (.Name (tyName t) p2) (tC (.ty (tyStr t))) := pe_bltn hg2 hm2 (ty_boot t) rfl (ty_name t).1 (ty_name t).2
  refine pe_imp (pe_callB call_isi hg hm boot_isi (pa_cons ha (pa_cons he pa_nil rfl) (star_of hn)) (by decide +kernel) (by decide +kernel) (star_of hn) rfl) fun σ H Q h => ?_
  obtain ⟨G, L, m, ρ, E, h⟩ := h
  rw [evE] at h
  refine TEr.bind E h fun d m1 v H1 L1 q1 s1 E1 r1 h1 => ?_
  show rIsi X.K [v, .ty (tyStr t)] H1 Q
  cases hc : clsD d with
  | none => rw [hc] at h1; exact (show False from h1).elim
  | some s =>
    rw [hc] at h1
    refine ⟨v, _, .type s, .type (tyStr t), tyD t d, rfl, .ty _, hK ▸ tyx_of r1 hc, kit_ty (kit_d t d s hc), ?_⟩
    have := Pst.val E1 h1 (.inl (.bl _))
    simpa using this
/-- isinstance with a tuple of two classes -/
theorem s_isi2 {p p2 p3 p4 : Pos} {k : Nat} {e : Expr} (t u : Ty) (hK : c.K = X.K) (hg : Gl X "isinstance") (hm : X.mg "isinstance" = none) (hg2 : Gl X (tyName t)) (hm2 : X.mg (tyName t) = none) (hg3 : Gl X (tyName u)) (hm3 : X.mg (tyName u) = none)
    (ha : PE X e (TEr c W b ea)) (hn : notStar e = true) :
    PE X (.Call (.Name "isinstance" p) [e, .Tuple [.Name (tyName t) p2, .Name (tyName u) p3] k p4] [] pos) (TEr c W false (.isi [t, u] ea)) := by
  have he : PE X (.Name (tyName t) p2) (tC (.ty (tyStr t))) := pe_bltn hg2 hm2 (ty_boot t) rfl (ty_name t).1 (ty_name t).2
  have he2 : PE X (.Name (tyName u) p3) (tC (.ty (tyStr u))) := pe_bltn hg3 hm3 (ty_boot u) rfl (ty_name u).1 (ty_name u).2
  have het : PE X (.Tuple [.Name (tyName t) p2, .Name (tyName u) p3] k p4) (tTup (tCons (tC (.ty (tyStr t))) (tCons (tC (.ty (tyStr u))) tNil))) := pe_tup (pa_cons he (pa_cons he2 pa_nil rfl) rfl)
  refine pe_imp (pe_callB call_isiT hg hm boot_isi (pa_cons ha (pa_cons het pa_nil rfl) (star_of hn)) (by decide +kernel) (by decide +kernel) (star_of hn) rfl) fun σ H Q h => ?_
  obtain ⟨G, L, m, ρ, E, h⟩ := h
  rw [evE] at h
  refine TEr.bind E h fun d m1 v H1 L1 q1 s1 E1 r1 h1 => ?_
  refine ⟨by show 2 ≤ sizeLine; decide, fun tp n => ?_⟩
  have st : Stp L1 L1 H1 (upd H1 tp (.tup [V.ty (tyStr t), V.ty (tyStr u)])) := Stp.upd n
  have r2 := r1.step E1 st
  show rIsiT X.K [v, .ref tp] _ Q
  cases hc : clsD d with
  | none => rw [hc] at h1; exact (show False from h1).elim
  | some s =>
    rw [hc] at h1
    have q := (h1.step st) _ _ (Stp.refl _ _) (E1.sok.upd n) _ (.inl (.bl _))
    refine ⟨v, tp, _, .type s, [.type (tyStr t), .type (tyStr u)], [t, u].any (fun t => tyD t d), rfl, upd_same, .cons (.ty _) (.cons (.ty _) .nil), hK ▸ tyx_of r2 hc, ?_, q⟩
    refine kitAny_cons (kit_ty (kit_d t d s hc)) (fun ht => ?_) fun ht => by rw [List.any_cons, ht]; rfl
    refine kitAny_cons (kit_ty (kit_d u d s hc)) (fun hu => ?_) fun hu => by rw [List.any_cons, List.any_cons, hu, Bool.true_or, Bool.or_true]
    rw [List.any_cons, List.any_cons, List.any_nil, ht, hu]
    exact kitAny_nil
end
/-! ### methods of texts -/
section
variable {X : Cx} {c : Cn} {W : WX} {ba bb : Bool} {ea eb : E} {x y : Expr} {pos : Pos}
def mtName : MT → Str
  | .sjoin => "join" | .sfind => "find" | .sindex => "index" | .sstarts => "startswith" | .ssplit => "split" | .szfill => "zfill" | .lindex => "index" | .dget => "get" | .supper => "upper"
def mtId : MT → String
  | .sjoin => "str.join" | .sfind => "str.find" | .sindex => "str.index" | .sstarts => "str.startswith" | .ssplit => "str.split" | .szfill => "str.zfill" | .lindex => "list.index" | .dget => "dict.get" | .supper => "str.upper"
theorem mt_slot (o : MT) (h : mtTxt o = true) : Slot "str" (mtName o) (mtId o) := by
  cases o with
  | sjoin => exact PySem.F.slot_str_join
  | sfind => exact PySem.F.slot_str_find
  | sindex => exact PySem.F.slot_str_index
  | sstarts => exact PySem.F.slot_str_startswith
  | ssplit => exact PySem.F.slot_str_split
  | szfill => exact PySem.F.slot_str_zfill
  | supper => exact PySem.F.slot_str_upper
  | _ => cases h
theorem mt_ty (o : MT) (h : mtTxt o = true) : typeOf (.builtin (mtId o)) = pure (.type "method_descriptor") := by
  cases o with
  | sjoin => exact PySem.F.type_str_join
  | sfind => exact PySem.F.type_str_find
  | sindex => exact PySem.F.type_str_index
  | sstarts => exact PySem.F.type_str_startswith
  | ssplit => exact PySem.F.type_str_split
  | szfill => exact PySem.F.type_str_zfill
  | supper => exact PySem.F.type_str_upper
  | _ => cases h
theorem mtNo {id : String} : MtR X id (fun _ _ _ _ => False) := fun _ _ _ _ _ _ _ _ _ _ _ _ h => h.elim
theorem strD_of {G : Addr → Prop} {L : Lay} {m : Mu} {ρ : Env'} {σ : L2.St} {H : Hp} {Q : VK} {s : Str} {z : D} (h : strD s = some z) (E : ESt c.K c.own G L m ρ σ H) (q : Pst c W false G L σ H Q (.ok z m)) : Q (.str s) H := by
  unfold strD at h
  split at h
  · rename_i hz
    cases h
    refine q H L (Stp.refl _ _) E.sok _ (.inl ?_)
    have := Rep.str (K := c.K) (A := AL L) (H := hide (Bd G L) H) (tl s) (by
      have : (tl s).length = s.length := by simp [tl, Str.length]
      rw [this]
      exact hz)
    rw [S_tl] at this
    exact this
  · cases h
theorem reps_strs {K : PySem.W.Frag} {A : Nat → Option Addr} {H : Hp} : ∀ l : List Str, (∀ x ∈ l, x.length ≤ sizeLine) → Reps K A H (l.map V.str) (l.map fun x => D.str (tl x))
  | [], _ => .nil
  | x :: l, h => by
    have hx : Rep K A H (.str (S (tl x))) (.str (tl x)) := .str _ (by
      have : (tl x).length = x.length := by simp [tl, Str.length]
      rw [this]
      exact h x List.mem_cons_self)
    rw [S_tl] at hx
    exact .cons hx (reps_strs l fun y hy => h y (List.mem_cons_of_mem _ hy))
theorem upper_S {a : List Nat} (h : a.all (· < 128) = true) : Txt.upper (S a) = S (a.map PyProof.Rows.up1) := by
  rw [PyProof.Rows.upper_ascii (x := S a) (fun c hc => of_decide_eq_true (List.all_eq_true.mp h c hc))]
  simp [S]
theorem mt_rule (o : MT) (d : D) (ds : List D) (z : D) (h : mtD o d ds = some z) : ∃ R : V → List V → Hp → VK → Prop, MtR X (mtId o) R ∧ ∀ (G : Addr → Prop) (L : Lay) (m : Mu) (ρ : Env') (σ : L2.St) (H : Hp) (Q : VK) (v : V) (vs : List V), ESt c.K c.own G L m ρ σ H → RB c.K ba G L H v d → RBs c.K bb G L H vs ds → Pst c W false G L σ H Q (.ok z m) → c.K = X.K → (∃ a, v = .str a) ∧ R v vs H Q := by
  have one : ∀ {G : Addr → Prop} {L : Lay} {H : Hp} {vs : List V} {d : D}, RBs c.K bb G L H vs [d] → ∃ v, vs = [v] ∧ RB c.K bb G L H v d := fun r => by
    cases r with
    | cons r rs => cases rs; exact ⟨_, rfl, r⟩
  have two : ∀ {G : Addr → Prop} {L : Lay} {H : Hp} {vs : List V} {d e : D}, RBs c.K bb G L H vs [d, e] → ∃ v w, vs = [v, w] ∧ RB c.K bb G L H v d ∧ RB c.K bb G L H w e := fun r => by
    cases r with
    | cons r rs => cases rs with
      | cons r2 rs => cases rs; exact ⟨_, _, rfl, r, r2⟩
  unfold mtD at h
  split at h
  · obtain ⟨ys, hy, h⟩ := Option.bind_eq_some_iff.mp h
    split at h
    · rename_i hz
      refine ⟨_, mt_join, fun G L m ρ σ H Q v vs E rv rs q hK => ?_⟩
      obtain ⟨w, ew, rw'⟩ := one rs
      obtain ⟨p, ws, e1, hr, rr, hl⟩ := rw'.lst
      have hws := (strs_of hy rr).1
      subst ew e1
      have ev := rv.str.1
      refine ⟨⟨_, ev⟩, _, p, ys.map S, ev, rfl, .inl (by rw [← hws]; exact hK ▸ hr), ?_, strD_of h E q⟩
      have e2 : ((ys.map S).map (·.length)) = ys.map List.length := by
        rw [List.map_map]
        exact List.map_congr_left fun a _ => S_len a
      rw [e2, List.length_map, S_len]
      exact hz
    · cases h
  · cases h
    refine ⟨_, mt_find3, fun G L m ρ σ H Q v vs E rv rs q hK => ?_⟩
    obtain ⟨w, u, ew, r1, r2⟩ := two rs
    exact ⟨⟨_, rv.str.1⟩, _, _, _, rv.str.1, by rw [ew, r1.str.1, r2.int], q H L (Stp.refl _ _) E.sok _ (.inl (.int _))⟩
  · cases h
    refine ⟨_, mt_find, fun G L m ρ σ H Q v vs E rv rs q hK => ?_⟩
    obtain ⟨w, ew, r1⟩ := one rs
    exact ⟨⟨_, rv.str.1⟩, _, _, rv.str.1, by rw [ew, r1.str.1], q H L (Stp.refl _ _) E.sok _ (.inl (.int _))⟩
  · obtain ⟨k, hk, ez⟩ := Option.map_eq_some_iff.mp h
    subst ez
    refine ⟨_, mt_sindex, fun G L m ρ σ H Q v vs E rv rs q hK => ?_⟩
    obtain ⟨w, ew, r1⟩ := one rs
    unfold Txt.index0 at hk
    obtain ⟨rest, hr⟩ := List.head?_eq_some_iff.mp hk
    exact ⟨⟨_, rv.str.1⟩, _, _, k, rest, rv.str.1, by rw [ew, r1.str.1], hr, q H L (Stp.refl _ _) E.sok _ (.inl (.int _))⟩
  · obtain ⟨k, hk, ez⟩ := Option.map_eq_some_iff.mp h
    subst ez
    refine ⟨_, mt_sindexF, fun G L m ρ σ H Q v vs E rv rs q hK => ?_⟩
    obtain ⟨w, u, ew, r1, r2⟩ := two rs
    unfold Txt.indexFrom at hk
    obtain ⟨rest, hr⟩ := List.head?_eq_some_iff.mp hk
    exact ⟨⟨_, rv.str.1⟩, _, _, _, k, rest, rv.str.1, by rw [ew, r1.str.1, r2.int], hr, q H L (Stp.refl _ _) E.sok _ (.inl (.int _))⟩
  · cases h
    refine ⟨_, mt_startswith, fun G L m ρ σ H Q v vs E rv rs q hK => ?_⟩
    obtain ⟨w, ew, r1⟩ := one rs
    exact ⟨⟨_, rv.str.1⟩, _, _, rv.str.1, by rw [ew, r1.str.1], q H L (Stp.refl _ _) E.sok _ (.inl (.bl _))⟩
  · split at h
    · rename_i hz
      cases h
      refine ⟨_, mt_split, fun G L m ρ σ H Q v vs E rv rs q hK => ?_⟩
      obtain ⟨w, ew, r1⟩ := one rs
      exact ⟨⟨_, rv.str.1⟩, _, _, rv.str.1, by rw [ew, r1.str.1], hz.1, by rw [S_len]; exact hz.2.1, fun p n => Pst.lst E q (reps_strs _ hz.2.2.2) (by rw [List.length_map]; exact hz.2.2.1) n⟩
    · cases h
  · split at h
    · rename_i hz
      refine ⟨_, mt_zfill, fun G L m ρ σ H Q v vs E rv rs q hK => ?_⟩
      obtain ⟨w, ew, r1⟩ := one rs
      exact ⟨⟨_, rv.str.1⟩, _, _, rv.str.1, by rw [ew, r1.int], hz, strD_of h E q⟩
    · cases h
  · split at h
    · rename_i hz
      cases h
      refine ⟨_, mt_upper, fun G L m ρ σ H Q v vs E rv rs q hK => ?_⟩
      cases rs
      refine ⟨⟨_, rv.str.1⟩, _, rv.str.1, rfl, by rw [S_len]; exact hz.2, ?_⟩
      rw [upper_S hz.1]
      exact q H L (Stp.refl _ _) E.sok _ (.inl (.str _ (by rw [List.length_map]; exact Nat.le_trans hz.2 (by decide))))
    · cases h
  · cases h
/-- what is no call without arguments -/
def notCall0 : Expr → Bool
  | .Call (.Name _ _) [] [] _ => false
  | _ => true
theorem base_of {o : Expr} {name : Str} {env : Env} {t : Sem Value} (h : notCall0 o = true) : attributeBase o name env t = t := by
  unfold attributeBase
  unfold notCall0 at h
  split
  · cases h
  · rfl
theorem s_mth0 {o : MT} {x : Expr} {apos cpos : Pos} (hT : mtTxt o = true) (hK : c.K = X.K) (ho : PE X x (TEr c W ba ea)) (hb : notCall0 x = true) (hline : (apos.endLine == cpos.line) = true) :
    PE X (.Call (.Attribute x (mtName o) apos) [] [] cpos) (TEr c W false (.mth o ea .nil)) := by
  refine ⟨fun pins s σ H Q I h => ?_⟩
  have run : ∀ {r : V → List V → Hp → VK → Prop}, MtR X (mtId o) r → PE X (.Call (.Attribute x (mtName o) apos) [] [] cpos) (tBM0 X.K "str" r (TEr c W ba ea)) := fun hm =>
    pe_bm0 PySem.F.plainAttrs_str (mt_slot o hT) (mt_ty o hT) hm ho (base_of hb) hline
  obtain ⟨G, L, m, ρ, E, h⟩ := h
  rw [evE] at h
  have isS : ∀ {d : D}, mtOn o d = true → ∃ a, d = .str a := fun {d} h => by
    cases d with
    | str a => exact ⟨a, rfl⟩
    | _ => cases h
  by_cases hz : ∃ d m1 z, evE c.cfg ea ρ m = .ok d m1 ∧ mtD o d [] = some z
  · obtain ⟨d, m1, z, e1, e3⟩ := hz
    obtain ⟨r, hr, k⟩ := mt_rule (X := X) (c := c) (W := W) (ba := ba) (bb := false) o d [] z e3
    refine (run hr).run pins s σ H Q I ?_
    refine TEr.bind E h fun d' m1' v H1 L1 q1 s1 E1 r1 h1 => ?_
    rw [e1] at q1
    cases q1
    by_cases hd : mtOn o d = true
    · rw [if_pos hd] at h1
      obtain ⟨a, rfl⟩ := isS hd
      refine ⟨by rw [r1.str.1]; rfl, ?_⟩
      rw [evEs, Res.bind_ok, e3] at h1
      exact (k G L1 _ ρ σ H1 Q v [] E1 r1 .nil h1 hK).2
    · rw [if_neg hd] at h1
      exact (show False from h1).elim
  · refine (run mtNo).run pins s σ H Q I ?_
    refine TEr.bind E h fun d' m1' v H1 L1 q1 s1 E1 r1 h1 => ?_
    by_cases hd : mtOn o d' = true
    · rw [if_pos hd] at h1
      obtain ⟨a, rfl⟩ := isS hd
      refine ⟨by rw [r1.str.1]; rfl, ?_⟩
      rw [evEs, Res.bind_ok] at h1
      cases e3 : mtD o (.str a) [] with
      | none => rw [e3] at h1; exact h1
      | some z => exact hz ⟨_, _, _, q1, e3⟩
    · rw [if_neg hd] at h1
      exact (show False from h1).elim
theorem s_mth {l : Es} {o : MT} {x e : Expr} {es : List Expr} {apos cpos : Pos} (hT : mtTxt o = true) (hK : c.K = X.K) (ho : PE X x (TEr c W ba ea)) (ha : PA X (e :: es) (TAr c W bb l)) (hn : (e :: es).all notStar = true) (hz : es.length ≤ 3) (hb : notCall0 x = true) (hline : (apos.endLine == cpos.line) = true) :
    PE X (.Call (.Attribute x (mtName o) apos) (e :: es) [] cpos) (TEr c W false (.mth o ea l)) := by
  have hn1 : notStar e = true := by
    rw [List.all_cons, Bool.and_eq_true] at hn
    exact hn.1
  have hn2 : es.all notStar = true := by
    rw [List.all_cons, Bool.and_eq_true] at hn
    exact hn.2
  refine ⟨fun pins s σ H Q I h => ?_⟩
  have run : ∀ {r : V → List V → Hp → VK → Prop}, MtR X (mtId o) r → PE X (.Call (.Attribute x (mtName o) apos) (e :: es) [] cpos) (tBM X.K "str" r (TEr c W ba ea) (TAr c W bb l)) := fun hm => by
    refine pe_bm PySem.F.plainAttrs_str (mt_slot o hT) (mt_ty o hT) hm ho ha (base_of hb) ?_ hline (star_of hn1) (by rw [back_any]; exact star_any hn2)
    have h1 : (backTo cpos (starEach (e :: es) X.env)).all (fun x => !x.1) = true := by
      have := back_any cpos (starEach (e :: es) X.env)
      rw [star_any hn] at this
      rw [List.all_eq_not_any_not]
      simp only [Bool.not_not]
      rw [this]
      rfl
    rw [h1]
    have h2 : (backToKw cpos (keywordEach [] X.env)).all (fun x => x.1.isSome) = true := rfl
    rw [h2]
    simp only [Bool.and_true, Bool.true_and, decide_eq_true_eq, List.length_cons, List.length_nil, List.isEmpty_nil, if_true]
    omega
  obtain ⟨G, L, m, ρ, E, h⟩ := h
  rw [evE] at h
  have isS : ∀ {d : D}, mtOn o d = true → ∃ a, d = .str a := fun {d} h => by
    cases d with
    | str a => exact ⟨a, rfl⟩
    | _ => cases h
  by_cases hz : ∃ d m1 ds m2 z, evE c.cfg ea ρ m = .ok d m1 ∧ evEs c.cfg l ρ m1 = .ok ds m2 ∧ mtD o d ds = some z
  · obtain ⟨d, m1, ds, m2, z, e1, e2, e3⟩ := hz
    obtain ⟨r, hr, k⟩ := mt_rule (X := X) (c := c) (W := W) (ba := ba) (bb := bb) o d ds z e3
    refine (run hr).run pins s σ H Q I ?_
    refine TEr.bind E h fun d' m1' v H1 L1 q1 s1 E1 r1 h1 => ?_
    rw [e1] at q1
    cases q1
    by_cases hd : mtOn o d = true
    · rw [if_pos hd] at h1
      obtain ⟨a, rfl⟩ := isS hd
      refine ⟨by rw [r1.str.1]; rfl, ?_⟩
      refine TAr.bind E1 h1 fun ds' m2' vs H2 L2 q2 s2 E2 r2 h2 => ?_
      rw [e2] at q2
      cases q2
      rw [e3] at h2
      exact (k G L2 _ ρ σ H2 Q v vs E2 (r1.step E1 s2) r2 h2 hK).2
    · rw [if_neg hd] at h1
      exact (show False from h1).elim
  · refine (run mtNo).run pins s σ H Q I ?_
    refine TEr.bind E h fun d' m1' v H1 L1 q1 s1 E1 r1 h1 => ?_
    by_cases hd : mtOn o d' = true
    · rw [if_pos hd] at h1
      obtain ⟨a, rfl⟩ := isS hd
      refine ⟨by rw [r1.str.1]; rfl, ?_⟩
      refine TAr.bind E1 h1 fun ds m2 vs H2 L2 q2 s2 E2 r2 h2 => ?_
      cases e3 : mtD o (.str a) ds with
      | none => rw [e3] at h2; exact h2
      | some z => exact hz ⟨_, _, _, _, _, q1, q2, e3⟩
    · rw [if_neg hd] at h1
      exact (show False from h1).elim
end
end MP

set_option maxRecDepth 100000
set_option maxHeartbeats 4000000
set_option autoImplicit false
namespace MP
open PySem L2

/-! ### a def's frame -/
/-- what is not told: what is guarded from without, and the def's own containers -/
def OG (F : Addr → Prop) (own : Nat → Bool) (ρ : Env') (σ : L2.St) (a : Addr) : Prop := F a ∨ ∃ (i : Nat) (d : D), own i = true ∧ ρ[i]? = some (some d) ∧ σ[i]? = some (some (.ref a))
structure FOk (K : PySem.W.Frag) (own : Nat → Bool) (F : Addr → Prop) (L0 : Lay) (H0 : Hp) (L : Lay) (m : Mu) (ρ : Env') (σ : L2.St) (H : Hp) : Prop where
  est : ESt K own (OG F own ρ σ) L m ρ σ H
  ent : Stp L0 L H0 H
  frs : ∀ (i : Nat) (d : D) (a : Addr), own i = true → ρ[i]? = some (some d) → σ[i]? = some (some (.ref a)) → H0 a = none
  inj : ∀ (i j : Nat) (d e : D) (a : Addr), own i = true → own j = true → ρ[i]? = some (some d) → ρ[j]? = some (some e) → σ[i]? = some (some (.ref a)) → σ[j]? = some (some (.ref a)) → i = j
  fin : ∀ a, F a → ∃ o, H0 a = some o
/-- what is known grows -/
structure KG (F : Addr → Prop) (own : Nat → Bool) (L : Lay) (ρ : Env') (σ : L2.St) (H : Hp) (L' : Lay) (ρ' : Env') (σ' : L2.St) (H' : Hp) : Prop where
  sm : Same (hide (Bd (OG F own ρ σ) L) H) (hide (Bd (OG F own ρ' σ') L') H')
  al : ∀ n x, AL L n = some x → AL L' n = some x
theorem KG.refl {F : Addr → Prop} {own : Nat → Bool} {L : Lay} {ρ : Env'} {σ : L2.St} {H : Hp} : KG F own L ρ σ H L ρ σ H := ⟨fun _ _ h => h, fun _ _ h => h⟩
theorem KG.trans {F : Addr → Prop} {own : Nat → Bool} {L L1 L3 : Lay} {ρ ρ1 ρ2 : Env'} {σ σ1 σ2 : L2.St} {H H1 H2 : Hp} (a : KG F own L ρ σ H L1 ρ1 σ1 H1) (b : KG F own L1 ρ1 σ1 H1 L3 ρ2 σ2 H2) : KG F own L ρ σ H L3 ρ2 σ2 H2 :=
  ⟨fun x o h => b.sm x o (a.sm x o h), fun n x h => b.al n x (a.al n x h)⟩
structure Fr where
  F : Addr → Prop
  L0 : Lay
  H0 : Hp
abbrev FO (c : Cn) (f : Fr) := FOk c.K c.own f.F f.L0 f.H0
def PstS (c : Cn) (W : WX) (f : Fr) (L : Lay) (ρ : Env') (σ : L2.St) (H : Hp) (D : Ends) (r : Fl) : Prop := match r with
  | .nxt ρ' m' => ∀ σ' H' L', FO c f L' m' ρ' σ' H' → KG f.F c.own L ρ σ H L' ρ' σ' H' → D.nx σ' H'
  | .ret d m' => ∀ v H' L', Stp f.L0 L' f.H0 H' → SOk c.K f.F L' m' H' → Rep c.K (AL L') (hide (Bd f.F L') H') v d → D.rt v H'
  | .err k ρ' m' => ∀ σ' H' L', FO c f L' m' ρ' σ' H' → KG f.F c.own L ρ σ H L' ρ' σ' H' → W (c.cls k) none σ' H'
  | .stuck => False
def TSr (c : Cn) (W : WX) (f : Fr) (s : MP.St) : TS := fun D σ H => ∃ L m ρ, FO c f L m ρ σ H ∧ PstS c W f L ρ σ H D (evS c.cfg s ρ m)
def TSsr (c : Cn) (W : WX) (f : Fr) (s : MP.Sts) : TS := fun D σ H => ∃ L m ρ, FO c f L m ρ σ H ∧ PstS c W f L ρ σ H D (evSs c.cfg s ρ m)
section
variable {c : Cn} {W : WX} {f : Fr} {L L' : Lay} {m m' : Mu} {ρ ρ' : Env'} {σ σ' : L2.St} {H H' : Hp} {Z Z' : Ends}
theorem OG.congr {F : Addr → Prop} {own : Nat → Bool} (h : ∀ i, own i = true → ρ'[i]? = ρ[i]? ∧ σ'[i]? = σ[i]?) : OG F own ρ' σ' = OG F own ρ σ := by
  funext a
  apply propext
  unfold OG
  constructor
  · rintro (h1 | ⟨i, d, h1, h2, h3⟩)
    · exact .inl h1
    · rw [(h i h1).1] at h2
      rw [(h i h1).2] at h3
      exact .inr ⟨i, d, h1, h2, h3⟩
  · rintro (h1 | ⟨i, d, h1, h2, h3⟩)
    · exact .inl h1
    · rw [← (h i h1).1] at h2
      rw [← (h i h1).2] at h3
      exact .inr ⟨i, d, h1, h2, h3⟩
theorem FOk.step (O : FO c f L m ρ σ H) (s : Stp L L' H H') (k : SOk c.K (OG f.F c.own ρ σ) L' m' H') : FO c f L' m' ρ σ H' ∧ KG f.F c.own L ρ σ H L' ρ σ H' :=
  ⟨⟨O.est.step s k, O.ent.trans s, O.frs, O.inj, O.fin⟩, ⟨s.hid, s.al⟩⟩
theorem FOk.re (O : FO c f L m ρ σ H) (E : ESt c.K c.own (OG f.F c.own ρ σ) L m ρ' σ' H) (h : ∀ i, c.own i = true → ρ'[i]? = ρ[i]? ∧ σ'[i]? = σ[i]?) : FO c f L m ρ' σ' H ∧ KG f.F c.own L ρ σ H L ρ' σ' H := by
  have e := OG.congr (F := f.F) h
  refine ⟨⟨by rw [e]; exact E, O.ent, fun i d a h1 h2 h3 => ?_, fun i j d e a h1 h2 h3 h4 h5 h6 => ?_, O.fin⟩, ⟨by rw [e]; exact fun _ _ h => h, fun _ _ h => h⟩⟩
  · rw [(h i h1).1] at h2
    rw [(h i h1).2] at h3
    exact O.frs i d a h1 h2 h3
  · rw [(h i h1).1] at h3
    rw [(h j h2).1] at h4
    rw [(h i h1).2] at h5
    rw [(h j h2).2] at h6
    exact O.inj i j d e a h1 h2 h3 h4 h5 h6
theorem PstS.kg {r : Fl} (h : PstS c W f L ρ σ H Z r) (k : KG f.F c.own L ρ σ H L' ρ' σ' H') : PstS c W f L' ρ' σ' H' Z r := by
  cases r with
  | nxt ρ2 m2 => exact fun σ2 H2 L3 O k2 => h σ2 H2 L3 O (k.trans k2)
  | ret d m2 => exact h
  | err j ρ2 m2 => exact fun σ2 H2 L3 O k2 => h σ2 H2 L3 O (k.trans k2)
  | stuck => exact h
/-- an expression's end within a statement -/
theorem PstS.ex {α : Type} {r : Res α} {g : α → Mu → Fl} (O : FO c f L m ρ σ H) (h : PstS c W f L ρ σ H Z (r.fl ρ g)) : PstG c W (OG f.F c.own ρ σ) L σ H (fun d m' H' L' => PstS c W f L' ρ σ H' Z (g d m')) r := by
  cases r with
  | ok d m' => exact fun H' L' s k => h.kg (O.step s k).2
  | err j m' => exact fun H' L' s k => h σ H' L' (O.step s k).1 (O.step s k).2
  | stuck => exact h
theorem FOk.unF (O : FO c f L m ρ σ H) : ∀ a, f.F a → OG f.F c.own ρ σ a := fun a h => .inl h
/-- what is told to the def is told without it -/
theorem FOk.out (O : FO c f L m ρ σ H) : Same (hide (Bd (OG f.F c.own ρ σ) L) H) (hide (Bd f.F L) H) := hide_same fun a o nb h => ⟨fun q => nb (q.elim (fun q => .inl (.inl q)) .inr), h⟩
theorem FOk.sok (O : FO c f L m ρ σ H) : SOk c.K f.F L m H := O.est.sok.own fun a o n h => ⟨fun q => n (.inl q), h⟩
/-- a new container of the def's own -/
theorem FOk.mine {i : Nat} {p : Addr} {o : HO} {d : D} (O : FO c f L m ρ σ H) (ho : c.own i = true) (hi : i < ρ.length) (n : H p = none)
    (cr : CR c.K (AL L) (hide (Bd (OG f.F c.own (ρ.set i (some d)) (σ.set i (some (.ref p)))) L) (upd H p o)) (upd H p o) p d) :
    FO c f L m (ρ.set i (some d)) (σ.set i (some (.ref p))) (upd H p o) ∧ KG f.F c.own L ρ σ H L (ρ.set i (some d)) (σ.set i (some (.ref p))) (upd H p o) := by
  have E := O.est
  have nb := E.nb E.sok.foot n
  have np : ∀ a u, H a = some u → a ≠ p := fun a u h => ne_of_none h n
  have hσ : i < σ.length := by rw [← E.len]; exact hi
  have gi : (ρ.set i (some d))[i]? = some (some d) := by rw [List.getElem?_set_self hi]
  have gs : (σ.set i (some (V.ref p)))[i]? = some (some (.ref p)) := by rw [List.getElem?_set_self hσ]
  have old : ∀ a, OG f.F c.own (ρ.set i (some d)) (σ.set i (some (.ref p))) a → a = p ∨ OG f.F c.own ρ σ a := fun a h => by
    rcases h with h | ⟨j, e, h1, h2, h3⟩
    · exact .inr (.inl h)
    · by_cases hj : i = j
      · subst hj
        rw [gs] at h3
        cases h3
        exact .inl rfl
      · rw [List.getElem?_set_ne hj] at h2 h3
        exact .inr (.inr ⟨j, e, h1, h2, h3⟩)
  have sm : Same (hide (Bd (OG f.F c.own ρ σ) L) H) (hide (Bd (OG f.F c.own (ρ.set i (some d)) (σ.set i (some (.ref p)))) L) (upd H p o)) := hide_same fun a u hb h => ⟨fun q => by
    rcases q with q | q
    · rcases old a q with q | q
      · exact np a u h q
      · exact hb (.inl q)
    · exact hb (.inr q), by rw [upd_ne (np a u h)]; exact h⟩
  have h0 : f.H0 p = none := by
    cases q : f.H0 p with
    | none => rfl
    | some u =>
      obtain ⟨w, hw⟩ := O.ent.stay p u q
      rw [n] at hw
      cases hw
  refine ⟨⟨⟨fun a g => ?_, ?_, by rw [List.length_set, List.length_set, E.len], fun j e hj => ?_⟩, O.ent.trans (Stp.upd n), fun j e a h1 h2 h3 => ?_, fun j k e g a h1 h2 h3 h4 h5 h6 => ?_, O.fin⟩, ⟨sm, fun _ _ h => h⟩⟩
  · rcases old a g with q | q
    · subst q
      exact ⟨⟨o, upd_same⟩, fun q => nb (.inr q)⟩
    · obtain ⟨⟨u, h⟩, nf⟩ := E.gok a q
      exact ⟨⟨u, by rw [upd_ne (np a u h)]; exact h⟩, nf⟩
  · refine E.sok.own fun a u ng h => ⟨fun q => ?_, by rw [upd_ne (np a u h)]; exact h⟩
    rcases old a q with q | q
    · exact np a u h q
    · exact ng q
  · by_cases hij : i = j
    · subst hij
      rw [gi] at hj
      cases hj
      exact ⟨_, gs, fun q => (by rw [ho] at q; cases q), fun _ => ⟨p, rfl, .inr ⟨i, d, ho, gi, gs⟩, cr⟩⟩
    · rw [List.getElem?_set_ne hij] at hj
      obtain ⟨v, h1, h2, h3⟩ := E.slot j e hj
      refine ⟨v, by rw [List.getElem?_set_ne hij]; exact h1, fun q => (h2 q).mono sm fun _ _ h => h, fun q => ?_⟩
      obtain ⟨a, e1, g, cr2⟩ := h3 q
      refine ⟨a, e1, .inr ⟨j, e, q, by rw [List.getElem?_set_ne hij]; exact hj, by rw [List.getElem?_set_ne hij, h1, e1]⟩, cr2.mono sm (fun _ _ h => h) fun u h => by rw [upd_ne (np a u h)]; exact h⟩
  · by_cases hij : i = j
    · subst hij
      rw [gs] at h3
      cases h3
      exact h0
    · rw [List.getElem?_set_ne hij] at h2 h3
      exact O.frs j e a h1 h2 h3
  · have noP : ∀ k e, c.own k = true → ρ[k]? = some (some e) → σ[k]? = some (some (.ref p)) → False := fun k e h1 h2 h3 => by
      obtain ⟨v, q1, _, q3⟩ := E.slot k e h2
      obtain ⟨a, e1, g, _⟩ := q3 h1
      rw [q1, e1] at h3
      cases h3
      obtain ⟨⟨u, h⟩, _⟩ := E.gok _ g
      rw [n] at h
      cases h
    by_cases hj : i = j
    · by_cases hk : i = k
      · rw [← hj, ← hk]
      · subst hj
        rw [gs] at h5
        cases h5
        rw [List.getElem?_set_ne hk] at h4 h6
        exact (noP k g h2 h4 h6).elim
    · rw [List.getElem?_set_ne hj] at h3 h5
      by_cases hk : i = k
      · subst hk
        rw [gs] at h6
        cases h6
        exact (noP j e h1 h3 h5).elim
      · rw [List.getElem?_set_ne hk] at h4 h6
        exact O.inj j k e g a h1 h2 h3 h4 h5 h6
/-- the def's own container is written -/
theorem FOk.wrote {i : Nat} {a : Addr} {o : HO} {d d' : D} (O : FO c f L m ρ σ H) (ho : c.own i = true) (hr : ρ[i]? = some (some d)) (hs : σ[i]? = some (some (.ref a)))
    (cr : CR c.K (AL L) (hide (Bd (OG f.F c.own ρ σ) L) H) (upd H a o) a d') :
    FO c f L m (ρ.set i (some d')) σ (upd H a o) ∧ KG f.F c.own L ρ σ H L (ρ.set i (some d')) σ (upd H a o) := by
  have E := O.est
  have hi : i < ρ.length := (List.getElem?_eq_some_iff.mp hr).1
  have gi : (ρ.set i (some d'))[i]? = some (some d') := by rw [List.getElem?_set_self hi]
  have ga : OG f.F c.own ρ σ a := .inr ⟨i, d, ho, hr, hs⟩
  have eG : OG f.F c.own (ρ.set i (some d')) σ = OG f.F c.own ρ σ := by
    funext x
    apply propext
    unfold OG
    constructor
    · rintro (h1 | ⟨j, e, h1, h2, h3⟩)
      · exact .inl h1
      · by_cases hij : i = j
        · subst hij
          exact .inr ⟨i, d, ho, hr, h3⟩
        · rw [List.getElem?_set_ne hij] at h2
          exact .inr ⟨j, e, h1, h2, h3⟩
    · rintro (h1 | ⟨j, e, h1, h2, h3⟩)
      · exact .inl h1
      · by_cases hij : i = j
        · subst hij
          exact .inr ⟨i, d', ho, gi, h3⟩
        · exact .inr ⟨j, e, h1, by rw [List.getElem?_set_ne hij]; exact h2, h3⟩
  have sm : Same (hide (Bd (OG f.F c.own ρ σ) L) H) (hide (Bd (OG f.F c.own ρ σ) L) (upd H a o)) := hide_same fun x u hb h => ⟨hb, by
    rw [upd_ne (fun q => hb (.inl (by rw [q]; exact ga)))]
    exact h⟩
  refine ⟨⟨⟨fun x g => ?_, ?_, by rw [List.length_set, E.len], fun j e hj => ?_⟩, ?_, fun j e x h1 h2 h3 => ?_, fun j k e g x h1 h2 h3 h4 h5 h6 => ?_, O.fin⟩, ⟨by rw [eG]; exact sm, fun _ _ h => h⟩⟩
  · rw [eG] at g
    obtain ⟨⟨u, h⟩, nf⟩ := E.gok x g
    by_cases hx : x = a
    · subst hx
      exact ⟨⟨o, upd_same⟩, nf⟩
    · exact ⟨⟨u, by rw [upd_ne hx]; exact h⟩, nf⟩
  · rw [eG]
    exact E.sok.own fun x u ng h => ⟨ng, by rw [upd_ne (fun q => ng (by rw [q]; exact ga))]; exact h⟩
  · rw [eG]
    by_cases hij : i = j
    · subst hij
      rw [gi] at hj
      cases hj
      refine ⟨_, hs, fun q => (by rw [ho] at q; cases q), fun _ => ⟨a, rfl, ga, cr.mono sm (fun _ _ h => h) fun _ h => h⟩⟩
    · rw [List.getElem?_set_ne hij] at hj
      obtain ⟨v, h1, h2, h3⟩ := E.slot j e hj
      refine ⟨v, h1, fun q => (h2 q).mono sm fun _ _ h => h, fun q => ?_⟩
      obtain ⟨x, e1, g, cr2⟩ := h3 q
      have na : x ≠ a := fun z => hij (O.inj i j d e a ho q hr hj hs (by rw [h1, e1, z]))
      exact ⟨x, e1, g, cr2.mono sm (fun _ _ h => h) fun u h => by rw [upd_ne na]; exact h⟩
  · have hz : f.H0 a = none := O.frs i d a ho hr hs
    refine ⟨fun x u nf h => ?_, O.ent.new, fun x u h => ?_, O.ent.al⟩
    · rw [upd_ne (ne_of_none h hz)]
      exact O.ent.keep x u nf h
    · rw [upd_ne (ne_of_none h hz)]
      exact O.ent.stay x u h
  · by_cases hij : i = j
    · subst hij
      exact O.frs i d x ho hr h3
    · rw [List.getElem?_set_ne hij] at h2
      exact O.frs j e x h1 h2 h3
  · have old : ∀ (j : Nat) (e : D), (ρ.set i (some d'))[j]? = some (some e) → ∃ e', ρ[j]? = some (some e') := fun j e h => by
      by_cases hij : i = j
      · subst hij
        exact ⟨d, hr⟩
      · rw [List.getElem?_set_ne hij] at h
        exact ⟨e, h⟩
    obtain ⟨e', q1⟩ := old j e h3
    obtain ⟨g', q2⟩ := old k g h4
    exact O.inj j k e' g' x h1 h2 q1 q2 h5 h6
end
end MP

set_option maxRecDepth 100000
set_option maxHeartbeats 4000000
set_option autoImplicit false
namespace MP
open PySem L2

/-! ### a caught exception that is kept -/
theorem exI_ok {P : Program} {w : World} {H : Hp} {h : Heap} {a : Addr} {cv : Value} {oe : Obj} {vs : Array Value} (e : h.get? a = some oe) (z : Zc cv none oe) (d : oe.data = .fields vs) : ObjOk P w H h a (ExI cv a) :=
  ⟨⟨oe, vs, e, z, d⟩, ⟨oe, e⟩, fun _ _ ⟨o, v, q, r⟩ k => ⟨o, v, k o q, r⟩⟩
/-- an object that stands and isn't tracked is tracked from here on -/
theorem inv_track {X : Cx} {pins : List (Addr × Obj)} {σ : L2.St} {H : Hp} {s : Shared} {a : Addr} {o : HO} (I : Inv X pins σ H s) (hn : H a = none) (hL : a ≠ X.env.locals) (hC : ∀ x c, X.env.cells.lookup x = some c → c ≠ a) (hp : ∀ p ∈ X.pn ++ pins, p.1 ≠ a) (h0 : X.s_0.heap.get? a = none) (new : ObjOk X.prog X.w (upd H a o) s.heap a o) : Inv X pins σ (upd H a o) s where
  ok := I.ok
  os := I.os
  bare := I.bare
  base := {
    keep := I.base.keep
    slot := I.base.slot
    free := fun b u q n x => by
      rw [upd_ne (fun z => by rw [z, h0] at q; cases q)]
      exact I.base.free b u q n x
    there := I.base.there
    tups := fun b xs q => by
      have := I.base.tups b xs q
      rw [upd_ne (ne_of_none this hn)]; exact this
    frzs := fun b u xs q => by
      have := I.base.frzs b u xs q
      rw [upd_ne (ne_of_none this hn)]; exact this
    tbls := fun b ps q => by
      obtain ⟨more, e⟩ := I.base.tbls b ps q
      exact ⟨more, by rw [upd_ne (ne_of_none e hn)]; exact e⟩ }
  loc := I.loc
  cell := I.cell
  free := by rw [upd_ne (Ne.symm hL)]; exact I.free
  freeC := fun x c q => by rw [upd_ne (hC x c q)]; exact I.freeC x c q
  pin := fun p q => by
    obtain ⟨p1, p2, p3, p4, p5⟩ := I.pin p q
    exact ⟨p1, by rw [upd_ne (hp p q)]; exact p2, p3, p4, p5⟩
  hok := HOk.laidN (P := X.prog) (w := X.w) I.hok (fun _ _ h => h) hn new
  len := I.len
/-- what 'except C as e: suite' wishes of an exception of the body, where the exception is kept: slot i is e's -/
def wKeep (K : PySem.W.Frag) (cv : Value) (i : Nat) (ts : Addr → Value → TS) (Wout : WX) (D : Ends) : WX := fun cls d σ H =>
  ∃ b, PySem.W.exmOne K cls cv = some b ∧ (b = true → d = none ∧ ∀ a, H a = none → ts a cls { nx := fun σ' H' => D.nx (σ'.set i none) (upd H' a (ExI cls a)), rt := fun _ _ => False, bk := fun _ _ => False, ct := fun _ _ => False } (σ.set i (some (.ref a))) H) ∧ (b = false → Wout cls d σ H)
section
variable {X : Cx} {x n : Str} {cv : Value} {i : Nat} {body suite : List Stmt} {b₀ : Stmt} {np pos pos' : Pos} {tb : WX → TS} {ts : Addr → Value → TS} {Wout : WX}
theorem ps_try_keep (hs : X.stack = X.env :: X.outer) (hf : X.env.frame = some X.env.locals) (hex : X.ex = []) (hN : X.N.Nodup) (hi : X.N[i]? = some n) (hln : X.env.kindOf n = some .local) (hc : Names X x cv) (tk : Takes X Wout)
    (hb : ∀ (W : WX) (pn : List (Addr × Obj)) (xe : Value → Shared → Prop), Takes (X.tr pn xe) W → PassesOwn (model X.prog X.w) X.A X.env xe → PSs (X.tr pn xe) body (tb W))
    (hsu : ∀ (a : Addr) (oe : Obj) (cls : Value) (pn : List (Addr × Obj)), PSs (X.suite a ((a, oe) :: pn)) (b₀ :: suite) (ts a cls)) :
    PS X (.Try body [.ExceptHandler (some (.Name x np)) (some n) (b₀ :: suite) pos'] [] [] pos) (fun D σ H => tb (wKeep X.K cv i ts Wout D) D σ H) := by
  refine ⟨fun pins s σ H D I h => ?_⟩
  have ok := I.ok
  have hfr : X.A.frames = some (X.env :: X.outer) := by rw [ok.frames, hs]
  have hloc : Loc X.env.scope n := .inl hln
  refine wpAny_Try_except ?_
  refine wpAny_mono ((hb (wKeep X.K cv i ts Wout D) (X.pn ++ pins) (fun e s₁ => wpAny (model X.prog X.w) X.A (noteFrame e X.env) (fun _ s₂ => wpAny (model X.prog X.w) X.A (setFlight e none) (fun _ s₃ =>
    wpAny (model X.prog X.w) X.A (handleBy e X.env [.ExceptHandler (some (.Name x np)) (some n) (b₀ :: suite) pos']) (SP X pins D) X.xe s₃) X.xe s₂) X.xe s₁) (fun u s' xx => ?_) PassesOwn.looking).run [] s σ H D (I.toTry _) h) (fun fl s1 hsp => ?_) (fun e s1 he => he)
  · obtain ⟨a, B, sI, pins', σ', H', cls, d, rfl, J', nb, up, sky, na, os, ag, b, hb1, hyes, hno⟩ := xx
    have J : Inv X pins σ' H' sI := J'.ofTry ok
    have sky' : Sky B (X.env :: X.outer) a (Zc cls d) X.env.locals s'.heap := by rw [← hs]; exact sky
    show wpAny (model X.prog X.w) X.A (noteFrame (.ref a) X.env) _ _ _
    refine Sky.land Zc.steady hfr hf sky' fun h3 fl3 up3 => ?_
    have J3 : Inv X pins σ' H' { s' with heap := h3 } := J.landed nb fl3.1 (up.trans up3) os ag
    obtain ⟨oe3, vs3, he3, hz3, hd3⟩ := fl3.there
    have notFr : ∀ {h : Heap} {o : Obj} {vs : Array Value}, h.FunFrames B (X.env :: X.outer) → h.get? a = some o → o.data = .fields vs → a ∉ frs (X.env :: X.outer) := fun {h o vs} ff e dd hm => by
      obtain ⟨_, o', e', hnf⟩ := ff.mem hm
      rw [e] at e'; cases e'
      exact hnf _ dd
    have nfr := notFr fl3.2.2.1 he3 hd3
    have nL : a ≠ X.env.locals := fun z => nfr (List.mem_filterMap.mpr ⟨X.env, List.mem_cons_self, by rw [hf, z]⟩)
    have nF : a ∉ X.fs := fun hm => by
      obtain ⟨e, he, q⟩ := List.mem_filterMap.mp hm
      exact nfr (List.mem_filterMap.mpr ⟨e, List.mem_cons_of_mem _ he, q⟩)
    have nI : sI.heap.get? a = none := by
      cases q : sI.heap.get? a with
      | none => rfl
      | some o =>
        have := nb a o q (by rw [hs]; exact nfr)
        rw [fl3.2.1] at this
        cases this
    have n0 : X.s_0.heap.get? a = none := by
      cases q : X.s_0.heap.get? a with
      | none => rfl
      | some o =>
        obtain ⟨o', e⟩ := J.base.there a o q (by rw [hex]; exact List.not_mem_nil)
        rw [nI] at e
        cases e
    have nP : ∀ p ∈ X.pn ++ pins, p.1 ≠ a := fun p hp z => by
      have := (J.pin p hp).1
      rw [z, nI] at this
      cases this
    have S3 := J3.suite he3 hd3 na nL nF
    refine wpAny_handleBy_cons (codeAny_handlers_test ?_) (by intro q; cases q)
    have LT : PySem.W.Looks (model X.prog X.w) h3 (typeOf (.ref a)) cls := fun A Q E s k q => wpAny_typeOf_ref (k _ _ he3) (by rw [hz3.1]; exact q)
    have LM := PySem.W.exm_one (M := model X.prog X.w) (J3.kIn) LT hb1
    have test : ∀ {Q : Value → Shared → Prop} {E : Value → Shared → Prop}, Q cv { s' with heap := h3 } → wpAny (model X.prog X.w) (X.A.mark (some (.ref a))) (eval (.Name x np) X.env) Q E { s' with heap := h3 } := fun {Q E} q => by
      obtain ⟨hg, hdbg, hm | ⟨hm, hv, hnn⟩⟩ := hc
      · exact ld_glob (X := X.suite a ((a, oe3) :: (X.pn ++ pins))) S3 hg hm q hdbg
      · exact ld_blt (X := X.suite a ((a, oe3) :: (X.pn ++ pins))) S3 hg hm hv q hnn hdbg
    refine test (LM.here ?_)
    cases b with
    | true =>
      refine codeAny_handlers_suite_as ?_
      refine HandSPX.lands_againZ fl3 fun h4 fl4 up4 => ?_
      have J4 : Inv X pins σ' H' { s' with heap := h4 } := J.landed nb fl4.1 ((up.trans up3).trans up4) os ag
      obtain ⟨oe4, vs4, he4, hz4, hd4⟩ := fl4.there
      have S4 := J4.suite he4 hd4 na nL nF
      obtain ⟨hdn, hyes2⟩ := hyes rfl
      subst hdn
      refine store_ok (X := X.suite a ((a, oe4) :: (X.pn ++ pins))) (v := .ref a) S4 hN hi hloc rfl (fun s5 S5 => ?_) (.inr hln)
      refine wpAny_mono ((hsu a oe4 cls (X.pn ++ pins)).run [] s5 _ H' _ S5 (hyes2 a na)) (fun fl s6 hsp => ?_) (fun _ _ z => False.elim z)
      cases fl with
      | next =>
        obtain ⟨σ6, H6, S6, q6⟩ := hsp
        obtain ⟨e6, n6, l6, f6, c6⟩ := S6.pin (a, oe4) (List.mem_append_left _ List.mem_cons_self)
        have J6 : Inv X pins σ6 (upd H6 a (ExI cls a)) s6 := inv_track (S6.unsuite ok) n6 nL (fun y c q z => by
          obtain ⟨v, o, h1, h2⟩ := (S6.unsuite ok).cell y c q
          rw [z, e6] at h1
          cases h1
          exact c6 v h2) nP n0 (exI_ok e6 hz4 hd4)
        exact gone_ok J6 hN hi hln fun s7 J7 => ⟨_, _, J7, q6⟩
      | brk =>
        obtain ⟨σ6, H6, S6, q6⟩ := hsp
        exact q6.elim
      | cont =>
        obtain ⟨σ6, H6, S6, q6⟩ := hsp
        exact q6.elim
      | ret u =>
        obtain ⟨v6, σ6, H6, S6, r6, q6⟩ := hsp
        exact q6.elim
    | false =>
      show wpAny _ X.A (handleBy (.ref a) X.env []) _ _ _
      refine wpAny_handleBy_nil ?_
      obtain ⟨k1, k2, k3, oe, vs, T, oT, ts', he, hz, hd, h1, hr⟩ := id fl3
      unfold PySem.passOn
      refine wpAny_bind (wpAny_field he hd h1 ?_)
      rw [if_neg (show ¬ ((Value.ref T == Value.none) = true) from by simp)]
      have fin : wpAny (model X.prog X.w) X.A (setFlight (.ref a) X.env.frame) (fun _ s4 => wpAny (model X.prog X.w) X.A (throw (.ref a) : Sem Flow) (SP X pins D) X.xe s4) X.xe { s' with heap := h3 } := by
        rw [hf]
        refine HandSPX.setFlight_upZ fl3 fun h4 hh4 up4 => wpAny_throw (tk _ _ ?_)
        exact ⟨a, B, sI, pins, σ', H', cls, d, rfl, J, nb, (up.trans up3).trans up4, .inr (.inr (by rw [hs]; exact hh4)), na, os, ag, hno rfl⟩
      first
        | exact wpAny_bind (wpAny_pure (wpAny_bind fin))
        | exact wpAny_bind fin
  · cases fl with
    | next =>
      obtain ⟨σ', H', J', q⟩ := hsp
      exact wpAny_execs_nil ⟨σ', H', J'.ofTry ok, q⟩
    | brk =>
      obtain ⟨σ', H', J', q⟩ := hsp
      exact ⟨σ', H', J'.ofTry ok, q⟩
    | cont =>
      obtain ⟨σ', H', J', q⟩ := hsp
      exact ⟨σ', H', J'.ofTry ok, q⟩
    | ret u =>
      obtain ⟨v, σ', H', J', r, q⟩ := hsp
      exact ⟨v, σ', H', J'.ofTry ok, r, q⟩
end
/-! ### isinstance of a class of one's own -/
theorem clsOf_one {K : PySem.W.Frag} {k : Nat} {a b : Value} (h : ClsOf K k a) (h2 : ClsOf K k b) : a = b := by
  unfold ClsOf at h h2
  rw [h] at h2
  cases h2
  rfl
def rIsx (K : PySem.W.Frag) : List V → Hp → VK → Prop := fun xs H Q => ∃ (v c : V) (cv : Value) (b : Bool), xs = [v, c] ∧ ClsV c cv ∧ ((v = .non ∧ PySem.W.kitOne K (.type "NoneType") cv = some b) ∨ (∃ a D, v = .ref a ∧ H a = some (ExI (.ref D) a) ∧ ExcC K D ∧ PySem.W.kitOne K (.ref D) cv = some b)) ∧ Q (.bl b) H
theorem call_isx {X : Cx} : CallR X (.builtin "isinstance") (rIsx X.K) := by
  intro pins s σ H xs us Q I r h
  obtain ⟨v, c, cv, b, rfl, hcv, hv, q⟩ := h
  cases r with
  | cons rx rr =>
    cases rr with
    | cons rt rr =>
      cases rr
      have ec := hcv.eq rt
      subst ec
      rcases hv with ⟨e, hk⟩ | ⟨a, D, e, ha, C, hk⟩
      · subst e
        cases rx
        exact PySem.W.kia_one PySem.W.kitx_none I.kIn True.intro hk (fun z => nomatch z) fun tk => ⟨.bl b, H, I.kept (t' := tk) fun _ _ z => z, rfl, q⟩
      · subst e
        cases rx
        have ho : ObjOk X.prog X.w H s.heap a (ExI (.ref D) a) := I.hok a _ ha
        obtain ⟨⟨oe, vs, hget, hz, hv⟩, _⟩ := ho
        have J : PySem.W.InstAt s.heap a oe D none := by
          obtain ⟨oc, od, oda, osl⟩ := oe
          obtain ⟨h1, h2⟩ := hz
          dsimp only at h1 h2 hv
          subst h1 h2 hv
          exact ⟨hget, rfl, rfl, trivial⟩
        exact PySem.W.kia_one (PySem.W.handS_kitx_exc C.hg C.hk C.hs C.hd C.ha C.hn C.ht C.hm) I.kIn J hk (fun z => nomatch z) fun tk => ⟨.bl b, H, I.kept (t' := tk) fun _ _ z => z, rfl, q⟩
/-- is the class k above the class c, where c may be raised and k is named -/
def sbOf (R E : List Nat) (c k : Nat) : Option Bool := if (R.contains c && E.contains k) = true then some (c == k || k == 0 || k == 11) else none
theorem sbOf_some {R E : List Nat} {c k : Nat} {b : Bool} (h : sbOf R E c k = some b) : c ∈ R ∧ k ∈ E ∧ (c == k || k == 0 || k == 11) = b := by
  unfold sbOf at h
  split at h
  · rename_i q
    rw [Bool.and_eq_true, List.contains_iff_mem, List.contains_iff_mem] at q
    cases h
    exact ⟨q.1, q.2, rfl⟩
  · cases h
theorem exm_kit {K : PySem.W.Frag} {t cv : Value} {b : Bool} (hs : PySem.W.subIn K cv (.type "BaseException") = some true) (hl : PySem.W.kitCls K t t = some true) (hk : PySem.W.kitOne K t cv = some b) : PySem.W.exmOne K t cv = some b := by
  have e1 : (PySem.W.subIn K cv (.type "BaseException") == some true) = true := by rw [hs]; rfl
  show (if (PySem.W.subIn K cv (.type "BaseException") == some true) = true then PySem.W.kitCls K t cv else none) = some b
  rw [if_pos e1]
  unfold PySem.W.kitOne at hk
  split at hk
  · rename_i q
    have := eq_of_beq q
    subst this
    cases hk
    exact hl
  · exact hk
/-- what the written part says of the classes -/
structure ExFacts (EX : List Nat) (K : PySem.W.Frag) (mg : Str → Option Value) (cls : Nat → Value) (sub : Nat → Nat → Option Bool) : Prop where
  pair : ∀ c k b, sub c k = some b → (∃ D, cls c = .ref D ∧ ExcC K D) ∧ ClsOf K c (cls c) ∧ PySem.W.kitOne K (cls c) (cls k) = some b ∧ PySem.W.exmOne K (cls c) (cls k) = some b
  non : ∀ k, k ∈ EX → PySem.W.kitOne K (.type "NoneType") (cls k) = some false
  nm : ∀ k, k ∈ EX → ((∃ C, cls k = .ref C) ∧ mg (exName k) = some (cls k)) ∨ (k = 11 ∧ cls k = .type "ValueError" ∧ mg (exName k) = none)
  rs : ∀ k, k ∈ EX → k ≠ 11 → ∃ (C : Addr) (B newId initId : String) (bmB : List Value), cls k = .ref C ∧ ExcBaseFacts B newId initId bmB ∧ PySem.W.excIn K C bmB newId = true ∧ PySem.W.keepIn K (.ref C) = true ∧ PySem.W.subIn K (.ref C) (.type "BaseException") = some true ∧ PySem.W.typeIn K (.ref C) = some (.type "type")
section
variable {EX : List Nat} {X : Cx} {c : Cn} {W : WX} {b : Bool} {ea : E} {pos : Pos}
theorem s_isx {p p2 : Pos} {k : Nat} {e : Expr} (F : ExFacts EX X.K X.mg c.cls c.cfg.sub) (hk : k ∈ EX) (hK : c.K = X.K) (hg : Gl X "isinstance") (hm : X.mg "isinstance" = none) (hg2 : Gl X (exName k)) (hdb : (exName k == ("__debug__" : Str)) = false) (ha : PE X e (TEr c W b ea)) (hn : notStar e = true) :
    PE X (.Call (.Name "isinstance" p) [e, .Name (exName k) p2] [] pos) (TEr c W false (.isx k ea)) := by
  obtain ⟨v, he, hv⟩ : ∃ v, PE X (.Name (exName k) p2) (tC v) ∧ ClsV v (c.cls k) := by
    rcases F.nm k hk with ⟨⟨C, e⟩, hm⟩ | ⟨e1, e2, hm⟩
    · rw [e] at hm ⊢
      exact ⟨.ref C, pe_glob hg2 hm rfl hdb, .own C⟩
    · subst e1
      rw [e2]
      exact ⟨.ty "ValueError", pe_bltn hg2 hm (by decide +kernel) rfl (by decide) hdb, .ty _⟩
  refine pe_imp (pe_callB call_isx hg hm boot_isi (pa_cons ha (pa_cons he pa_nil rfl) (star_of hn)) (by decide +kernel) (by decide +kernel) (star_of hn) rfl) fun σ H Q h => ?_
  obtain ⟨G, L, m, ρ, E, h⟩ := h
  rw [evE] at h
  refine TEr.bind E h fun d m1 w H1 L1 q1 s1 E1 r1 h1 => ?_
  show rIsx X.K [w, v] H1 Q
  cases d with
  | non =>
    refine ⟨w, v, _, false, rfl, hv, .inl ⟨r1.non, F.non k hk⟩, ?_⟩
    exact Pst.val E1 h1 (.inl (.bl _))
  | exc j =>
    have h1' : Pst c W false G L1 σ H1 Q (.opt ((c.cfg.sub j k).map D.bl) m1) := h1
    cases hs : c.cfg.sub j k with
    | none => rw [hs] at h1'; exact (show False from h1').elim
    | some t =>
      rw [hs] at h1'
      obtain ⟨⟨D, e, C⟩, hc, hk1, _⟩ := F.pair j k t hs
      rcases r1 with r1 | ⟨_, _, _, _, r1⟩
      · cases r1 with
        | exc hc2 ho =>
          rw [hK] at hc2
          have e2 := clsOf_one hc2 hc
          rw [e] at e2 hk1
          subst e2
          exact ⟨_, v, _, t, rfl, hv, .inr ⟨_, D, rfl, hide_sub _ _ ho, C, hk1⟩, Pst.val E1 h1' (.inl (.bl _))⟩
      · cases r1
  | _ => exact (show False from h1).elim
end
end MP

set_option maxRecDepth 100000
set_option maxHeartbeats 4000000
set_option autoImplicit false
namespace MP
namespace TZ
open PySem
open Sem (wp)

/-! ### tuple(zip(a, b)): the machine's going -/
theorem zip_no_len : typeLookup (.type "zip") "__len__" = pure none := am_miss_of_fast (by decide +kernel)
theorem zip_no_hint : typeLookup (.type "zip") "__length_hint__" = pure none := am_miss_of_fast (by decide +kernel)
section
variable {prog : Program} {w : World} {A : Around} {s : Shared}
/-- the zip behind i items; S: the list that is filled; n0: the objects below stood ahead -/
structure ZSt (z TI TO i1 i2 l1 l2 S n0 : Addr) (xs ys : Array Value) (i : Nat) (h : Heap) : Prop where
  ti : IsPair h TI (.ref i1) (.ref i2)
  a1 : h.IsListIter i1 l1 i
  a2 : h.IsListIter i2 l2 i
  b1 : h.IsList l1 xs
  b2 : h.IsList l2 ys
  sz : n0 ≤ h.objs.size
  st : (IsZip h z TI TO .none ∧ ∃ a b, IsPair h TO a b) ∨ ∃ T f oT, IsZipHeld h z TI TO T f ∧ h.get? T = some oT ∧ T ≠ z ∧ T ≠ i1 ∧ T ≠ i2 ∧ T ≠ S
/-- all of them stood ahead -/
structure Low (z TI TO i1 i2 l1 l2 S n0 : Addr) : Prop where
  pz : z < n0
  pTO : TO < n0
  pi1 : i1 < n0
  pi2 : i2 < n0
  pS : S < n0
  Sz : S ≠ z
  STI : S ≠ TI
  STO : S ≠ TO
  Si1 : S ≠ i1
  Si2 : S ≠ i2
  Sl1 : S ≠ l1
  Sl2 : S ≠ l2
variable {z TI TO i1 i2 l1 l2 S n0 : Addr} {xs ys : Array Value}
theorem ZSt.frame {i : Nat} {h h' : Heap} (w : Low z TI TO i1 i2 l1 l2 S n0) (x : ZSt z TI TO i1 i2 l1 l2 S n0 xs ys i h) (k : ∀ b o, b ≠ S → h.get? b = some o → h'.get? b = some o) (hz : h.objs.size ≤ h'.objs.size) : ZSt z TI TO i1 i2 l1 l2 S n0 xs ys i h' where
  ti := k _ _ (Ne.symm w.STI) x.ti
  a1 := x.a1.at fun o e => k _ o (Ne.symm w.Si1) e
  a2 := x.a2.at fun o e => k _ o (Ne.symm w.Si2) e
  b1 := x.b1.at fun o e => k _ o (Ne.symm w.Sl1) e
  b2 := x.b2.at fun o e => k _ o (Ne.symm w.Sl2) e
  sz := Nat.le_trans x.sz hz
  st := by
    rcases x.st with ⟨hz, a, b, hTO⟩ | ⟨T, f, oT, hz, hT, r1, r2, r3, r4⟩
    · exact .inl ⟨k _ _ (Ne.symm w.Sz) hz, a, b, k _ _ (Ne.symm w.STO) hTO⟩
    · exact .inr ⟨T, f, oT, k _ _ (Ne.symm w.Sz) hz, k _ _ r4 hT, r1, r2, r3, r4⟩
theorem ZSt.item {i : Nat} {Q : Option Value → Shared → Prop} {E : Value → Shared → Prop} {x y : Value} (D : ZipApart z TI TO i1 i2 l1 l2) (w0 : Low z TI TO i1 i2 l1 l2 S n0) (st : ZSt z TI TO i1 i2 l1 l2 S n0 xs ys i s.heap) (ex : xs[i]? = some x) (ey : ys[i]? = some y)
    (hQ : ∀ h' : Heap, IsPair h' s.heap.objs.size x y → ZSt z TI TO i1 i2 l1 l2 S n0 xs ys (i + 1) h' → (∀ b o, b ∉ [z, TO, i1, i2] → s.heap.get? b = some o → h'.get? b = some o) → Q (some (.ref s.heap.objs.size)) { s with heap := h' }) :
    wpAny (model prog w) A (pyNext (.ref z)) Q E s := by
  have lt : ∀ {c o}, s.heap.get? c = some o → s.heap.objs.size ≠ c := fun e => Nat.ne_of_gt (Heap.lt_size e)
  have n1 : s.heap.objs.size ≠ i1 := let ⟨_, e, _⟩ := st.a1; lt e
  have n2 : s.heap.objs.size ≠ i2 := let ⟨_, e, _⟩ := st.a2; lt e
  have nS : s.heap.objs.size ≠ S := Nat.ne_of_gt (Nat.lt_of_lt_of_le w0.pS st.sz)
  rcases st.st with ⟨hz, a, b, hTO⟩ | ⟨T, f, oT, hz, hT, r1, r2, r3, r4⟩
  · refine wpAny_pyNext_zip_item D hz st.ti hTO st.a1 st.a2 st.b1 st.b2 ex ey fun h' a1 a2 a3 a4 a5 a6 hk => ?_
    exact hQ h' a5 ⟨hk _ _ D.TIz D.TITO D.TIi1 D.TIi2 st.ti, a3, a4, st.b1.at fun o e => hk _ o D.l1z D.l1TO D.l1i1 D.l1i2 e, st.b2.at fun o e => hk _ o D.l2z D.l2TO D.l2i1 D.l2i2 e, by rw [a6]; exact Nat.le_succ_of_le st.sz,
      .inr ⟨s.heap.objs.size, false, _, a1, a5, lt hz, n1, n2, nS⟩⟩
      fun c o hc e => hk c o (fun x => hc (by simp [x])) (fun x => hc (by simp [x])) (fun x => hc (by simp [x])) (fun x => hc (by simp [x])) e
  · refine wpAny_pyNext_zip_item_held D hz hT st.ti st.a1 st.a2 st.b1 st.b2 ex ey fun h' a1 a3 a4 a5 a6 hk => ?_
    exact hQ h' a5 ⟨hk _ _ D.TIz D.TIi1 D.TIi2 st.ti, a3, a4, st.b1.at fun o e => hk _ o D.l1z D.l1i1 D.l1i2 e, st.b2.at fun o e => hk _ o D.l2z D.l2i1 D.l2i2 e, by rw [a6]; exact Nat.le_succ_of_le st.sz,
      .inr ⟨T, true, oT, a1, hk _ _ r1 r2 r3 hT, r1, r2, r3, r4⟩⟩
      fun c o hc e => hk c o (fun x => hc (by simp [x])) (fun x => hc (by simp [x])) (fun x => hc (by simp [x])) e
theorem ZSt.done {Q : Option Value → Shared → Prop} {E : Value → Shared → Prop} {i : Nat} (hh : A.handled = none) (D : ZipApart z TI TO i1 i2 l1 l2) (st : ZSt z TI TO i1 i2 l1 l2 S n0 xs ys i s.heap) (hend : xs[i]? = none ∨ ys[i]? = none)
    (hQ : ∀ h' : Heap, (∀ b o, b ∉ [z, TO, i1, i2] → s.heap.get? b = some o → h'.get? b = some o) → Q none { s with heap := h' }) : wpAny (model prog w) A (pyNext (.ref z)) Q E s := by
  rcases st.st with ⟨hz, a, b, hTO⟩ | ⟨T, f, oT, hz, hT, r1, r2, r3, r4⟩
  · exact wpAny_pyNext_zip_end hh D hz st.ti hTO st.a1 st.a2 st.b1 st.b2 hend fun h' hk => hQ h' fun c o hc e => hk c o (fun x => hc (by simp [x])) (fun x => hc (by simp [x])) (fun x => hc (by simp [x])) (fun x => hc (by simp [x])) e
  · exact wpAny_pyNext_zip_end_held hh D hz hT st.ti st.a1 st.a2 st.b1 st.b2 hend fun h' hk => hQ h' fun c o hc e => hk c o (fun x => hc (by simp [x])) (fun x => hc (by simp [x])) (fun x => hc (by simp [x])) e
/-- what was put in so far -/
structure Accs (n0 : Addr) (xs ys : Array Value) (h : Heap) (acc : Array Value) (i : Nat) : Prop where
  size : acc.size = i
  it : ∀ j, j < i → ∃ T x y, acc[j]? = some (.ref T) ∧ xs[j]? = some x ∧ ys[j]? = some y ∧ IsPair h T x y ∧ n0 ≤ T
  inj : ∀ j k T, j < k → k < i → acc[j]? = some (.ref T) → acc[k]? ≠ some (.ref T)
theorem Accs.keep {h h' : Heap} {acc : Array Value} {i : Nat} (x : Accs n0 xs ys h acc i) (k : ∀ b o, n0 ≤ b → h.get? b = some o → h'.get? b = some o) : Accs n0 xs ys h' acc i :=
  ⟨x.size, fun j hj => let ⟨T, a, b, e1, e2, e3, e4, e5⟩ := x.it j hj; ⟨T, a, b, e1, e2, e3, k _ _ e5 e4, e5⟩, x.inj⟩
theorem extend_zip {R : Result → Shared → Prop} {n : Nat} (hh : A.in1.handled = none) (D : ZipApart z TI TO i1 i2 l1 l2) (w0 : Low z TI TO i1 i2 l1 l2 S n0) (hn : n ≤ sizeLine) (hx : n ≤ xs.size) (hy : n ≤ ys.size) (hend : xs[n]? = none ∨ ys[n]? = none) (res : Value) :
    ∀ (k i : Nat) (s : Shared) (acc : Array Value) (c : Nat), n - i = k → i ≤ n → ZSt z TI TO i1 i2 l1 l2 S n0 xs ys i s.heap → s.heap.get? S = some { cls := .type "list", dict := none, data := .seq acc c, slots := #[] } → Accs n0 xs ys s.heap acc i →
    (∀ h' acc' c', (∀ b o, b ∉ [S, z, TO, i1, i2] → s.heap.get? b = some o → h'.get? b = some o) → h'.get? S = some { cls := .type "list", dict := none, data := .seq acc' c', slots := #[] } → Accs n0 xs ys h' acc' n → R (.ok (.ret res)) { s with heap := h' }) →
    codeAny (model prog w) A (.builtin "list.extend.loop" ⟨[.ref S, .ref z, res], []⟩) R s := by
  have hSw : S ∉ [z, TO, i1, i2] := fun h => by
    simp only [List.mem_cons, List.not_mem_nil, or_false] at h
    rcases h with h | h | h | h
    · exact w0.Sz h
    · exact w0.STO h
    · exact w0.Si1 h
    · exact w0.Si2 h
  have big : ∀ {a b : Addr}, a < n0 → n0 ≤ b → b ≠ a := fun h1 h2 h => by
    subst h
    exact absurd (Nat.lt_of_lt_of_le h1 h2) (Nat.lt_irrefl _)
  have high : ∀ b, n0 ≤ b → b ∉ [z, TO, i1, i2] := fun b hb h => by
    simp only [List.mem_cons, List.not_mem_nil, or_false] at h
    rcases h with h | h | h | h
    · exact big w0.pz hb h
    · exact big w0.pTO hb h
    · exact big w0.pi1 hb h
    · exact big w0.pi2 hb h
  have hsub : ∀ b, b ∉ [S, z, TO, i1, i2] → b ∉ [z, TO, i1, i2] := fun b hb h => hb (List.mem_cons_of_mem _ h)
  have highS : ∀ b, n0 ≤ b → b ≠ S := fun b hb => big w0.pS hb
  intro k
  induction k with
  | zero =>
    intro i s acc c hk hi hst hS hacc hR
    have hin : i = n := by omega
    subst hin
    refine codeAny_builtin F.entry_extend_loop ?_
    rw [Around.under_plainId F.plain_extend_loop _]
    show wpAny _ A.in1 (pyNext (.ref z) >>= _) _ _ s
    refine wpAny_bind (hst.done hh D hend fun h' hk => ?_)
    exact wpAny_pure (hR h' acc c (fun b o hb e => hk b o (hsub b hb) e) (hk S _ hSw hS) (hacc.keep fun b o hb e => hk b o (high b hb) e))
  | succ k ih =>
    intro i s acc c hk hi hst hS hacc hR
    have hlt : i < n := by omega
    refine codeAny_builtin F.entry_extend_loop ?_
    rw [Around.under_plainId F.plain_extend_loop _]
    show wpAny _ A.in1 (pyNext (.ref z) >>= _) _ _ s
    have ex := Array.getElem?_eq_getElem (Nat.lt_of_lt_of_le hlt hx)
    have ey := Array.getElem?_eq_getElem (Nat.lt_of_lt_of_le hlt hy)
    refine wpAny_bind (hst.item D w0 ex ey fun h' hP hst' hm => ?_)
    have hS' := hm S _ hSw hS
    show wpAny _ A.in1 (updateSeq S (·.push (.ref s.heap.objs.size)) >>= _) _ _ _
    refine wpAny_bind ?_
    have oth : ∀ b o, b ≠ S → h'.get? b = some o → (h'.update S (Obj.mapSeq (·.push (.ref s.heap.objs.size)))).get? b = some o := fun b o hb e => (Heap.get?_update_other _ _ (Ne.symm hb)).trans e
    refine wpAny_updateSeq hS' rfl (wpAny_pure ⟨plainId_quiet F.plain_extend_loop _, ih (i + 1) _ (acc.push (.ref s.heap.objs.size)) _ (by omega) hlt (hst'.frame w0 (fun b o hb e => oth b o hb e) (by rw [Heap.size_update]; exact Nat.le_refl _)) (Heap.get?_update_self _ hS' rfl) ⟨by rw [Array.size_push, hacc.size], fun j hj => ?_, fun j k2 T hjk hk2 e1 e2 => ?_⟩ fun h'' acc' c' hm'' hS'' hacc' => ?_⟩)
      (by rw [hacc.size]; omega) (by show (acc.push _).size ≤ sizeLine + 1; rw [Array.size_push, hacc.size]; omega)
    · by_cases hj' : j < i
      · obtain ⟨T, a, b, e1, e2, e3, e4, e5⟩ := hacc.it j hj'
        refine ⟨T, a, b, ?_, e2, e3, oth _ _ (highS T e5) (hm _ _ (high T e5) e4), e5⟩
        rw [Array.getElem?_push, if_neg (by rw [hacc.size]; omega)]
        exact e1
      · have hji : j = i := by omega
        subst hji
        refine ⟨s.heap.objs.size, _, _, ?_, ex, ey, oth _ _ (highS _ hst.sz) hP, hst.sz⟩
        rw [Array.getElem?_push, if_pos (by rw [hacc.size])]
    · have hj' : j < i := by omega
      rw [Array.getElem?_push, if_neg (by rw [hacc.size]; omega)] at e1
      by_cases hk' : k2 < i
      · rw [Array.getElem?_push, if_neg (by rw [hacc.size]; omega)] at e2
        exact hacc.inj j k2 T hjk hk' e1 e2
      · rw [Array.getElem?_push, if_pos (by rw [hacc.size]; omega)] at e2
        obtain ⟨T', a, b, f1, _, _, f4, _⟩ := hacc.it j hj'
        rw [f1] at e1
        cases e1
        cases e2
        exact absurd (Heap.lt_size f4) (Nat.lt_irrefl _)
    · refine hR h'' acc' c' (fun b o hb e => hm'' b o hb (oth b o (fun z => hb (by rw [z]; exact List.mem_cons_self)) (hm b o (hsub b hb) e))) hS'' hacc'
theorem collect_zip {a b : Value} {Q : List Value → Shared → Prop} {E : Value → Shared → Prop} (hh : A.handled = none) (D : ZipApart z TI TO i1 i2 l1 l2) (hz : IsZip s.heap z TI TO .none) (hTI : IsPair s.heap TI (.ref i1) (.ref i2)) (hTO : IsPair s.heap TO a b) (h1 : s.heap.IsListIter i1 l1 0) (h2 : s.heap.IsListIter i2 l2 0)
    (hl1 : s.heap.IsList l1 xs) (hl2 : s.heap.IsList l2 ys) (hn : min xs.size ys.size ≤ sizeLine)
    (hQ : ∀ (h' : Heap) (acc : Array Value), (∀ b o, b ∉ [z, TO, i1, i2] → s.heap.get? b = some o → h'.get? b = some o) → Accs (s.heap.objs.size + 1) xs ys h' acc (min xs.size ys.size) → Q acc.toList { s with heap := h' }) :
    wpAny (model prog w) A (collect (.ref z)) Q E s := by
  have lt : ∀ {c o}, s.heap.get? c = some o → c < s.heap.objs.size := fun e => Heap.lt_size e
  have lz := lt hz
  have lTI := lt hTI
  have lTO := lt hTO
  have li1 : i1 < s.heap.objs.size := let ⟨_, e, _⟩ := h1; lt e
  have li2 : i2 < s.heap.objs.size := let ⟨_, e, _⟩ := h2; lt e
  have ll1 : l1 < s.heap.objs.size := let ⟨_, e, _⟩ := hl1; lt e
  have ll2 : l2 < s.heap.objs.size := let ⟨_, e, _⟩ := hl2; lt e
  have ne : ∀ {c : Nat}, c < s.heap.objs.size → s.heap.objs.size ≠ c := fun h => Nat.ne_of_gt h
  have w0 : Low z TI TO i1 i2 l1 l2 s.heap.objs.size (s.heap.objs.size + 1) := ⟨Nat.lt_succ_of_lt lz, Nat.lt_succ_of_lt lTO, Nat.lt_succ_of_lt li1, Nat.lt_succ_of_lt li2, Nat.lt_succ_self _, ne lz, ne lTI, ne lTO, ne li1, ne li2, ne ll1, ne ll2⟩
  have hSI : s.heap.objs.size ≠ z := ne lz
  unfold collect
  refine wpAny_bind (wpAny_runValue (codeAny_builtin F.entry_proto_collect ?_))
  rw [Around.under_plainId F.plain_proto_collect _]
  show wpAny _ A.in1 (newList [] >>= fun l => again (.builtin "list.__iadd__" ⟨[l, .ref z], []⟩)) _ _ s
  refine wpAny_bind (wpAny_newObj_type ?_)
  refine wpAny_pure ⟨plainId_quiet F.plain_list_iadd _, codeAny_builtin F.entry_list_iadd ?_⟩
  rw [Around.under_plainId F.plain_list_iadd _]
  have old : ∀ b o, s.heap.get? b = some o → (s.heap.push { cls := .type "list", data := .seq ([] : List Value).toArray }).get? b = some o := fun b o e => Heap.get?_push_of_some _ e
  have hz1 := old _ _ hz
  have hT : ({ s with heap := s.heap.push { cls := .type "list", data := .seq ([] : List Value).toArray } } : Shared).TypeIs (.ref z) "zip" := ⟨_, hz1, rfl⟩
  show wpAny _ A.in1 (Builtin.List.listExtendWith (.ref s.heap.objs.size) (.ref z) (.ref s.heap.objs.size)) _ _ _
  unfold Builtin.List.listExtendWith
  refine wpAny_bind (wpAny_typeOf hT ?_)
  have g1 : Builtin.List.listSameRef (.ref s.heap.objs.size) (.ref z) = false := by simp [Builtin.List.listSameRef, hSI]
  have g2 : (Value.type "zip" == Value.type "list") = false := by decide
  have g3 : (Value.type "zip" == Value.type "tuple") = false := by decide
  simp only [g1, g2, g3, Bool.or_false, Bool.false_eq_true, if_false]
  refine wpAny_bind (wpAny_pyIter_zip hz1 ?_)
  refine wpAny_bind (wpAny_holding ?_)
  unfold Builtin.List.listLengthHint
  refine wpAny_bind (wpAny_specialOf hT zip_no_len ?_)
  show wpAny _ A.in1 (specialOf (Value.ref z) (Str.ofString "__length_hint__") >>= _) _ _ _
  refine wpAny_bind (wpAny_specialOf hT zip_no_hint ?_)
  refine wpAny_pure ?_
  show wpAny _ A.in1 (rule "list.extend.makes-room" >>= fun _ => Builtin.List.listTouch (.ref s.heap.objs.size) >>= fun _ =>
    again (.builtin "list.extend.loop" ⟨[.ref s.heap.objs.size, .ref z, .ref s.heap.objs.size], []⟩)) _ _ _
  refine wpAny_bind (wpAny_rule ?_)
  have hS₁ : (s.heap.push { cls := .type "list", data := .seq ([] : List Value).toArray }).get? s.heap.objs.size = some { cls := .type "list", data := .seq ([] : List Value).toArray } := Heap.get?_push_size _ rfl
  refine wpAny_bind ?_
  show wpAny _ A.in1 (updateSeq s.heap.objs.size (·.push .none) >>= fun _ => updateSeq s.heap.objs.size (·.pop)) _ _ _
  refine wpAny_bind (wpAny_updateSeq hS₁ rfl ?_)
  have hS₂ := Heap.get?_update_self (Obj.mapSeq (·.push Value.none)) hS₁ rfl
  refine wpAny_updateSeq hS₂ rfl ?_
  have hS₃ := Heap.get?_update_self (Obj.mapSeq (·.pop)) hS₂ rfl
  have oth : ∀ b o, s.heap.get? b = some o →
      (((s.heap.push { cls := .type "list", data := .seq ([] : List Value).toArray }).update s.heap.objs.size (Obj.mapSeq (·.push Value.none))).update s.heap.objs.size (Obj.mapSeq (·.pop))).get? b = some o :=
    fun b o e => by
      have hb : s.heap.objs.size ≠ b := ne (lt e)
      exact (Heap.get?_update_other _ _ hb).trans ((Heap.get?_update_other _ _ hb).trans (old b o e))
  have hend : xs[min xs.size ys.size]? = none ∨ ys[min xs.size ys.size]? = none := by
    rcases Nat.le_total xs.size ys.size with h | h
    · exact .inl (Array.getElem?_eq_none (by rw [Nat.min_eq_left h]; exact Nat.le_refl _))
    · exact .inr (Array.getElem?_eq_none (by rw [Nat.min_eq_right h]; exact Nat.le_refl _))
  refine wpAny_pure ⟨plainId_quiet F.plain_extend_loop _, extend_zip (A := A) hh D w0 hn (Nat.min_le_left ..) (Nat.min_le_right ..) hend _ _ 0 _ _ _ rfl (Nat.zero_le _)
    ⟨oth _ _ hTI, h1.at fun o e => oth _ o e, h2.at fun o e => oth _ o e, hl1.at fun o e => oth _ o e, hl2.at fun o e => oth _ o e, by rw [Heap.size_update, Heap.size_update, Heap.size_push]; exact Nat.le_refl _, .inl ⟨oth _ _ hz, _, _, oth _ _ hTO⟩⟩ hS₃ ⟨rfl, fun j hj => absurd hj (Nat.not_lt_zero _), fun j k T _ hk => absurd hk (Nat.not_lt_zero _)⟩ fun h' acc' c' hm hS' hacc => ?_⟩
  show wpAny _ A (load s.heap.objs.size >>= _) _ _ _
  refine wpAny_bind (wpAny_load hS' ?_)
  refine wpAny_pure (hQ h' acc' (fun b o hb e => hm b o (fun hmem => ?_) (oth b o e)) hacc)
  rcases List.mem_cons.mp hmem with e' | hmem
  · exact ne (lt e) e'.symm
  · exact hb hmem
theorem code_tuple_new_zip {a b : Value} {Q₁ : Value → Shared → Prop} {E : Value → Shared → Prop} (hh : A.handled = none) (D : ZipApart z TI TO i1 i2 l1 l2) (hz : IsZip s.heap z TI TO .none) (hTI : IsPair s.heap TI (.ref i1) (.ref i2)) (hTO : IsPair s.heap TO a b) (h1 : s.heap.IsListIter i1 l1 0) (h2 : s.heap.IsListIter i2 l2 0)
    (hl1 : s.heap.IsList l1 xs) (hl2 : s.heap.IsList l2 ys) (hn : min xs.size ys.size ≤ sizeLine)
    (h : ∀ (h' : Heap) (acc : Array Value), (∀ b o, b ∉ [z, TO, i1, i2] → s.heap.get? b = some o → h'.get? b = some o) → Accs (s.heap.objs.size + 1) xs ys h' acc (min xs.size ys.size) → Q₁ (.ref h'.objs.size) { s with heap := h'.push { cls := .type "tuple", data := .seq acc } }) :
    codeAny (model prog w) A (.call (.builtin "tuple.__new__") ⟨[.type "tuple", .ref z], []⟩) (wants Q₁ E) s := by
  refine codeAny_of_tree ?_
  show wpAny _ A.in1 (do checkBuiltinCall "tuple.__new__" ⟨[.type "tuple", .ref z], []⟩; again (.builtin "tuple.__new__" ⟨[.type "tuple", .ref z], []⟩)) _ _ s
  refine wpAny_bind (wpAny_of_eq (F.newCall_tuple_1 _) (wpAny_pure ⟨plainId_quiet F.plain_tuple_new _, codeAny_builtin F.entry_tuple_new ?_⟩))
  rw [Around.under_plainId F.plain_tuple_new _]
  have hsub := sub_tuple_self
  have hinit := init_tuple_lookup
  have hmh := madeHere_tuple
  have hTz : s.TypeIs (.ref z) "zip" := ⟨_, hz, rfl⟩
  have hh1 : A.in1.handled = none := hh
  wp_walk using wpAny_typeOf hTz, collect_zip (A := A.in1) hh1 D hz hTI hTO h1 h2 hl1 hl2 hn
  intro h' acc hk hacc
  show wpAny _ _ (Builtin.Tuple.tupleExact acc.toList.toArray >>= fun v => ret v) _ _ _
  unfold Builtin.Tuple.tupleExact
  refine wpAny_bind (wpAny_newObj_type ?_ (by show acc.toList.toArray.size ≤ sizeLine; simp only [Array.toArray_toList]; rw [hacc.size]; exact hn))
  refine wpAny_pure ?_
  have e : acc.toList.toArray = acc := by simp
  rw [e]
  exact h h' acc hk hacc
theorem call_tuple_zip {a b : Value} {Q : Value → Shared → Prop} {E : Value → Shared → Prop} (hh : A.handled = none) (D : ZipApart z TI TO i1 i2 l1 l2) (hz : IsZip s.heap z TI TO .none) (hTI : IsPair s.heap TI (.ref i1) (.ref i2)) (hTO : IsPair s.heap TO a b) (h1 : s.heap.IsListIter i1 l1 0) (h2 : s.heap.IsListIter i2 l2 0)
    (hl1 : s.heap.IsList l1 xs) (hl2 : s.heap.IsList l2 ys) (hn : min xs.size ys.size ≤ sizeLine)
    (hQ : ∀ (h' : Heap) (acc : Array Value), (∀ b o, b ∉ [z, TO, i1, i2] → s.heap.get? b = some o → h'.get? b = some o) → Accs (s.heap.objs.size + 1) xs ys h' acc (min xs.size ys.size) → Q (.ref h'.objs.size) { s with heap := h'.push { cls := .type "tuple", data := .seq acc } }) :
    wpAny (model prog w) A (call (.type "tuple") [.ref z]) Q E s := by
  refine callType_codes (Q₁ := fun obj s₁ => s₁.TypeIs obj "tuple" ∧ Q obj s₁) F.called_tuple (F.typeCall_tuple_1 _) F.entry_object_init
    (code_tuple_new_zip (A := A.in1) hh D hz hTI hTO h1 h2 hl1 hl2 hn fun h' acc hk hacc => ⟨⟨_, Heap.get?_push_size _ rfl, rfl⟩, hQ h' acc hk hacc⟩) fun obj s₁ h₁ => ?_
  exact ⟨h₁.1, F.args_object_init_2 obj _, object_init_meets F.called_tuple.init.lookup F.called_tuple.made (by decide) prog w A.in1 _ s₁ ⟨h₁.1, rfl, h₁.2⟩⟩
end
end TZ
open PySem L2 PySem.Spec PyProof.Rows
/-! ### tuple(zip(a, b)) as an expression -/
/-- what may be tracked from here on -/
structure Trk (X : Cx) (pins : List (Addr × Obj)) (a : Addr) : Prop where
  L : a ≠ X.env.locals
  C : ∀ x c, X.env.cells.lookup x = some c → c ≠ a
  p : ∀ p ∈ X.pn ++ pins, p.1 ≠ a
  z : X.s_0.heap.get? a = none
theorem trk_of {X : Cx} {pins : List (Addr × Obj)} {σ : L2.St} {H : Hp} {s : Shared} {a : Addr} (I : Inv X pins σ H s) (h : s.heap.objs.size ≤ a) : Trk X pins a := by
  obtain ⟨f0, f1, f2, f3, f4, f5⟩ := I.fpOk (H' := fun _ => none) h rfl
  refine ⟨f1, f4, f5, ?_⟩
  cases q : X.s_0.heap.get? a with
  | none => rfl
  | some o => exact absurd (Nat.lt_of_lt_of_le (Heap.lt_size q) (Nat.le_trans I.sz h)) (Nat.lt_irrefl _)
theorem track_pairs {X : Cx} {pins : List (Addr × Obj)} {σ : L2.St} {s : Shared} : ∀ (l : List (Addr × V × V)) {H : Hp}, Inv X pins σ H s → (∀ t ∈ l, H t.1 = none ∧ Trk X pins t.1 ∧ ∃ x y, IsPair s.heap t.1 x y ∧ RelV t.2.1 x ∧ RelV t.2.2 y) → l.Pairwise (fun a b => a.1 ≠ b.1) →
    ∃ H', Inv X pins σ H' s ∧ Same H H' ∧ (∀ t ∈ l, H' t.1 = some (.tup [t.2.1, t.2.2])) ∧ ∀ b, H b = none → (∀ t ∈ l, t.1 ≠ b) → H' b = none
  | [], H, I, _, _ => ⟨H, I, fun _ _ h => h, fun _ h => (by cases h), fun _ h _ => h⟩
  | t :: l, H, I, h, hp => by
    obtain ⟨hn, tr, x, y, pr, rx, ry⟩ := h t List.mem_cons_self
    obtain ⟨hp1, hp2⟩ := List.pairwise_cons.mp hp
    have J := inv_track I hn tr.L tr.C tr.p tr.z (o := .tup [t.2.1, t.2.2]) ⟨by show 2 ≤ sizeLine; decide, [x, y], .cons rx (.cons ry .nil), ⟨_, pr, rfl, _, rfl⟩⟩
    obtain ⟨H', J', sm, ht, hno⟩ := track_pairs l J (fun u hu => by
      obtain ⟨h1, h2, h3⟩ := h u (List.mem_cons_of_mem _ hu)
      exact ⟨by rw [upd_ne (Ne.symm (hp1 u hu))]; exact h1, h2, h3⟩) hp2
    have smT : Same H (upd H t.1 (.tup [t.2.1, t.2.2])) := fun b o e => by rw [upd_ne (ne_of_none e hn)]; exact e
    refine ⟨H', J', fun b o e => sm b o (smT b o e), fun u hu => ?_, fun b hb hne => ?_⟩
    · rcases List.mem_cons.mp hu with q | q
      · subst q; exact sm _ _ upd_same
      · exact ht u q
    · exact hno b (by rw [upd_ne (fun z => hne t List.mem_cons_self z.symm)]; exact hb) fun u hu => hne u (List.mem_cons_of_mem _ hu)
theorem accs_list {n0 : Addr} {xs ys : Array Value} {h : Heap} {acc : Array Value} {n : Nat} (x : TZ.Accs n0 xs ys h acc n) : ∃ Ts : List Addr, acc.toList = Ts.map Value.ref ∧ Ts.length = n ∧ Ts.Nodup ∧ ∀ (j : Nat) (T : Addr), Ts[j]? = some T → ∃ a b, xs[j]? = some a ∧ ys[j]? = some b ∧ IsPair h T a b ∧ n0 ≤ T := by
  let f : Value → Addr := fun v => match v with | .ref a => a | _ => 0
  have hl : acc.toList.length = n := by rw [Array.length_toList]; exact x.size
  have ix : ∀ j, j < n → ∃ T, acc.toList[j]? = some (.ref T) := fun j hj => by
    obtain ⟨T, _, _, e, _⟩ := x.it j hj
    exact ⟨T, by rw [Array.getElem?_toList]; exact e⟩
  have e1 : acc.toList = (acc.toList.map f).map Value.ref := by
    refine List.ext_getElem? fun j => ?_
    by_cases hj : j < n
    · obtain ⟨T, e⟩ := ix j hj
      rw [List.getElem?_map, List.getElem?_map, e]
      rfl
    · rw [List.getElem?_eq_none (by omega), List.getElem?_eq_none (by rw [List.length_map, List.length_map]; omega)]
  refine ⟨acc.toList.map f, e1, by rw [List.length_map, hl], ?_, fun j T e => ?_⟩
  · unfold List.Nodup
    rw [List.pairwise_iff_getElem]
    intro i j hi hj hij e0
    have e : (acc.toList.map f)[i]? = (acc.toList.map f)[j]? := by rw [List.getElem?_eq_getElem hi, List.getElem?_eq_getElem hj, e0]
    rw [List.length_map, hl] at hj
    obtain ⟨T, t1⟩ := ix i (by omega)
    obtain ⟨T', t2⟩ := ix j hj
    rw [List.getElem?_map, List.getElem?_map, t1, t2] at e
    have e' : T = T' := Option.some.inj e
    subst e'
    rw [Array.getElem?_toList] at t1 t2
    exact x.inj i j T hij hj t1 t2
  · have hj : j < n := by
      have := (List.getElem?_eq_some_iff.mp e).1
      rw [List.length_map, hl] at this
      exact this
    obtain ⟨T', a, b, t1, t2, t3, t4, t5⟩ := x.it j hj
    rw [List.getElem?_map, Array.getElem?_toList, t1] at e
    have e' : T' = T := Option.some.inj e
    subst e'
    exact ⟨a, b, t2, t3, t4, t5⟩
theorem vals_getV {xs : List V} {us : List Value} {i : Nat} {u : Value} (r : Vals xs us) (h : us[i]? = some u) : ∃ x, xs[i]? = some x ∧ RelV x u := by
  have hi : i < xs.length := by
    rw [r.length]
    exact (List.getElem?_eq_some_iff.mp h).1
  obtain ⟨u', e, rv⟩ := r.get (List.getElem?_eq_getElem hi)
  rw [h] at e
  cases e
  exact ⟨xs[i], List.getElem?_eq_getElem hi, rv⟩
theorem vals_refs : ∀ Ts : List Addr, Vals (Ts.map V.ref) (Ts.map Value.ref)
  | [] => .nil
  | T :: Ts => .cons rfl (vals_refs Ts)
def tTZ (K : PySem.W.Frag) (ta : TA) : TE := fun σ H Q => ta σ H fun vs H1 => ∃ (a b : Addr) (xs ys : List V), vs = [.ref a, .ref b] ∧ SqL K H1 a xs ∧ SqL K H1 b ys ∧ xs.length ≤ sizeLine ∧
  ∀ (Ts : List Addr) (R : Addr) (H2 : Hp), Same H1 H2 → H1 R = none → H2 R = some (.tup (Ts.map V.ref)) → Ts.length = min xs.length ys.length → (∀ (j : Nat) (T : Addr), Ts[j]? = some T → ∃ x y, xs[j]? = some x ∧ ys[j]? = some y ∧ H1 T = none ∧ H2 T = some (.tup [x, y])) → Q (.ref R) H2
theorem boot_tuple : bootBuiltins "tuple" = some (.type "tuple") := by decide +kernel
theorem pe_tz {X : Cx} {e e2 : Expr} {ta : TA} {p p2 q pos : Pos} (hc : X.calm = true) (hg : Gl X "tuple") (hm : X.mg "tuple" = none) (hg2 : Gl X "zip") (hm2 : X.mg "zip" = none) (ha : PA X [e, e2] ta)
    (hs : starEach [e, e2] X.env = (false, eval e X.env) :: starEach [e2] X.env) (hpl : (backTo q (starEach [e2] X.env)).any (·.1) = false) :
    PE X (.Call (.Name "tuple" p) [.Call (.Name "zip" p2) [e, e2] [] q] [] pos) (tTZ X.K ta) := by
  refine ⟨fun pins s σ H Q I h => ?_⟩
  refine Call_ (ld_blt I hg hm boot_tuple ?_)
  refine PyProof.Rows.callWith_type1 (PyProof.Rows.args_cons ?_ rfl) rfl rfl
  refine Call_ (ld_blt I hg2 hm2 PyProof.Rows.boot_zip (PyProof.Rows.callWith_type1 (thn (ha.run q pins s σ H _ I h) fun us s1 ⟨vs, H1, I1, r1, q1⟩ => ?_) hs hpl))
  obtain ⟨a, b, xs, ys, ex, hqx, hqy, hsz, q1⟩ := q1
  subst ex
  cases r1 with
  | cons r rr =>
    cases rr with
    | cons r' rr =>
      cases rr
      cases r
      cases r'
      obtain ⟨its, rv, p1, _⟩ := I1.list hqx
      obtain ⟨its2, rv2, p2', _⟩ := I1.list hqy
      refine call_zip_2 p1.isList p2'.isList fun h' hz hTI hTO h1 h2 hsz' hk => ?_
      refine PyProof.Rows.args_nil ?_
      have l1 : its.length = xs.length := rv.length.symm
      have l2 : its2.length = ys.length := rv2.length.symm
      have D := PySem.W.ktu_apart s1.heap.objs.size a b p1.lt p2'.lt
      have hmin : min its.toArray.size its2.toArray.size = min xs.length ys.length := by rw [List.size_toArray, List.size_toArray, l1, l2]
      refine TZ.call_tuple_zip (s := { s1 with heap := h' }) (I1.ok.hd hc) D hz hTI hTO h1 h2 (p1.isList.at fun o e => hk _ o e) (p2'.isList.at fun o e => hk _ o e) (by rw [hmin]; exact Nat.le_trans (Nat.min_le_left ..) hsz) fun h3 acc hk3 hacc => ?_
      rw [hmin] at hacc
      obtain ⟨Ts, ea, tl, tn, ti⟩ := accs_list hacc
      -- the state at the end
      have old : ∀ c o, s1.heap.get? c = some o → (h3.push { cls := .type "tuple", data := .seq acc }).get? c = some o := fun c o e => by
        have hc1 := Heap.lt_size e
        refine Heap.get?_push_of_some _ (hk3 c o (fun hm => ?_) (hk c o e))
        simp only [List.mem_cons, List.not_mem_nil, or_false] at hm
        rcases hm with z | z | z | z
        · rw [z] at hc1; exact absurd hc1 (Nat.not_lt.mpr (Nat.le_add_right _ _))
        · rw [z] at hc1; exact absurd hc1 (Nat.not_lt.mpr (Nat.le_add_right _ _))
        · rw [z] at hc1; exact absurd hc1 (Nat.lt_irrefl _)
        · rw [z] at hc1; exact absurd hc1 (Nat.not_lt.mpr (Nat.le_add_right _ _))
      have I2 : Inv X pins σ H1 { s1 with heap := h3.push { cls := .type "tuple", data := .seq acc } } := I1.kept (t' := s1.toks) old
      have big : s1.heap.objs.size ≤ h'.objs.size + 1 := by
        rw [hsz']
        exact Nat.le_trans (Nat.le_add_right _ 5) (Nat.le_succ _)
      have hl : ∀ (j : Nat) (T : Addr), Ts[j]? = some T → ∃ (x y : V) (u v : Value), xs[j]? = some x ∧ ys[j]? = some y ∧ RelV x u ∧ RelV y v ∧ IsPair (h3.push { cls := .type "tuple", data := .seq acc }) T u v ∧ s1.heap.objs.size ≤ T := fun j T e => by
        obtain ⟨u, v, e1, e2, e3, e4⟩ := ti j T e
        have f1 : its[j]? = some u := by simpa using e1
        have f2 : its2[j]? = some v := by simpa using e2
        obtain ⟨x, g1, g2⟩ := vals_getV rv f1
        obtain ⟨y, g3, g4⟩ := vals_getV rv2 f2
        exact ⟨x, y, u, v, g1, g3, g2, g4, Heap.get?_push_of_some _ e3, Nat.le_trans big e4⟩
      have fr : ∀ T, s1.heap.objs.size ≤ T → H1 T = none ∧ Trk X pins T := fun T hT => ⟨I1.hok.fresh hT, trk_of I1 hT⟩
      -- the pairs
      let L : List (Addr × V × V) := (List.range Ts.length).map fun j => (Ts.getD j 0, xs.getD j .non, ys.getD j .non)
      have hL : ∀ t ∈ L, ∃ (j : Nat) (x y : V), Ts[j]? = some t.1 ∧ xs[j]? = some x ∧ ys[j]? = some y ∧ t = (t.1, x, y) := fun t ht => by
        obtain ⟨j, hj, e⟩ := List.mem_map.mp ht
        have hj' := List.mem_range.mp hj
        obtain ⟨x, y, u, v, g1, g2, _⟩ := hl j Ts[j] (List.getElem?_eq_getElem hj')
        refine ⟨j, x, y, ?_, g1, g2, ?_⟩
        · rw [← e, List.getElem?_eq_getElem hj']
          show some Ts[j] = some (Ts.getD j 0)
          rw [List.getD_eq_getElem?_getD, List.getElem?_eq_getElem hj']
          rfl
        · rw [← e]
          show (Ts.getD j 0, xs.getD j .non, ys.getD j .non) = (Ts.getD j 0, x, y)
          rw [List.getD_eq_getElem?_getD (l := xs), List.getD_eq_getElem?_getD (l := ys), g1, g2]
          rfl
      obtain ⟨H', I3, sm, ht, hno⟩ := track_pairs (s := { s1 with heap := h3.push { cls := .type "tuple", data := .seq acc } }) L I2 (fun t ht => by
        obtain ⟨j, x, y, g0, g1, g2, et⟩ := hL t ht
        obtain ⟨x', y', u, v, k1, k2, k3, k4, k5, k6⟩ := hl j t.1 g0
        rw [g1] at k1
        rw [g2] at k2
        cases k1
        cases k2
        rw [et]
        exact ⟨(fr _ k6).1, (fr _ k6).2, u, v, k5, k3, k4⟩) (by
        rw [List.pairwise_map]
        refine List.Pairwise.imp_of_mem (fun {i j} hi hj hij z => ?_) List.pairwise_lt_range
        have hi' := List.mem_range.mp hi
        have hj' := List.mem_range.mp hj
        have z : Ts.getD i 0 = Ts.getD j 0 := z
        rw [List.getD_eq_getElem?_getD, List.getD_eq_getElem?_getD, List.getElem?_eq_getElem hi', List.getElem?_eq_getElem hj'] at z
        have z : Ts[i] = Ts[j] := z
        exact List.pairwise_iff_getElem.mp tn i j hi' hj' hij z)
      -- the tuple itself
      have hR : s1.heap.objs.size ≤ h3.objs.size := by
        have hz3 := hk3 (s1.heap.objs.size + 2) _ (by
          simp only [List.mem_cons, List.not_mem_nil, or_false]
          intro z
          rcases z with z | z | z | z
          · simp at z
          · simp at z
          · simp at z
          · simp at z) hTI
        exact Nat.le_of_lt (Nat.lt_of_le_of_lt (Nat.le_add_right _ 2) (Heap.lt_size hz3))
      obtain ⟨nR, tR⟩ := fr h3.objs.size hR
      have nR' : H' h3.objs.size = none := hno _ nR fun t ht z => by
        obtain ⟨j, x, y, g0, g1, g2, et⟩ := hL t ht
        obtain ⟨u, v, _, _, e3, _⟩ := ti j t.1 g0
        have := Heap.lt_size e3
        rw [z] at this
        exact absurd this (Nat.lt_irrefl _)
      have hget : (h3.push { cls := .type "tuple", data := .seq acc }).get? h3.objs.size = some { cls := .type "tuple", data := .seq acc } := Heap.get?_push_size _ rfl
      have J := inv_track I3 nR' tR.L tR.C tR.p tR.z (o := .tup (Ts.map V.ref)) ⟨by rw [List.length_map, tl]; exact Nat.le_trans (Nat.min_le_left ..) hsz, acc.toList, by rw [ea]; exact vals_refs Ts, ⟨_, hget, rfl, _, rfl⟩⟩
      have smR : Same H' (upd H' h3.objs.size (.tup (Ts.map V.ref))) := fun b o e => by rw [upd_ne (ne_of_none e nR')]; exact e
      refine ⟨.ref h3.objs.size, _, J, rfl, q1 Ts h3.objs.size _ (fun b o e => smR b o (sm b o e)) nR upd_same tl fun j T e => ?_⟩
      obtain ⟨x, y, u, v, g1, g2, _, _, _, g6⟩ := hl j T e
      refine ⟨x, y, g1, g2, (fr T g6).1, smR _ _ ?_⟩
      have hj := (List.getElem?_eq_some_iff.mp e).1
      have hm : (Ts.getD j 0, xs.getD j .non, ys.getD j .non) ∈ L := List.mem_map.mpr ⟨j, List.mem_range.mpr hj, rfl⟩
      have := ht _ hm
      rw [List.getD_eq_getElem?_getD, List.getD_eq_getElem?_getD, List.getD_eq_getElem?_getD, e, g1, g2] at this
      exact this
/-! ### by data -/
theorem reps_by {K : PySem.W.Frag} {A : Nat → Option Addr} {H : Hp} : ∀ {vs : List V} {ds : List D}, vs.length = ds.length → (∀ (j : Nat) (v : V) (d : D), vs[j]? = some v → ds[j]? = some d → Rep K A H v d) → Reps K A H vs ds
  | [], [], _, _ => .nil
  | v :: vs, d :: ds, hl, h => .cons (h 0 v d rfl rfl) (reps_by (by simpa using hl) fun j v d e1 e2 => h (j + 1) v d (by simpa using e1) (by simpa using e2))
  | [], _ :: _, h, _ => by simp at h
  | _ :: _, [], h, _ => by simp at h
section
variable {X : Cx} {c : Cn} {W : WX} {ea eb : E} {x y : Expr}
theorem s_tzip {p p2 q pos : Pos} (hK : c.K = X.K) (hc : X.calm = true) (hg : Gl X "tuple") (hm : X.mg "tuple" = none) (hg2 : Gl X "zip") (hm2 : X.mg "zip" = none) (ha : PE X x (TEr c W false ea)) (hb : PE X y (TEr c W false eb)) (hn : notStar x = true) (hn2 : notStar y = true) :
    PE X (.Call (.Name "tuple" p) [.Call (.Name "zip" p2) [x, y] [] q] [] pos) (TEr c W false (.tzip ea eb)) := pe_imp (pe_tz hc hg hm hg2 hm2 (pa_cons ha (pa_cons hb pa_nil (star_of hn2)) (star_of hn)) (star_of hn) (by rw [star_of hn2]; rfl)) fun σ H Q h => by
  obtain ⟨G, L, m, ρ, E, h⟩ := h
  rw [evE] at h
  refine ⟨G, L, m, ρ, E, (PstG.bind h).imp fun d m1 H1 L1 e s1 ok q v r => ?_⟩
  have E1 := E.step s1 ok
  refine ⟨G, L1, m1, ρ, E1, (PstG.bind q).imp fun d2 m2 H2 La e2 s2 ok2 q2 v2 r2 => ?_⟩
  have r' := r.step E1 s2
  cases d with
  | lst ds =>
    cases d2 with
    | lst ds2 =>
      obtain ⟨a, vs, e1, hs, rs, z⟩ := rep_lst r'.rep
      obtain ⟨a2, vs2, e2, hs2, rs2, z2⟩ := rep_lst r2.rep
      refine ⟨a, a2, vs, vs2, by rw [e1, e2], hK ▸ Same.sqL hide_sub hs, hK ▸ Same.sqL hide_sub hs2, by rw [rs.length]; exact z, fun Ts R H3 sm n hr hl ht => ?_⟩
      have E2 := E1.step s2 ok2
      have nb : ∀ T, H2 T = none → ¬ Bd G La T := fun T h => E2.nb E2.sok.foot h
      have ln : (List.zipWith (fun x y => D.tup [x, y]) ds ds2).length = min ds.length ds2.length := List.length_zipWith
      refine q2 H3 La (Stp.same sm) (ok2.same sm) _ (.inl (.tup (.inl (.inl (hide_of (nb R n) hr))) (reps_by ?_ fun j v d e1 e2 => ?_) ?_))
      · rw [ln, List.length_map, hl, rs.length, rs2.length]
      · obtain ⟨T, eT, ev⟩ := List.getElem?_map (f := V.ref) (l := Ts) ▸ e1 |> Option.map_eq_some_iff.mp
        subst ev
        obtain ⟨x, y, g1, g2, g3, g4⟩ := ht j T eT
        obtain ⟨d1, k1, r1⟩ := rs.getV g1
        obtain ⟨d2, k2, r2⟩ := rs2.getV g2
        have : d = .tup [d1, d2] := by
          rw [zw_get k1 k2] at e2
          exact (Option.some.inj e2).symm
        subst this
        have st := (Stp.same (L := La) sm).hid (G := G)
        exact .tup (.inl (.inl (hide_of (nb T g3) g4))) (.cons (r1.mono st fun _ _ h => h) (.cons (r2.mono st fun _ _ h => h) .nil)) two_le
      · rw [ln]
        exact Nat.le_trans (Nat.min_le_left ..) z
    | _ => exact (show False from q2).elim
  | _ =>
    cases d2 <;> exact (show False from q2).elim
end
end MP

set_option maxRecDepth 100000
set_option maxHeartbeats 4000000
set_option autoImplicit false
namespace MP
open PySem L2

section
variable {X : Cx} {c : Cn} {W : WX} {f : Fr} {bb : Bool} {ea eb ec : E} {x y z : Expr} {pos : Pos} {st : Stmt}
theorem ps_imp {t t' : TS} (h : PS X st t) (i : ∀ Z σ H, t' Z σ H → t Z σ H) : PS X st t' := ⟨fun pins s σ H Z I q => h.run pins s σ H Z I (i Z σ H q)⟩
theorem pss_imp {sts : List Stmt} {t t' : TS} (h : PSs X sts t) (i : ∀ Z σ H, t' Z σ H → t Z σ H) : PSs X sts t' := ⟨fun pins s σ H Z I q => h.run pins s σ H Z I (i Z σ H q)⟩
theorem s_snil : PSs X [] (TSsr c W f .nil) := pss_imp pss_nil fun Z σ H h => by
  obtain ⟨L, m, ρ, O, h⟩ := h
  rw [evSs] at h
  exact h σ H L O KG.refl
theorem s_scons {sts : List Stmt} {s : MP.St} {l : MP.Sts} (h1 : PS X st (TSr c W f s)) (h2 : PSs X sts (TSsr c W f l)) : PSs X (st :: sts) (TSsr c W f (.cons s l)) := pss_imp (pss_cons h1 h2) fun Z σ H h => by
  obtain ⟨L, m, ρ, O, h⟩ := h
  rw [evSs] at h
  refine ⟨L, m, ρ, O, ?_⟩
  revert h
  cases evS c.cfg s ρ m with
  | nxt ρ1 m1 => exact fun h σ' H' L' O' k => ⟨L', m1, ρ1, O', h.kg k⟩
  | ret d m1 => exact fun h => h
  | err k ρ1 m1 => exact fun h => h
  | stuck => exact fun h => h
theorem s_pas : PS X (.Pass pos) (TSr c W f .pas) := ps_imp ps_pass fun Z σ H h => by
  obtain ⟨L, m, ρ, O, h⟩ := h
  rw [evS] at h
  exact h σ H L O KG.refl
/-- x = e, a, b = e -/
theorem s_asg {tg : Tgt} (ho : ∀ i ∈ tg.slots, c.own i = false) (hp : PS X st (tAsg (TEr c W false ea) (TGr c.K tg))) : PS X st (TSr c W f (.asg tg ea)) := ps_imp hp fun Z σ H h => by
  obtain ⟨L, m, ρ, O, h⟩ := h
  rw [evS] at h
  refine ⟨_, L, m, ρ, O.est, (PstS.ex O h).imp fun d m1 H1 L1 e s1 ok1 q v r => ?_⟩
  obtain ⟨O1, k1⟩ := O.step s1 ok1
  cases hb : bindT tg d ρ with
  | none =>
    rw [hb] at q
    exact (show False from q).elim
  | some ρ' =>
    rw [hb] at q
    refine O1.est.bind r.rep ho hb fun σ' E' _ hk => ?_
    obtain ⟨O2, k2⟩ := O1.re E' fun i hi => hk i fun q => by
      rw [ho i q] at hi
      cases hi
    exact q σ' H1 L1 O2 k2
/-- the room of a new own container -/
theorem own_sm {i : Nat} {p : Addr} {d : D} {L : Lay} {m : Mu} {ρ : Env'} {σ : L2.St} {H : Hp} {o : HO} (O : FO c f L m ρ σ H) (hi : i < ρ.length) (n : H p = none) : Same (hide (Bd (OG f.F c.own ρ σ) L) H) (hide (Bd (OG f.F c.own (ρ.set i (some d)) (σ.set i (some (.ref p)))) L) (upd H p o)) := by
  have np : ∀ a u, H a = some u → a ≠ p := fun a u h => ne_of_none h n
  refine hide_same fun a u hb h => ⟨fun q => ?_, by rw [upd_ne (np a u h)]; exact h⟩
  rcases q with (q | ⟨j, e2, h1, h2, h3⟩) | q
  · exact hb (.inl (.inl q))
  · by_cases hj : i = j
    · subst hj
      rw [List.getElem?_set_self (by rw [← O.est.len]; exact hi)] at h3
      cases h3
      exact np _ u h rfl
    · rw [List.getElem?_set_ne hj] at h2 h3
      exact hb (.inl (.inr ⟨j, e2, h1, h2, h3⟩))
  · exact hb (.inr q)
/-- x = [..]: the def's own -/
theorem s_ownL {i : Nat} {es : List Expr} {l : Es} (ho : c.own i = true) (hz : l.len ≤ 1000) (hp : PS X st (tAsg (tLst (TAr c W false l)) (gName i))) : PS X st (TSr c W f (.own i (.lst l))) := ps_imp hp fun Z σ H h => by
  obtain ⟨L, m, ρ, O, h⟩ := h
  rw [evS, evE] at h
  have q := PstG.bind (PstS.ex O h)
  refine ⟨_, L, m, ρ, O.est, q.imp fun ds m1 H1 L1 e s1 ok1 q vs r => ⟨by rw [r.length, evEs_len e]; exact sz1000 hz, fun p n => ?_⟩⟩
  obtain ⟨O1, k1⟩ := O.step s1 ok1
  have q1 : PstS c W f L1 ρ σ H1 Z (if i < ρ.length then .nxt (ρ.set i (some (.lst ds))) m1 else .stuck) := q H1 L1 (Stp.refl _ _) ok1
  by_cases hi : i < ρ.length
  · rw [if_pos hi] at q1
    obtain ⟨O2, k2⟩ := O1.mine (o := .lst vs) ho hi n (.lst upd_same (r.reps.mono (own_sm O1 hi n) fun _ _ h => h) (by rw [evEs_len e]; exact sz1000 hz))
    exact q1 _ _ L1 O2 k2
  · rw [if_neg hi] at q1
    exact (show False from q1).elim
/-- x = y + [..] -/
theorem s_ownCat {i j : Nat} {l : Es} (hK : c.K = X.K) (ho : c.own i = true) (hp : PS X st (tAsg (tOp (rCatL X.K) (TEr c W true (.var j)) (TEr c W false (.lst l))) (gName i))) : PS X st (TSr c W f (.own i (.bin .add (.var j) (.lst l)))) := ps_imp hp fun Z σ H h => by
  obtain ⟨L, m, ρ, O, h⟩ := h
  rw [evS, evE] at h
  have q := PstG.bind (PstS.ex O h)
  refine ⟨_, L, m, ρ, O.est, q.imp fun d m1 H1 L1 e s1 ok1 q v r => ?_⟩
  have E1 := O.est.step s1 ok1
  refine ⟨_, L1, m1, ρ, E1, (PstG.bind q).imp fun d2 m2 H2 La e2 s2 ok2 q2 v2 r2 => ?_⟩
  have r' := r.step E1 s2
  obtain ⟨O2, k2⟩ := O.step (s1.trans s2) ok2
  obtain ⟨es, rfl⟩ : ∃ es, d2 = .lst es := by
    rw [evE] at e2
    obtain ⟨a, m', _, e3⟩ := Res.bind_eq_ok e2
    cases e3
    exact ⟨_, rfl⟩
  cases d with
  | lst ds =>
    obtain ⟨a, vs, ea, hs, rs, z⟩ := r'.lst
    obtain ⟨a2, vs2, ea2, hs2, rs2, z2⟩ := r2.lst
    have q3 : PstG c W (OG f.F c.own ρ σ) La σ H2 (fun d m' H' L' => PstS c W f L' ρ σ H' Z (if i < ρ.length then .nxt (ρ.set i (some d)) m' else .stuck)) (.opt (if ds.length + es.length ≤ sizeD then some (.lst (ds ++ es)) else none) m2) := q2
    by_cases hz : ds.length + es.length ≤ sizeD
    · rw [if_pos hz] at q3
      have q4 : PstS c W f La ρ σ H2 Z (if i < ρ.length then .nxt (ρ.set i (some (.lst (ds ++ es)))) m2 else .stuck) := q3 H2 La (Stp.refl _ _) ok2
      refine ⟨a, a2, vs, vs2, ea, ea2, hK ▸ hs, hK ▸ hs2, by rw [rs.length, rs2.length]; exact sd hz, fun p n => ?_⟩
      by_cases hi : i < ρ.length
      · rw [if_pos hi] at q4
        obtain ⟨O3, k3⟩ := O2.mine (o := .lst (vs ++ vs2)) ho hi n (.lst upd_same ((rs.append rs2).mono (own_sm O2 hi n) fun _ _ h => h) (by rw [List.length_append]; exact sd hz))
        exact q4 _ _ La O3 k3
      · rw [if_neg hi] at q4
        exact (show False from q4).elim
    · rw [if_neg hz] at q3
      exact (show False from q3).elim
  | _ => exact (show False from q2).elim
/-- x = {} -/
theorem s_ownD {i : Nat} (ho : c.own i = true) (hp : PS X st (tAsg tDNewK (gName i))) : PS X st (TSr c W f (.own i .dic0)) := ps_imp hp fun Z σ H h => by
  obtain ⟨L, m, ρ, O, h⟩ := h
  rw [evS, evE] at h
  intro p n
  have q1 : PstS c W f L ρ σ H Z (if i < ρ.length then .nxt (ρ.set i (some (.dic []))) m else .stuck) := h
  by_cases hi : i < ρ.length
  · rw [if_pos hi] at q1
    obtain ⟨O2, k2⟩ := O.mine (o := .dK []) ho hi n (.dic upd_same .nil (Nat.zero_le _))
    exact q1 _ _ L O2 k2
  · rw [if_neg hi] at q1
    exact (show False from q1).elim
theorem s_aug {i : Nat} {o : BOp} {n : Str} {pos' : Pos} (hi : c.own i = false) (hN : X.N.Nodup) (hx : X.N[i]? = some n) (hl : Loc X.env.scope n) (hf : X.fn n = true ∨ X.env.scope.names.lookup n = some .local) (ha : PE X x (TEr c W false ea)) :
    PS X (.AugAssign (.Name n pos') (opOf o) x pos) (TSr c W f (.aug i o ea)) := ⟨fun pins s σ H Z I h => by
  obtain ⟨L, m, ρ, O, h⟩ := h
  rw [evS] at h
  cases hr : ρ[i]? with
  | none => rw [hr] at h; exact (show False from h).elim
  | some od =>
  cases od with
  | none => rw [hr] at h; exact (show False from h).elim
  | some xd =>
  rw [hr] at h
  obtain ⟨v, h1, h2, _⟩ := O.est.slot i _ hr
  have rv : RB c.K false (OG f.F c.own ρ σ) L H v xd := .inl (h2 hi)
  have go : ∀ (ti : TIp), PIp X (opOf o) ti → (∀ d m1, evE c.cfg ea ρ m = .ok d m1 → ∀ (L1 : Lay) (H1 : Hp) (w : V), FO c f L1 m1 ρ σ H1 → RB c.K false (OG f.F c.own ρ σ) L1 H1 w d → PstS c W f L1 ρ σ H1 Z (match augD o xd d with
      | some z => .nxt (ρ.set i (some z)) m1
      | none => .stuck) → ti v w H1 fun z H2 => Z.nx (σ.set i (some z)) H2) → wpAny (model X.prog X.w) X.A (exec (.AugAssign (.Name n pos') (opOf o) x pos) X.env) (SP X pins Z) X.xe s := fun ti ht k => by
    refine (ps_aug hN hx hl ha ht hf).run pins s σ H Z I ⟨v, h1, _, L, m, ρ, O.est, (PstS.ex O h).imp fun d m1 H1 L1 e s1 ok1 q w r => ?_⟩
    exact k d m1 e L1 H1 w (O.step s1 ok1).1 r q
  cases he : evE c.cfg ea ρ m with
  | stuck => rw [he] at h; exact (show False from h).elim
  | err k m1 => exact go (fun _ _ _ _ => False) (fun _ _ _ _ _ _ _ _ _ _ _ _ h => h.elim) fun d m1 e => by rw [he] at e; cases e
  | ok yd m1 =>
    cases hz : augD o xd yd with
    | none =>
      refine go (fun _ _ _ _ => False) (fun _ _ _ _ _ _ _ _ _ _ _ _ h => h.elim) fun d m2 e L1 H1 w O1 r q => ?_
      rw [he] at e
      cases e
      rw [hz] at q
      exact (show False from q).elim
    | some z =>
      have fin : ∀ (g : Int → Int → Int) (a b : Int), xd = .int a → yd = .int b → z = .int (g a b) → PIp X (opOf o) (rI0 fun i j => .int (g i j)) → wpAny (model X.prog X.w) X.A (exec (.AugAssign (.Name n pos') (opOf o) x pos) X.env) (SP X pins Z) X.xe s := fun g a b e1 e2 e3 hop => by
        refine go _ hop fun d m2 e L1 H1 w O1 r q => ?_
        rw [he] at e
        cases e
        rw [hz] at q
        subst e1 e2 e3
        refine ⟨a, b, rv.int, r.int, ?_⟩
        have E2 := O1.est.set (d := .int (g a b)) hi (.int (g a b))
        obtain ⟨O2, k2⟩ := O1.re E2 fun j hj => by
          have hij : i ≠ j := fun e => by rw [e, hj] at hi; cases hi
          exact ⟨List.getElem?_set_ne hij, List.getElem?_set_ne hij⟩
        exact q _ H1 L1 O2 k2
      unfold augD at hz
      split at hz
      · cases hz
        exact fin (fun a b => a + b) _ _ rfl rfl rfl iop_add
      · cases hz
        exact fin (fun a b => a - b) _ _ rfl rfl rfl iop_sub
      · cases hz⟩
theorem s_drop (ha : PE X x (TEr c W bb ea)) (hs : swapsWith x none pos.line X.env = pure false) : PS X (.Expr x pos) (TSr c W f (.drop ea)) := ps_imp (ps_expr ha hs) fun Z σ H h => by
  obtain ⟨L, m, ρ, O, h⟩ := h
  rw [evS] at h
  refine ⟨_, L, m, ρ, O.est, (PstS.ex O h).imp fun d m1 H1 L1 e s1 ok1 q v r => ?_⟩
  obtain ⟨O1, k1⟩ := O.step s1 ok1
  exact q σ H1 L1 O1 KG.refl
theorem s_ret (ha : PE X x (TEr c W false ea)) : PS X (.Return (some x) pos) (TSr c W f (.ret ea)) := ps_imp (ps_ret ha) fun Z σ H h => by
  obtain ⟨L, m, ρ, O, h⟩ := h
  rw [evS] at h
  refine ⟨_, L, m, ρ, O.est, (PstS.ex O h).imp fun d m1 H1 L1 e s1 ok1 q v r => ?_⟩
  obtain ⟨O1, k1⟩ := O.step s1 ok1
  exact q v H1 L1 O1.ent O1.sok (r.rep.mono O1.out fun _ _ h => h)
theorem s_retN : PS X (.Return none pos) (TSr c W f .retN) := ps_imp ps_retN fun Z σ H h => by
  obtain ⟨L, m, ρ, O, h⟩ := h
  rw [evS] at h
  exact h _ H L O.ent O.sok .non
/-- return x, x the def's own -/
theorem s_retOwn {i : Nat} (ho : c.own i = true) (ha : PE X x (tVar i)) : PS X (.Return (some x) pos) (TSr c W f (.ret (.var i))) := ps_imp (ps_ret ha) fun Z σ H h => by
  obtain ⟨L, m, ρ, O, h⟩ := h
  rw [evS, evE] at h
  cases hr : ρ[i]? with
  | none => rw [hr] at h; exact (show False from h).elim
  | some od =>
    cases od with
    | none => rw [hr] at h; exact (show False from h).elim
    | some d =>
      rw [hr] at h
      obtain ⟨v, h1, _, h3⟩ := O.est.slot i d hr
      obtain ⟨a, e, g, cr⟩ := h3 ho
      subst e
      refine ⟨_, h1, ?_⟩
      have q : ∀ v H' L', Stp f.L0 L' f.H0 H' → SOk c.K f.F L' m H' → Rep c.K (AL L') (hide (Bd f.F L') H') v d → Z.rt v H' := h
      refine q _ H L O.ent O.sok ?_
      have nb : ¬ Bd f.F L a := fun z => by
        rcases z with z | z
        · obtain ⟨o, h⟩ := O.fin a z
          rw [O.frs i d a ho hr h1] at h
          cases h
        · exact (O.est.gok a g).2 z
      cases cr with
      | lst hh r z => exact .lst (.inl (.inl (hide_of nb hh))) (r.mono O.out fun _ _ h => h) z
      | dic hh r z => exact .dic (.inl (hide_of nb hh)) (r.mono O.out fun _ _ h => h) z
theorem s_ifs {a b : List Stmt} {la lb : MP.Sts} (hc : PT X z (TTr c W ec)) (ha : PSs X a (TSsr c W f la)) (hb : PSs X b (TSsr c W f lb)) : PS X (.If z a b pos) (TSr c W f (.ifs ec la lb)) := ps_imp (ps_if hc ha hb) fun Z σ H h => by
  obtain ⟨L, m, ρ, O, h⟩ := h
  rw [evS] at h
  refine ⟨_, L, m, ρ, O.est, (PstS.ex O h).imp fun t m1 H1 L1 e s1 ok1 q => ?_⟩
  obtain ⟨O1, k1⟩ := O.step s1 ok1
  cases t with
  | true => exact iteT ⟨L1, m1, ρ, O1, by rw [if_pos rfl] at q; exact q⟩
  | false => exact iteF ⟨L1, m1, ρ, O1, by rw [if_neg Bool.false_ne_true] at q; exact q⟩
theorem s_rais {k : Nat} {C : Addr} {e : Expr} (hc : X.calm = true) (tk : Takes X W) (hk : c.cls k = .ref C) (he : PMk X e (fun _ H Q => Q (.ref C) none H)) : PS X (.Raise (some e) none pos) (TSr c W f (.rais k)) := ps_imp (ps_raise hc tk he) fun Z σ H h => by
  obtain ⟨L, m, ρ, O, h⟩ := h
  rw [evS] at h
  have q := h σ H L O KG.refl
  rw [hk] at q
  exact q
theorem s_whl {b : List Stmt} {lb : MP.Sts} (hp : PassesOwn (model X.prog X.w) X.A X.env X.xe) (hc : PT X z (TTr c W ec)) (hb : PSs X b (TSsr c W f lb)) : PS X (.While z b [] pos) (TSr c W f (.whl ec lb)) := ps_imp (ps_while hp hc hb) fun Z σ H h => by
  obtain ⟨L, m, ρ, O, h⟩ := h
  rw [evS] at h
  refine ⟨fun n σ' H' => ∃ (L' : Lay) (m' : Mu) (ρ' : Env'), FO c f L' m' ρ' σ' H' ∧ PstS c W f L' ρ' σ' H' Z (whileGo (fun ρ m => evT c.cfg ec ρ m) (fun ρ m => evSs c.cfg lb ρ m) n ρ' m'), ⟨_, L, m, ρ, O, h⟩, ?_⟩
  rintro n σ' H' ⟨L', m', ρ', O', h'⟩
  cases n with
  | zero => exact (show False from h').elim
  | succ n =>
    rw [whileGo] at h'
    refine ⟨_, L', m', ρ', O'.est, ?_⟩
    revert h'
    cases evT c.cfg ec ρ' m' with
    | stuck => exact fun h => h
    | err k m1 => exact fun h H1 L1 s1 ok1 => h σ' H1 L1 (O'.step s1 ok1).1 (O'.step s1 ok1).2
    | ok t m1 =>
      cases t with
      | false =>
        intro h H1 L1 s1 ok1
        obtain ⟨O1, k1⟩ := O'.step s1 ok1
        exact iteF (h σ' H1 L1 O1 k1)
      | true =>
        intro h H1 L1 s1 ok1
        obtain ⟨O1, k1⟩ := O'.step s1 ok1
        refine iteT ⟨fun σ2 H2 => ∃ (L2 : Lay) (m2 : Mu) (ρ2 : Env'), FO c f L2 m2 ρ2 σ2 H2 ∧ PstS c W f L2 ρ2 σ2 H2 Z (whileGo (fun ρ m => evT c.cfg ec ρ m) (fun ρ m => evSs c.cfg lb ρ m) n ρ2 m2), fun σ2 H2 h2 => ⟨n, Nat.lt_succ_self n, h2⟩, L1, m1, ρ', O1, ?_⟩
        have h2 := h.kg k1
        revert h2
        cases hb : evSs c.cfg lb ρ' m1 with
        | nxt ρ3 m3 =>
          intro h2 σ3 H3 L3 O3 k3
          simp only [hb] at h2
          exact ⟨L3, m3, ρ3, O3, h2.kg k3⟩
        | ret d m3 =>
          intro h2
          simp only [hb] at h2
          exact h2
        | err j ρ3 m3 =>
          intro h2
          simp only [hb] at h2
          exact h2
        | stuck =>
          intro h2
          simp only [hb] at h2
          exact h2
/-- x.append(e), x the def's own -/
theorem s_app {i : Nat} (hK : c.K = X.K) (ho : c.own i = true) (hp : PS X st (tDrop (tBM X.K "list" rAppend (tVar i) (tCons (TEr c W false ea) tNil)))) : PS X st (TSr c W f (.app i ea)) := ps_imp hp fun Z σ H h => by
  obtain ⟨L, m, ρ, O, h⟩ := h
  rw [evS] at h
  cases hr : ρ[i]? with
  | none => rw [hr] at h; exact (show False from h).elim
  | some od =>
  cases od with
  | none => rw [hr] at h; exact (show False from h).elim
  | some xd =>
  cases xd with
  | lst l =>
    rw [hr] at h
    obtain ⟨v, h1, _, h3⟩ := O.est.slot i _ hr
    obtain ⟨a, e, g, cr⟩ := h3 ho
    subst e
    have hl : ∃ vs, H a = some (.lst vs) := by cases cr with | lst q _ _ => exact ⟨_, q⟩
    obtain ⟨vs0, hl⟩ := hl
    refine ⟨_, h1, .inl ⟨rfl, _, .inl (.inl hl)⟩, ?_⟩
    refine ⟨_, L, m, ρ, O.est, (PstS.ex O h).imp fun d m1 H1 L1 e s1 ok1 q w r => ?_⟩
    obtain ⟨O1, k1⟩ := O.step s1 ok1
    have q1 : PstS c W f L1 ρ σ H1 Z (if l.length < sizeD then .nxt (ρ.set i (some (.lst (l ++ [d])))) m1 else .stuck) := q
    by_cases hz : l.length < sizeD
    · rw [if_pos hz] at q1
      have cr1 := cr.mono s1.hid s1.al (O.est.keepG s1 g)
      cases cr1 with
      | lst hh rs z =>
        rename_i vs
        refine ⟨a, vs, w, rfl, rfl, hh, by rw [rs.length]; exact hz, ?_⟩
        obtain ⟨O2, k2⟩ := O1.wrote (o := .lst (vs ++ [w])) ho hr h1 (.lst upd_same (rs.append (.cons r.rep .nil)) (by rw [List.length_append, List.length_singleton]; exact hz))
        exact q1 σ _ L1 O2 k2
    · rw [if_neg hz] at q1
      exact (show False from q1).elim
  | _ => rw [hr] at h; exact (show False from h).elim
theorem s_fors {tg : Tgt} {it : I} {t iter : Expr} {b : List Stmt} {lb : MP.Sts} (hK : c.K = X.K) (ho : ∀ i ∈ tg.slots, c.own i = false) (hp : PassesOwn (model X.prog X.w) X.A X.env X.xe) (hc : X.calm = true) (hi : PI X t iter (TIr c W false it)) (hg : PG X t (TGr c.K tg)) (hb : PSs X b (TSsr c W f lb))
    (hs : ∀ x, foldedSetIterable iter X.env x = pure x) : PS X (.For t iter b [] pos) (TSr c W f (.fors tg it lb)) := ps_imp (ps_for hp hc hi hg hb hs) fun Z σ H h => by
  obtain ⟨L, m, ρ, O, h⟩ := h
  rw [evS] at h
  refine ⟨_, L, m, ρ, O.est, (PstS.ex O h).imp fun xs m1 H1 L1 e s1 ok1 q J src => ?_⟩
  obtain ⟨O1, k1⟩ := O.step s1 ok1
  refine ⟨fun i n σ' H' => n = xs.length - i ∧ i ≤ xs.length ∧ ∃ (L' : Lay) (m' : Mu) (ρ' : Env'), FO c f L' m' ρ' σ' H' ∧ PstS c W f L' ρ' σ' H' Z (forGo tg (fun ρ m => evSs c.cfg lb ρ m) (xs.drop i) ρ' m') ∧ KG f.F c.own L1 ρ σ H1 L' ρ' σ' H', ⟨_, rfl, Nat.zero_le _, L1, m1, ρ, O1, q, KG.refl⟩, ?_⟩
  rintro i n σ' H' ⟨rfl, hle, L', m', ρ', O', h', kg⟩
  have PP : PPr false (OG f.F c.own ρ σ) (AL L1) (hide (Bd (OG f.F c.own ρ σ) L1) H1) H1 (AL L') (hide (Bd (OG f.F c.own ρ' σ') L') H') H' := ⟨kg.sm, kg.al, hide_sub, fun z => by cases z⟩
  by_cases hlt : i < xs.length
  · right
    refine ⟨src.go _ _ _ i PP hlt, fun σ3 H3 => ∃ n', n' = xs.length - (i + 1) ∧ i + 1 ≤ xs.length ∧ ∃ (L' : Lay) (m' : Mu) (ρ' : Env'), FO c f L' m' ρ' σ3 H3 ∧ PstS c W f L' ρ' σ3 H3 Z (forGo tg (fun ρ m => evSs c.cfg lb ρ m) (xs.drop (i + 1)) ρ' m') ∧ KG f.F c.own L1 ρ σ H1 L' ρ' σ3 H3, fun σ3 H3 ⟨n', h1, h2⟩ => ⟨n', by omega, h1, h2⟩, fun x H2 y => ?_⟩
    obtain ⟨d, hd, yl⟩ := src.yld _ _ _ i x H2 PP hlt y
    obtain ⟨sm2, rd⟩ := yl.told O'.est
    obtain ⟨O2, k2⟩ := O'.step (Stp.same sm2) (O'.est.sok.same sm2)
    have hdrop : xs.drop i = d :: xs.drop (i + 1) := by
      rw [List.drop_eq_getElem_cons hlt]
      have : xs[i] = d := by
        have := List.getElem?_eq_getElem hlt
        rw [hd] at this
        exact (Option.some.inj this).symm
      rw [this]
    rw [hdrop, forGo] at h'
    cases hb : bindT tg d ρ' with
    | none =>
      rw [hb] at h'
      exact (show False from h').elim
    | some ρ1 =>
      rw [hb] at h'
      refine O2.est.bind rd ho hb fun σ2 E' _ hk => ?_
      obtain ⟨O3, k3⟩ := O2.re E' fun i hi => hk i fun q => by
        rw [ho i q] at hi
        cases hi
      have h2 := (h'.kg k2).kg k3
      refine ⟨L', m', ρ1, O3, ?_⟩
      revert h2
      cases he : evSs c.cfg lb ρ1 m' with
      | nxt ρ4 m4 =>
        intro h2 σ4 H4 L4 O4 k4
        simp only [he] at h2
        exact ⟨_, rfl, by omega, L4, m4, ρ4, O4, h2.kg k4, ((kg.trans k2).trans k3).trans k4⟩
      | ret d m3 =>
        intro h2
        simp only [he] at h2
        exact h2
      | err j ρ3 m3 =>
        intro h2
        simp only [he] at h2
        exact h2
      | stuck =>
        intro h2
        simp only [he] at h2
        exact h2
  · left
    refine ⟨src.stop _ _ _ i PP (by omega), ?_⟩
    rw [List.drop_eq_nil_of_le (by omega), forGo] at h'
    exact h' σ' H' L' O' KG.refl
theorem wipeE_get (ρ : Env') : ∀ (vs : List Nat) (i : Nat) (d : D), (wipeE ρ vs)[i]? = some (some d) → i ∉ vs ∧ ρ[i]? = some (some d)
  | [], i, d, h => ⟨List.not_mem_nil, h⟩
  | v :: vs, i, d, h => by
    have h' : ((wipeE ρ vs).set v none)[i]? = some (some d) := h
    by_cases e : v = i
    · subst e
      by_cases hl : v < (wipeE ρ vs).length
      · rw [List.getElem?_set_self hl] at h'
        cases h'
      · rw [List.getElem?_eq_none (by rw [List.length_set]; omega)] at h'
        cases h'
    · rw [List.getElem?_set_ne e] at h'
      obtain ⟨h1, h2⟩ := wipeE_get ρ vs i d h'
      exact ⟨fun q => (List.mem_cons.mp q).elim (fun q => e q.symm) h1, h2⟩
theorem FOk.fgt {L : Lay} {m : Mu} {ρ : Env'} {σ : L2.St} {H : Hp} (vs : List Nat) (O : FO c f L m ρ σ H) : FO c f L m (wipeE ρ vs) σ H ∧ KG f.F c.own L ρ σ H L (wipeE ρ vs) σ H := by
  have E := O.est
  have sub : ∀ a, OG f.F c.own (wipeE ρ vs) σ a → OG f.F c.own ρ σ a := fun a h => by
    rcases h with h | ⟨i, d, h1, h2, h3⟩
    · exact .inl h
    · exact .inr ⟨i, d, h1, (wipeE_get ρ vs i d h2).2, h3⟩
  have sm : Same (hide (Bd (OG f.F c.own ρ σ) L) H) (hide (Bd (OG f.F c.own (wipeE ρ vs) σ) L) H) := hide_same fun a o nb h => ⟨fun q => nb (q.elim (fun q => .inl (sub a q)) .inr), h⟩
  refine ⟨⟨⟨fun a g => E.gok a (sub a g), E.sok.own fun a o n h => ⟨fun q => n (sub a q), h⟩, by rw [wipeE_length, E.len], fun i d hi => ?_⟩, O.ent, fun i d a h1 h2 h3 => O.frs i d a h1 (wipeE_get ρ vs i d h2).2 h3, fun i j d e a h1 h2 h3 h4 h5 h6 => O.inj i j d e a h1 h2 (wipeE_get ρ vs i d h3).2 (wipeE_get ρ vs j e h4).2 h5 h6, O.fin⟩, ⟨sm, fun _ _ h => h⟩⟩
  obtain ⟨hn, hi'⟩ := wipeE_get ρ vs i d hi
  obtain ⟨v, h1, h2, h3⟩ := E.slot i d hi'
  refine ⟨v, h1, fun q => (h2 q).mono sm fun _ _ h => h, fun q => ?_⟩
  obtain ⟨a, e1, g, cr⟩ := h3 q
  exact ⟨a, e1, .inr ⟨i, d, q, hi, by rw [h1, e1]⟩, cr.mono sm (fun _ _ h => h) fun _ h => h⟩
theorem s_fgt {X : Cx} {sts : List Stmt} {vs : List Nat} {l : MP.Sts} (h : PSs X sts (TSsr c W f l)) : PSs X sts (TSsr c W f (.cons (.fgt vs) l)) := pss_imp h fun Z σ H h => by
  obtain ⟨L, m, ρ, O, h⟩ := h
  rw [evSs, evS] at h
  obtain ⟨O1, k⟩ := O.fgt vs
  exact ⟨L, m, _, O1, PstS.kg h k⟩
theorem s_wall {X : Cx} {st : Stmt} : PS X st (TSr c W f .wall) := ⟨fun pins s σ H D I h => by
  obtain ⟨L, m, ρ, O, h⟩ := h
  rw [evS] at h
  exact (show False from h).elim⟩
end
end MP

set_option maxRecDepth 100000
set_option maxHeartbeats 4000000
set_option autoImplicit false
namespace MP
open PySem L2 PySem.Spec PyProof.Rows
/-! ### a list whose first thing gives a token out: replace behind it -/
def PE1 (X : Cx) (e : Expr) (t : TE) : Prop :=
  ∀ (pins : List (Addr × Obj)) (s : Shared) (σ : L2.St) (H : Hp) (Q : VK), Inv X pins σ H s → t σ H Q → wpAny (model X.prog X.w) X.A (PySem.eval e X.env) (fun v s1 => 1 ≤ s1.toks ∧ EP X pins σ Q v s1) X.xe s
section
variable {X : Cx} {c : Cn} {W : WX} {ea eb : E} {x y : Expr}
theorem pa_consT {e : Expr} {es : List Expr} {te : TE} {ta : TA} (ha : PE1 X e te) (hr : PAT X es ta) (hs : starEach (e :: es) X.env = (false, PySem.eval e X.env) :: starEach es X.env) : PA X (e :: es) (tCons te ta) := by
  refine ⟨fun pos pins s σ H Q I h => ?_⟩
  rw [hs]
  show wpAny _ _ (spliced ((false, PySem.eval e X.env) :: backTo pos (starEach es X.env))) _ _ s
  refine Calls.spliced_cons (thn (ha pins s σ H _ I h) fun u s1 ⟨h1, x, H1, I1, r1, q1⟩ => ?_)
  exact thn (hr pos pins s1 σ H1 _ h1 I1 q1) fun us s2 ⟨xs, H2, I2, r2, q2⟩ => ⟨x :: xs, H2, I2, .cons r1 r2, q2⟩
theorem pet_imp {e : Expr} {t t' : TE} (h : PET X e t) (i : ∀ σ H Q, t' σ H Q → t σ H Q) : PET X e t' := fun pins s σ H Q h0 I q => h pins s σ H Q h0 I (i σ H Q q)
theorem pe1_add {a : List Nat} {j : Nat} {p pos : Pos} (hb : PE X y (TEr c W false eb)) : PE1 X (.BinOp (.Constant (.str (S a)) j p) .Add y pos) (TEr c W false (.bin .add (.lit (.str a)) eb)) := by
  intro pins s σ H Q I h
  obtain ⟨G, L, m, ρ, E, h⟩ := h
  rw [evE, evE, Res.bind_ok] at h
  refine wpAny_BinOp (Calls.Constant_str ?_)
  have I' : Inv X pins σ H { s with toks := s.toks + 1 } := I.tok (s.toks + 1)
  have hb' := hb.run pins { s with toks := s.toks + 1 } σ H (fun v H1 => ∃ b : List Nat, v = .str (S b) ∧ a.length + b.length ≤ sizeD ∧ Q (.str (S a ++ S b)) H1) I' ⟨G, L, m, ρ, E, (PstG.bind h).imp fun d m1 H1 L1 e s1 ok q v r => by
    cases d with
    | str b =>
      have q' : PstG c W G L1 σ H1 (fun d _ H' L' => ∀ v, RB c.K false G L' H' v d → Q v H') (.opt (if a.length + b.length ≤ sizeD then some (.str (a ++ b)) else none) m1) := q
      by_cases hz : a.length + b.length ≤ sizeD
      · rw [if_pos hz] at q'
        refine ⟨b, r.str.1, hz, ?_⟩
        rw [S_app]
        exact q' H1 L1 (Stp.refl _ _) ok _ (.inl (.str _ (by rw [List.length_append]; exact sd hz)))
      · rw [if_neg hz] at q'
        exact (show False from q').elim
    | _ => exact (show False from q).elim⟩
  refine wpAny_mono (PySem.wpAny_toks hb') (fun u s2 q => ?_) fun _ _ z => z.2
  obtain ⟨hk, v, H2, I2, r2, b, e, hz, q2⟩ := q
  subst e
  have hk : s.toks + 1 ≤ s2.toks := hk
  refine wpAny_mono (PySem.wpAny_toks (op_add_str pins s2 σ H2 (.str (S a)) (.str (S b)) (.str (S a) s.toks) u Q I2 ⟨_, rfl⟩ r2 ⟨_, _, rfl, rfl, by rw [S_len, S_len]; exact sd hz, q2⟩)) (fun w s3 q3 => ⟨Nat.le_trans (by omega) q3.1, q3.2⟩) fun _ _ z => z.2
theorem s_repT {a b : List Nat} {o : Expr} {j k : Nat} {c0 c1 apos pos : Pos} (ho : PE X o (TEr c W false ea)) (hyz : (S a == S b) = false) (hb : notCall0 o = true) (hline : (apos.endLine == pos.line) = true) :
    PET X (.Call (.Attribute o "replace" apos) [.Constant (.str (S a)) j c0, .Constant (.str (S b)) k c1] [] pos) (TEr c W false (.rep a b ea)) := pet_imp (CwR.pet_replC ho hyz rfl (base_of hb) hline) fun σ H Q h => by
  obtain ⟨G, L, m, ρ, E, h⟩ := h
  rw [evE] at h
  refine ⟨G, L, m, ρ, E, (PstG.bind h).imp fun d m1 H1 L1 e s1 ok q v r => ?_⟩
  cases d with
  | str t =>
    have q' : PstG c W G L1 σ H1 (fun d _ H' L' => ∀ v, RB c.K false G L' H' v d → Q v H') (.opt (if t.length + (t.length + 1) * b.length ≤ 16777216 then some (.str (tl (Txt.replace (S t) (S a) (S b)))) else none) m1) := q
    by_cases hz : t.length + (t.length + 1) * b.length ≤ 16777216
    · rw [if_pos hz] at q'
      refine ⟨S t, r.str.1, by rw [S_len, S_len]; exact hz, ?_⟩
      have hl := TK.replace_len (S t) (S a) (S b)
      rw [S_len, S_len] at hl
      have q2 := q' H1 L1 (Stp.refl _ _) ok (.str (S (tl (Txt.replace (S t) (S a) (S b))))) (.inl (.str _ (by
        have : (tl (Txt.replace (S t) (S a) (S b))).length = (Txt.replace (S t) (S a) (S b)).length := by simp [tl, Str.length]
        rw [this]
        exact Nat.le_trans hl (Nat.le_trans hz (by decide)))))
      rw [S_tl] at q2
      exact q2
    · rw [if_neg hz] at q'
      exact (show False from q').elim
  | _ => exact (show False from q).elim
theorem s_nilT : PAT X [] (TAr c W false .nil) := fun pos pins s σ H Q _ I h => s_nil.run pos pins s σ H Q I h
theorem s_consT {es : List Expr} {l : Es} (ha : PET X x (TEr c W false ea)) (hl : PAT X es (TAr c W false l)) (hn : notStar x = true) : PAT X (x :: es) (TAr c W false (.cons ea l)) := fun pos pins s σ H Q h0 I h => by
  obtain ⟨G, L, m, ρ, E, h⟩ := h
  rw [evEs] at h
  refine (pat_cons ha hl (star_of hn)) pos pins s σ H Q h0 I ?_
  refine ⟨G, L, m, ρ, E, (PstG.bind h).imp fun d m1 H1 L1 e s1 ok1 q v r => ?_⟩
  have E1 := E.step s1 ok1
  refine ⟨G, L1, m1, ρ, E1, (PstG.bind q).imp fun ds m2 H2 L2 e2 s2 ok2 q2 vs rs => ?_⟩
  exact q2 H2 L2 (Stp.refl _ _) ok2 (v :: vs) (.cons (r.step E1 s2) rs)
theorem s_cons1 {es : List Expr} {l : Es} (ha : PE1 X x (TEr c W false ea)) (hl : PAT X es (TAr c W false l)) (hn : notStar x = true) : PA X (x :: es) (TAr c W false (.cons ea l)) := ⟨fun pos pins s σ H Q I h => by
  obtain ⟨G, L, m, ρ, E, h⟩ := h
  rw [evEs] at h
  refine (pa_consT ha hl (star_of hn)).run pos pins s σ H Q I ?_
  refine ⟨G, L, m, ρ, E, (PstG.bind h).imp fun d m1 H1 L1 e s1 ok1 q v r => ?_⟩
  have E1 := E.step s1 ok1
  refine ⟨G, L1, m1, ρ, E1, (PstG.bind q).imp fun ds m2 H2 L2 e2 s2 ok2 q2 vs rs => ?_⟩
  exact q2 H2 L2 (Stp.refl _ _) ok2 (v :: vs) (.cons (r.step E1 s2) rs)⟩
end
end MP

set_option maxRecDepth 100000
set_option maxHeartbeats 4000000
set_option autoImplicit false
namespace MP
open PySem L2

/-! ### what is looked at in a text -/
structure Se where
  N : List Str
  own : List Nat
  FN : List (Nat × Str × Nat)
  GC : List (Str × D)
  /-- the numbers of the classes that may be named -/
  EX : List Nat
def Se.ow (se : Se) (i : Nat) : Bool := se.own.contains i
def visB (sc : Scope) (x : Str) : Bool := match sc.names.lookup x with
  | some .local | some .cell | some .free => true
  | _ => false
def locB (sc : Scope) (x : Str) : Bool := match sc.names.lookup x with
  | some .local | some .cell => true
  | _ => false
def lclB (sc : Scope) (x : Str) : Bool := match sc.names.lookup x with
  | some .local => true
  | _ => false
def glB (sc : Scope) (x : Str) : Bool := match sc.names.lookup x with
  | some .globalImplicit => true
  | _ => false
def plB (x : Str) : Bool := !(x == ("__debug__" : Str)) && !(x == ("__classdict__" : Str))
def bor (se : Se) : E → Bool
  | .var i => se.ow i
  | _ => false
/-- an expression whose test is its value's truth -/
def plainT : Expr → Bool
  | .Name _ _ | .Call _ _ _ _ | .Subscript _ _ _ | .Attribute _ _ _ | .Constant _ _ _ | .BinOp _ _ _ _ | .ListComp _ _ _ _ | .Tuple _ _ _ | .List _ _ => true
  | _ => false
def isSlice : Expr → Bool
  | .Slice _ _ _ _ => true
  | _ => false
def ckTg (se : Se) (sc : Scope) (fnAll : Bool) : Tgt → Expr → Bool
  | .one i, .Name x _ => decide (se.N[i]? = some x) && (if fnAll then locB sc x else lclB sc x) && !se.ow i
  | .many l, .Tuple es _ _ => go l es
  | _, _ => false
where
  go : List Nat → List Expr → Bool
  | [], [] => true
  | i :: l, .Name x _ :: es => decide (se.N[i]? = some x) && (if fnAll then locB sc x else lclB sc x) && !se.ow i && go l es
  | _, _ => false
def ownOf (se : Se) : Tgt → List (Str × Nat)
  | .one i => [((se.N[i]?).getD "", i)]
  | .many l => l.map fun i => ((se.N[i]?).getD "", i)
/-- these want names in a row -/
def ckIt : I → Expr → Bool
  | .zip _ _, .Tuple _ _ _ => true
  | .enum _, .Tuple _ _ _ => true
  | .zip _ _, _ => false
  | .enum _, _ => false
  | _, _ => true
def foldB : Expr → Bool
  | .Set _ _ _ => false
  | _ => true
/-- the same data, of no depth -/
def same : D → D → Bool
  | .int i, .int j => i == j
  | .str a, .str b => decide (a = b)
  | _, _ => false
def ckLit : D → Expr → Bool
  | .non, .Constant .none _ _ => true
  | .bl b, .Constant (.bool b') _ _ => b == b'
  | .int i, .Constant (.int j) _ _ => i == j
  | .int i, .UnaryOp .USub (.Constant (.int j) _ _) _ => i == -j
  | .str s, .Constant (.str x) _ _ => decide (tl x = s) && decide (s.length ≤ sizeD)
  | _, _ => false
def ckVar (se : Se) (sc : Scope) (i : Nat) : Expr → Bool
  | .Name x _ => decide (se.N[i]? = some x) && visB sc x && plB x
  | _ => false
def ckGlob (se : Se) (sc : Scope) (x : Str) (d : D) : Expr → Bool
  | .Name y _ => decide (x = y) && glB sc y && plB y && (se.GC.any fun p => decide (p.1 = x) && same p.2 d)
  | _ => false
/-- f(..), a name of a def or a built-in one -/
def ckFn (sc : Scope) (x : Str) : Expr → Bool
  | .Name y _ => decide (y = x) && glB sc y
  | _ => false
def ckTys (sc : Scope) : List Ty → Expr → Bool
  | [t], .Name y _ => decide (y = tyName t) && glB sc y
  | [t, u], .Tuple [.Name y _, .Name z _] _ _ => decide (y = tyName t) && glB sc y && decide (z = tyName u) && glB sc z
  | _, _ => false
mutual
def ckE (se : Se) (sc : Scope) : E → Expr → Bool
  | .var i, e => ckVar se sc i e
  | .lit d, e => ckLit d e
  | .glob x d, e => ckGlob se sc x d e
  | .bin o a b, e => match e with
    | .BinOp x op y _ => decide (op = opOf o) && ckE se sc a x && ckE se sc b y
    | _ => false
  | .cmp o a b, e => match e with
    | .Compare x [op] [y] _ => decide (op = cOf o) && ckE se sc a x && ckE se sc b y && !isSet y
    | _ => false
  | .isN neg a, e => match e with
    | .Compare x [op] [.Constant .none _ _] _ => decide (op = if neg then .IsNot else .Is) && ckE se sc a x
    | _ => false
  | .chain o1 o2 a b c, e => match e with
    | .Compare x [op1, op2] [y, z] _ => decide (op1 = cOf o1) && decide (op2 = cOf o2) && ckE se sc a x && ckE se sc b y && ckE se sc c z && !isSet z
    | _ => false
  | .and2 a b, e => match e with
    | .BoolOp .And [x, y] _ => ckE se sc a x && ckE se sc b y && !bor se a && !bor se b
    | .BoolOp .And (x :: y :: z :: r) _ => ckE se sc a x && !bor se a && ckEl se sc .And b (y :: z :: r)
    | _ => false
  | .or2 a b, e => match e with
    | .BoolOp .Or [x, y] _ => ckE se sc a x && ckE se sc b y && !bor se a && !bor se b
    | .BoolOp .Or (x :: y :: z :: r) _ => ckE se sc a x && !bor se a && ckEl se sc .Or b (y :: z :: r)
    | _ => false
  | .not1 a, e => match e with
    | .UnaryOp .Not x _ => ckE se sc a x
    | _ => false
  | .ifx c a b, e => match e with
    | .IfExp z x y _ => ckT se sc c z && ckE se sc a x && ckE se sc b y && !bor se a && !bor se b
    | _ => false
  | .idx a b, e => match e with
    | .Subscript x y _ => ckE se sc a x && ckE se sc b y && !isSlice y
    | _ => false
  | .sl a lo hi, e => match e with
    | .Subscript x (.Slice l h none _) _ => ckE se sc a x && ckO se sc lo l && ckO se sc hi h
    | _ => false
  | .slS a lo st, e => if 0 < st then (match e with
      | .Subscript x (.Slice l none (some (.Constant (.int k) _ _)) _) _ => decide (k = st) && ckE se sc a x && ckO se sc lo l
      | _ => false) else match lo, st, e with
    | .no, -1, .Subscript x (.Slice none none (some (.UnaryOp .USub (.Constant (.int 1) _ _) _)) _) _ => ckE se sc a x
    | _, _, _ => false
  | .tup l, e => match e with
    | .Tuple es _ _ => ckEs se sc false l es && decide (l.len ≤ 1000)
    | _ => false
  | .lst l, e => match e with
    | .List es _ => (ckEs se sc false l es || ckLT se sc l es) && decide (l.len ≤ 1000)
    | _ => false
  | .dic0, e => match e with
    | .Dict [] [] _ => true
    | _ => false
  | .comp tg it cn b, e => match e with
    | .ListComp elt [⟨t, iter, ifs, a⟩] scope _ => decide (a = 0) && ckTg se (relS scope sc) false tg t && ckI se sc it iter && ckIt it t && foldB iter && ckC se (relS scope sc) cn ifs && ckE se (relS scope sc) b elt && !bor se b && blkC se.N sc scope (ownOf se tg)
    | _ => false
  | .call k l, e => match e with
    | .Call (.Name x _) [] [] _ => decide (se.FN.lookup k = some (x, 0)) && glB sc x && plB x && (match l with | .nil => true | _ => false)
    | .Call (.Name x _) (e :: es) [] _ => decide (se.FN.lookup k = some (x, l.len)) && glB sc x && plB x && ckEs se sc false l (e :: es)
    | _ => false
  | .bi b l, e => match e with
    | .Call (.Name x _) (e :: es) [] _ => decide (x = biName b) && glB sc x && ckEs se sc true l (e :: es)
    | _ => false
  | .mth o r l, e => match e with
    | .Call (.Attribute x nm apos) (e :: es) [] cpos => decide (nm = mtName o) && mtTxt o && ckE se sc r x && ckEs se sc true l (e :: es) && decide (es.length ≤ 3) && notCall0 x && (apos.endLine == cpos.line)
    | .Call (.Attribute x nm apos) [] [] cpos => decide (nm = mtName o) && mtTxt o && ckE se sc r x && notCall0 x && (apos.endLine == cpos.line) && (match l with | .nil => true | _ => false)
    | _ => false
  | .rep _ _ _, _ => false
  | .tzip a b, e => match e with
    | .Call (.Name x _) [.Call (.Name z _) [e, y] [] _] [] _ => decide (x = "tuple") && glB sc x && decide (z = "zip") && glB sc z && ckE se sc a e && notStar e && ckE se sc b y && notStar y && !bor se a && !bor se b
    | _ => false
  | .isi ts a, e => match e with
    | .Call (.Name x _) [y, z] [] _ => decide (x = "isinstance") && glB sc x && ckTys sc ts z && ckE se sc a y && notStar y
    | _ => false
  | .isx k a, e => match e with
    | .Call (.Name x _) [y, .Name z _] [] _ => decide (x = "isinstance") && glB sc x && decide (z = exName k) && glB sc z && plB z && se.EX.contains k && ckE se sc a y && notStar y
    | _ => false
/-- the rest of a row of ands or ors, two things at least -/
def ckEl (se : Se) (sc : Scope) (o : BoolOp) : E → List Expr → Bool
  | .and2 a b, es => match es with
    | [x, y] => decide (o = .And) && ckE se sc a x && ckE se sc b y && !bor se a && !bor se b
    | x :: y :: z :: r => decide (o = .And) && ckE se sc a x && !bor se a && ckEl se sc o b (y :: z :: r)
    | _ => false
  | .or2 a b, es => match es with
    | [x, y] => decide (o = .Or) && ckE se sc a x && ckE se sc b y && !bor se a && !bor se b
    | x :: y :: z :: r => decide (o = .Or) && ckE se sc a x && !bor se a && ckEl se sc o b (y :: z :: r)
    | _ => false
  | _, _ => false
def ckT (se : Se) (sc : Scope) : E → Expr → Bool
  | .cmp o a b, e => match e with
    | .Compare x [op] [y] _ => decide (op = cOf o) && ckE se sc a x && ckE se sc b y && !isSet y
    | _ => false
  | .isN neg a, e => match e with
    | .Compare x [op] [.Constant .none _ _] _ => decide (op = if neg then .IsNot else .Is) && ckE se sc a x
    | _ => false
  | .chain o1 o2 a b c, e => match e with
    | .Compare x [op1, op2] [y, z] _ => decide (op1 = cOf o1) && decide (op2 = cOf o2) && ckE se sc a x && ckE se sc b y && ckE se sc c z && !isSet z
    | _ => false
  | .and2 a b, e => match e with
    | .BoolOp .And [x, y] _ => ckT se sc a x && ckT se sc b y
    | .BoolOp .And (x :: y :: z :: r) _ => ckT se sc a x && ckTl se sc .And b (y :: z :: r)
    | _ => false
  | .or2 a b, e => match e with
    | .BoolOp .Or [x, y] _ => ckT se sc a x && ckT se sc b y
    | .BoolOp .Or (x :: y :: z :: r) _ => ckT se sc a x && ckTl se sc .Or b (y :: z :: r)
    | _ => false
  | .not1 a, e => match e with
    | .UnaryOp .Not x _ => ckT se sc a x
    | _ => false
  | .var i, e => ckVar se sc i e
  | .idx a b, e => match e with
    | .Subscript x y _ => ckE se sc a x && ckE se sc b y && !isSlice y
    | _ => false
  | .call k l, e => match e with
    | .Call (.Name x _) [] [] _ => decide (se.FN.lookup k = some (x, 0)) && glB sc x && plB x && (match l with | .nil => true | _ => false)
    | .Call (.Name x _) (e :: es) [] _ => decide (se.FN.lookup k = some (x, l.len)) && glB sc x && plB x && ckEs se sc false l (e :: es)
    | _ => false
  | .bi b l, e => match e with
    | .Call (.Name x _) (e :: es) [] _ => decide (x = biName b) && glB sc x && ckEs se sc true l (e :: es)
    | _ => false
  | .isi ts a, e => match e with
    | .Call (.Name x _) [y, z] [] _ => decide (x = "isinstance") && glB sc x && ckTys sc ts z && ckE se sc a y && notStar y
    | _ => false
  | .isx k a, e => match e with
    | .Call (.Name x _) [y, .Name z _] [] _ => decide (x = "isinstance") && glB sc x && decide (z = exName k) && glB sc z && plB z && se.EX.contains k && ckE se sc a y && notStar y
    | _ => false
  | .mth o r l, e => match e with
    | .Call (.Attribute x nm apos) (e :: es) [] cpos => decide (nm = mtName o) && mtTxt o && ckE se sc r x && ckEs se sc true l (e :: es) && decide (es.length ≤ 3) && notCall0 x && (apos.endLine == cpos.line)
    | .Call (.Attribute x nm apos) [] [] cpos => decide (nm = mtName o) && mtTxt o && ckE se sc r x && notCall0 x && (apos.endLine == cpos.line) && (match l with | .nil => true | _ => false)
    | _ => false
  | .tzip a b, e => match e with
    | .Call (.Name x _) [.Call (.Name z _) [e, y] [] _] [] _ => decide (x = "tuple") && glB sc x && decide (z = "zip") && glB sc z && ckE se sc a e && notStar e && ckE se sc b y && notStar y && !bor se a && !bor se b
    | _ => false
  | _, _ => false
def ckTl (se : Se) (sc : Scope) (o : BoolOp) : E → List Expr → Bool
  | .and2 a b, es => match es with
    | [x, y] => decide (o = .And) && ckT se sc a x && ckT se sc b y
    | x :: y :: z :: r => decide (o = .And) && ckT se sc a x && ckTl se sc o b (y :: z :: r)
    | _ => false
  | .or2 a b, es => match es with
    | [x, y] => decide (o = .Or) && ckT se sc a x && ckT se sc b y
    | x :: y :: z :: r => decide (o = .Or) && ckT se sc a x && ckTl se sc o b (y :: z :: r)
    | _ => false
  | _, _ => false
def ckEs (se : Se) (sc : Scope) (b : Bool) : Es → List Expr → Bool
  | .nil, es => match es with
    | [] => true
    | _ => false
  | .cons a l, es => match es with
    | x :: es => ckE se sc a x && notStar x && (b || !bor se a) && ckEs se sc b l es
    | _ => false
def ckO (se : Se) (sc : Scope) : OE → Option Expr → Bool
  | .no, e => match e with
    | none => true
    | _ => false
  | .yes a, e => match e with
    | some x => ckE se sc a x
    | _ => false
def ckC (se : Se) (sc : Scope) : OE → List Expr → Bool
  | .no, es => match es with
    | [] => true
    | _ => false
  | .yes a, es => match es with
    | [x] => ckT se sc a x
    | _ => false
def ckI (se : Se) (sc : Scope) : I → Expr → Bool
  | .rev a, e => match e with
    | .Call (.Name x _) [e] [] _ => decide (x = "reversed") && glB sc x && ckE se sc a e && notStar e && !bor se a
    | _ => false
  | .enum a, e => match e with
    | .Call (.Name x _) [e] [] _ => decide (x = "enumerate") && glB sc x && ckE se sc a e && notStar e && !bor se a
    | _ => false
  | .zip a b, e => match e with
    | .Call (.Name x _) [e, y] [] _ => decide (x = "zip") && glB sc x && ckE se sc a e && notStar e && ckE se sc b y && notStar y && !bor se a && !bor se b
    | _ => false
  | .e a, x => ckE se sc a x
  | .rng1 a, e => match e with
    | .Call (.Name x _) [e] [] _ => decide (x = "range") && glB sc x && ckE se sc a e && notStar e && !bor se a
    | _ => false
  | .rng2 a b, e => match e with
    | .Call (.Name x _) [e, y] [] _ => decide (x = "range") && glB sc x && ckE se sc a e && notStar e && ckE se sc b y && notStar y && !bor se a && !bor se b
    | _ => false
  | _, _ => false
/-- what gives a token out -/
def ckH (se : Se) (sc : Scope) : E → Expr → Bool
  | .bin o a b, e => match o, a, e with
    | .add, .lit (.str a), .BinOp (.Constant (.str a') _ _) .Add y _ => decide (a' = S a) && ckE se sc b y && !bor se b
    | _, _, _ => false
  | _, _ => false
/-- what wants one -/
def ckR (se : Se) (sc : Scope) : E → Expr → Bool
  | .rep y z a, e => match e with
    | .Call (.Attribute x nm apos) [.Constant (.str y') _ _, .Constant (.str z') _ _] [] cpos => decide (nm = "replace") && decide (y' = S y) && decide (z' = S z) && !(S y == S z) && ckE se sc a x && !bor se a && notCall0 x && (apos.endLine == cpos.line)
    | _ => false
  | _, _ => false
def ckLT (se : Se) (sc : Scope) : Es → List Expr → Bool
  | .nil, _ => false
  | .cons a l, es => match es with
    | x :: es => ckH se sc a x && notStar x && ckET se sc l es
    | _ => false
def ckET (se : Se) (sc : Scope) : Es → List Expr → Bool
  | .nil, es => match es with
    | [] => true
    | _ => false
  | .cons a l, es => match es with
    | x :: es => (ckR se sc a x || (ckE se sc a x && !bor se a)) && notStar x && ckET se sc l es
    | _ => false
end
end MP

set_option maxRecDepth 100000
set_option maxHeartbeats 8000000
set_option autoImplicit false
namespace MP
open PySem L2

def borI (se : Se) : I → Bool
  | .e a => bor se a
  | _ => false
structure Good (se : Se) (c : Cn) (n : Nat) (W : WX) (X : Cx) : Prop where
  hK : c.K = X.K
  calm : X.calm = true
  hN : X.N = se.N
  nd : se.N.Nodup
  own : ∀ i, c.own i = se.ow i
  room : Room n X.A
  bi : ∀ b : BI, X.mg (biName b) = none
  ty : ∀ t : Ty, X.mg (tyName t) = none
  isi : X.mg "isinstance" = none
  rng : X.mg "range" = none
  zp : X.mg "zip" = none
  en : X.mg "enumerate" = none
  rv : X.mg "reversed" = none
  pa : ∀ σ, PassesAt (L2.CX X.prog X.w) X σ (WE W σ)
  fns : ∀ (k : Nat) (nm : Str) (par : Nat), se.FN.lookup k = some (nm, par) → ∃ (f : Addr) (fd : FuncData) (ps : List Str), X.mg nm = some (.ref f) ∧ PySem.W.keepIn X.K (.ref f) = true ∧ Binds X.K fd ps [] ∧ FnOk X.prog X.w X.K X.mg X.base (L2.CX X.prog X.w) n f fd ps (spD X.K c.cls par (c.cfg.call k))
  gcs : ∀ (nm : Str) (d : D), (nm, d) ∈ se.GC → ∃ v u, X.mg nm = some u ∧ RelV v u ∧ ∀ (A : Nat → Option Addr) (H : Hp), Rep c.K A H v d
  exf : ExFacts se.EX X.K X.mg c.cls c.cfg.sub
theorem Good.blk {se : Se} {c : Cn} {n : Nat} {W : WX} {X : Cx} (g : Good se c n W X) (s : Shared) (H : Hp) (scope : Scope) (env : Env) (fp : List Addr) : Good se c n W0 (X.blk s H scope env fp) :=
  ⟨g.hK, g.calm, g.hN, g.nd, g.own, g.room, g.bi, g.ty, g.isi, g.rng, g.zp, g.en, g.rv, fun σ => passAt takes0 σ, g.fns, g.gcs, g.exf⟩
/-- within a comprehension whose step may raise -/
theorem Good.blkX {se : Se} {c : Cn} {n : Nat} {W W' : WX} {X : Cx} (g : Good se c n W X) (s : Shared) (H : Hp) (scope : Scope) (env : Env) (fp : List Addr) (pa : ∀ σ, PassesAt (L2.CX X.prog X.w) (MP.blkX X s H scope env fp) σ (WE W' σ)) : Good se c n W' (MP.blkX X s H scope env fp) :=
  ⟨g.hK, g.calm, g.hN, g.nd, g.own, g.room, g.bi, g.ty, g.isi, g.rng, g.zp, g.en, g.rv, pa, g.fns, g.gcs, g.exf⟩
theorem Good.hu {se : Se} {c : Cn} {n : Nat} {W : WX} {X : Cx} (g : Good se c n W X) : X.A.units + 65 < cLine := by
  have := g.room.un
  omega
section
variable {se : Se} {c : Cn} {n : Nat} {W : WX} {X : Cx} {sc : Scope}
theorem vis_of (hs : X.env.scope = sc) {x : Str} (h : visB sc x = true) : Vis X.env.scope x := by
  unfold visB at h
  rw [hs]
  split at h
  · exact .inl (by assumption)
  · exact .inr (.inl (by assumption))
  · exact .inr (.inr (by assumption))
  · cases h
theorem loc_of (hs : X.env.scope = sc) {x : Str} (h : locB sc x = true) : Loc X.env.scope x := by
  unfold locB at h
  rw [hs]
  split at h
  · exact .inl (by assumption)
  · exact .inr (by assumption)
  · cases h
theorem lcl_of (hs : X.env.scope = sc) {x : Str} (h : lclB sc x = true) : X.env.scope.names.lookup x = some .local := by
  unfold lclB at h
  rw [hs]
  split at h
  · assumption
  · cases h
theorem gl_of (hs : X.env.scope = sc) {x : Str} (h : glB sc x = true) : Gl X x := by
  unfold glB at h
  show X.env.scope.names.lookup x = _
  rw [hs]
  split at h
  · assumption
  · cases h
theorem pl_of {x : Str} (h : plB x = true) : (x == ("__debug__" : Str)) = false ∧ (x == ("__classdict__" : Str)) = false := by
  unfold plB at h
  simp only [Bool.and_eq_true, Bool.not_eq_true'] at h
  exact h
theorem stars_of {b : Bool} : ∀ {l : Es} {es : List Expr}, ckEs se sc b l es = true → es.all notStar = true
  | .nil, [], _ => rfl
  | .nil, _ :: _, h => by simp [ckEs] at h
  | .cons a l, [], h => by simp [ckEs] at h
  | .cons a l, x :: es, h => by
    simp only [ckEs, Bool.and_eq_true] at h
    rw [List.all_cons, h.1.1.2, stars_of h.2]
    rfl
theorem fold_of {iter : Expr} (h : foldB iter = true) : ∀ x, foldedSetIterable iter X.env x = pure x := fun x => by
  cases iter <;> first | rfl | (simp [foldB] at h)
theorem tg_of (g : Good se c n W X) (hs : X.env.scope = sc) {fnAll : Bool} (hf : fnAll = true → ∀ x, X.fn x = true) : ∀ {tg : Tgt} {t : Expr}, ckTg se sc fnAll tg t = true → PG X t (TGr c.K tg) ∧ ∀ i ∈ tg.slots, c.own i = false := by
  have one : ∀ {i : Nat} {x : Str}, (decide (se.N[i]? = some x) && (if fnAll then locB sc x else lclB sc x) && !se.ow i) = true → X.N[i]? = some x ∧ Loc X.env.scope x ∧ (X.fn x = true ∨ X.env.scope.names.lookup x = some .local) ∧ c.own i = false := fun {i x} h => by
    simp only [Bool.and_eq_true, decide_eq_true_eq, Bool.not_eq_true'] at h
    refine ⟨by rw [g.hN]; exact h.1.1, ?_, ?_, by rw [g.own]; exact h.2⟩
    · cases fnAll with
      | true => exact loc_of hs h.1.2
      | false => exact .inl (lcl_of hs h.1.2)
    · cases fnAll with
      | true => exact .inl (hf rfl x)
      | false => exact .inr (lcl_of hs h.1.2)
  have go : ∀ (l : List Nat) (es : List Expr), ckTg.go se sc fnAll l es = true → Tgs X es l ∧ ∀ i ∈ l, c.own i = false := fun l => by
    induction l with
    | nil =>
      intro es h
      cases es with
      | nil => exact ⟨.nil, fun i hi => by cases hi⟩
      | cons _ _ => simp [ckTg.go] at h
    | cons i l ih =>
      intro es h
      cases es with
      | nil => simp [ckTg.go] at h
      | cons e es =>
        cases e with
        | Name x pos =>
          rw [ckTg.go, Bool.and_eq_true] at h
          obtain ⟨q1, q2, q3, q4⟩ := one h.1
          obtain ⟨r1, r2⟩ := ih es h.2
          exact ⟨.cons q1 q2 q3 r1, fun j hj => (List.mem_cons.mp hj).elim (fun e => by rw [e]; exact q4) (r2 j)⟩
        | _ => simp [ckTg.go] at h
  intro tg t h
  cases tg with
  | one i =>
    cases t with
    | Name x pos =>
      obtain ⟨q1, q2, q3, q4⟩ := one h
      refine ⟨?_, fun j hj => ?_⟩
      · rw [g.hK]
        exact s_tg1 (by rw [g.hN]; exact g.nd) q1 q2 q3
      · rcases List.mem_cons.mp hj with e | e
        · rw [e]; exact q4
        · cases e
    | _ => simp [ckTg] at h
  | many l =>
    cases t with
    | Tuple es k pos =>
      obtain ⟨q1, q2⟩ := go l es h
      refine ⟨?_, q2⟩
      rw [g.hK]
      exact s_tgN g.calm (by rw [g.hN]; exact g.nd) q1
    | _ => simp [ckTg] at h
theorem tg_own {fnAll : Bool} : ∀ {tg : Tgt} {t : Expr}, ckTg se sc fnAll tg t = true → ∀ i ∈ tg.slots, se.ow i = false := by
  have go : ∀ (l : List Nat) (es : List Expr), ckTg.go se sc fnAll l es = true → ∀ i ∈ l, se.ow i = false := fun l => by
    induction l with
    | nil => exact fun es _ i hi => by cases hi
    | cons i l ih =>
      intro es h
      cases es with
      | nil => simp [ckTg.go] at h
      | cons e es =>
        cases e with
        | Name x pos =>
          rw [ckTg.go] at h
          simp only [Bool.and_eq_true, Bool.not_eq_true'] at h
          exact fun j hj => (List.mem_cons.mp hj).elim (fun e => by rw [e]; exact h.1.2) (ih es h.2 j)
        | _ => simp [ckTg.go] at h
  intro tg t h
  cases tg with
  | one i =>
    cases t with
    | Name x pos =>
      unfold ckTg at h
      simp only [Bool.and_eq_true, Bool.not_eq_true'] at h
      exact fun j hj => by
        rcases List.mem_cons.mp hj with e | e
        · rw [e]; exact h.2
        · cases e
    | _ => simp [ckTg] at h
  | many l =>
    cases t with
    | Tuple es k pos => exact go l es h
    | _ => simp [ckTg] at h
theorem same_of {d e : D} (h : same d e = true) : d = e := by
  unfold same at h
  split at h
  · simp at h; rw [h]
  · simp at h; rw [h]
  · cases h
theorem ownOf_snd (tg : Tgt) : (ownOf se tg).map (·.2) = tg.slots := by
  cases tg with
  | one i => rfl
  | many l =>
    show (l.map _).map _ = l
    rw [List.map_map]
    exact List.map_id l
theorem bor_vis {i : Nat} (g : Good se c n W X) : bor se (.var i) = c.own i := (g.own i).symm
theorem k_var {W : WX} {i : Nat} {e : Expr} (g : Good se c n W X) (hs : X.env.scope = sc) (h : ckVar se sc i e = true) : PE X e (TEr c W (bor se (.var i)) (.var i)) := by
  unfold ckVar at h
  split at h
  · simp only [Bool.and_eq_true, decide_eq_true_eq] at h
    rw [bor_vis g]
    exact s_var (by rw [g.hN]; exact h.1.1) (vis_of hs h.1.2) (pl_of h.2).1 (pl_of h.2).2
  · cases h
theorem k_lit {W : WX} {d : D} {e : Expr} (h : ckLit d e = true) : PE X e (TEr c W false (.lit d)) := by
  unfold ckLit at h
  split at h
  · exact s_lit pe_non fun _ _ => .non
  · have := eq_of_beq h
    subst this
    exact s_lit pe_bl fun _ _ => .bl _
  · have := eq_of_beq h
    subst this
    exact s_lit pe_int fun _ _ => .int _
  · have := eq_of_beq h
    subst this
    refine s_lit (v := .int _) (pe_imp (pe_un un_neg pe_int) fun σ H Q q => ⟨_, rfl, q⟩) fun _ _ => .int _
  · rename_i s x _ _
    rw [Bool.and_eq_true, decide_eq_true_eq, decide_eq_true_eq] at h
    obtain ⟨h1, h2⟩ := h
    subst h1
    refine s_lit (v := .str (S (tl x))) (by rw [S_tl]; exact pe_str) fun _ _ => .str _ h2
  · cases h
theorem k_glob {W : WX} {d : D} {x : Str} {e : Expr} (g : Good se c n W X) (hs : X.env.scope = sc) (h : ckGlob se sc x d e = true) : PE X e (TEr c W false (.glob x d)) := by
  unfold ckGlob at h
  split at h
  · rename_i y pos
    simp only [Bool.and_eq_true, decide_eq_true_eq, List.any_eq_true] at h
    obtain ⟨⟨⟨h1, h2⟩, h3⟩, ⟨p, hp, h4, h5⟩⟩ := h
    subst h1
    have := same_of h5
    subst this
    obtain ⟨v, u, q1, q2, q3⟩ := g.gcs p.1 p.2 hp
    rw [h4] at q1
    exact s_glob (pe_glob (gl_of hs h2) q1 q2 (pl_of h3).1) q3
  · cases h
theorem TEr.up {W : WX} {b : Bool} {ir : E} {e : Expr} (h : PE X e (TEr c W b ir)) : PE X e (TEr c W true ir) := pe_imp h fun σ H Q ⟨G, L, m, ρ, E, q⟩ => ⟨G, L, m, ρ, E, PstG.imp q fun d m' H' L' _ _ _ q v r => q v r.weak⟩
theorem nb_of {W : WX} {ir : E} {e : Expr} (h : PE X e (TEr c W (bor se ir) ir)) (hb : bor se ir = false) : PE X e (TEr c W false ir) := by
  rw [hb] at h
  exact h
theorem star_ok {e : Expr} (h : (e :: ([] : List Expr)).all notStar = true) : notStar e = true := by
  rw [List.all_cons, Bool.and_eq_true] at h
  exact h.1
theorem isIx_of {y : Expr} (h : isSlice y = false) : PlainIx y := fun o i => by
  cases y <;> first | rfl | (simp [isSlice] at h)
end
mutual
theorem okE {se : Se} {c : Cn} {n : Nat} : ∀ (ir : E) {e : Expr} {W : WX} {X : Cx} {sc : Scope}, Good se c n W X → X.env.scope = sc → ckE se sc ir e = true → PE X e (TEr c W (bor se ir) ir)
  | .var i, e, W, X, sc, g, hs, h => k_var g hs (by rw [ckE] at h; exact h)
  | .lit d, e, W, X, sc, g, hs, h => k_lit (by rw [ckE] at h; exact h)
  | .glob x d, e, W, X, sc, g, hs, h => k_glob g hs (by rw [ckE] at h; exact h)
  | .bin o a b, e, W, X, sc, g, hs, h => by
    unfold ckE at h
    split at h
    · simp only [Bool.and_eq_true, decide_eq_true_eq] at h
      obtain ⟨⟨h1, h2⟩, h3⟩ := h
      subst h1
      exact s_bin o g.hK (okE a g hs h2) (okE b g hs h3)
    · cases h
  | .cmp o a b, e, W, X, sc, g, hs, h => by
    unfold ckE at h
    split at h
    · simp only [Bool.and_eq_true, decide_eq_true_eq, Bool.not_eq_true'] at h
      obtain ⟨⟨⟨h1, h2⟩, h3⟩, h4⟩ := h
      subst h1
      exact s_cmp g.hK g.hu o (okE a g hs h2) (okE b g hs h3) h4
    · cases h
  | .isN neg a, e, W, X, sc, g, hs, h => by
    unfold ckE at h
    split at h
    · simp only [Bool.and_eq_true, decide_eq_true_eq] at h
      obtain ⟨h1, h2⟩ := h
      subst h1
      exact s_isN neg (okE a g hs h2)
    · cases h
  | .chain o1 o2 a b d, e, W, X, sc, g, hs, h => by
    unfold ckE at h
    split at h
    · simp only [Bool.and_eq_true, decide_eq_true_eq, Bool.not_eq_true'] at h
      obtain ⟨⟨⟨⟨⟨h1, h2⟩, h3⟩, h4⟩, h5⟩, h6⟩ := h
      subst h1 h2
      exact s_chain g.hK g.hu o1 o2 (okE a g hs h3) (okE b g hs h4) (okE d g hs h5) h6
    · cases h
  | .and2 a b, e, W, X, sc, g, hs, h => by
    unfold ckE at h
    split at h
    · simp only [Bool.and_eq_true, Bool.not_eq_true'] at h
      obtain ⟨⟨⟨h1, h2⟩, h3⟩, h4⟩ := h
      exact s_and g.hK (nb_of (okE a g hs h1) h3) (pe_one (nb_of (okE b g hs h2) h4))
    · simp only [Bool.and_eq_true, Bool.not_eq_true'] at h
      obtain ⟨⟨h1, h3⟩, h4⟩ := h
      exact s_and g.hK (nb_of (okE a g hs h1) h3) (okEl b .And _ g hs h4)
    · cases h
  | .or2 a b, e, W, X, sc, g, hs, h => by
    unfold ckE at h
    split at h
    · simp only [Bool.and_eq_true, Bool.not_eq_true'] at h
      obtain ⟨⟨⟨h1, h2⟩, h3⟩, h4⟩ := h
      exact s_or g.hK (nb_of (okE a g hs h1) h3) (pe_one (nb_of (okE b g hs h2) h4))
    · simp only [Bool.and_eq_true, Bool.not_eq_true'] at h
      obtain ⟨⟨h1, h3⟩, h4⟩ := h
      exact s_or g.hK (nb_of (okE a g hs h1) h3) (okEl b .Or _ g hs h4)
    · cases h
  | .not1 a, e, W, X, sc, g, hs, h => by
    unfold ckE at h
    split at h
    · exact s_not g.hK (okE a g hs h)
    · cases h
  | .ifx d a b, e, W, X, sc, g, hs, h => by
    unfold ckE at h
    split at h
    · simp only [Bool.and_eq_true, Bool.not_eq_true'] at h
      obtain ⟨⟨⟨⟨h1, h2⟩, h3⟩, h4⟩, h5⟩ := h
      exact s_ifx (okT d g hs h1) (nb_of (okE a g hs h2) h4) (nb_of (okE b g hs h3) h5)
    · cases h
  | .idx a b, e, W, X, sc, g, hs, h => by
    unfold ckE at h
    split at h
    · simp only [Bool.and_eq_true, Bool.not_eq_true'] at h
      exact s_idx g.hK (okE a g hs h.1.1) (okE b g hs h.1.2) (isIx_of h.2)
    · cases h
  | .sl a lo hi, e, W, X, sc, g, hs, h => by
    unfold ckE at h
    split at h
    · simp only [Bool.and_eq_true] at h
      exact s_sl g.hK (okE a g hs h.1.1) (okO lo g hs h.1.2) (okO hi g hs h.2)
    · cases h
  | .slS a lo st, e, W, X, sc, g, hs, h => by
    unfold ckE at h
    split at h
    · rename_i h0
      split at h
      · simp only [Bool.and_eq_true, decide_eq_true_eq] at h
        obtain ⟨⟨h1, h2⟩, h3⟩ := h
        subst h1
        exact s_step h0 g.hK (okE a g hs h2) (okO lo g hs h3)
      · cases h
    · split at h
      · exact s_rev g.hK (okE a g hs h)
      · cases h
  | .tup l, e, W, X, sc, g, hs, h => by
    unfold ckE at h
    split at h
    · rw [Bool.and_eq_true, decide_eq_true_eq] at h
      exact s_tup (okEs l g hs h.1) h.2
    · cases h
  | .lst l, e, W, X, sc, g, hs, h => by
    unfold ckE at h
    split at h
    · rw [Bool.and_eq_true, decide_eq_true_eq, Bool.or_eq_true] at h
      rcases h.1 with h1 | h1
      · exact s_lst (okEs l g hs h1) h.2
      · exact s_lst (okLT l g hs h1) h.2
    · cases h
  | .dic0, e, W, X, sc, g, hs, h => by
    unfold ckE at h
    split at h
    · exact s_dic0
    · cases h
  | .comp tg it cn b, e, W, X, sc, g, hs, h => by
    unfold ckE at h
    split at h
    · simp only [Bool.and_eq_true, Bool.not_eq_true', decide_eq_true_eq] at h
      obtain ⟨⟨⟨⟨⟨⟨⟨⟨h0, h1⟩, h2⟩, h2t⟩, h3⟩, h4⟩, h5⟩, h6⟩, h7⟩ := h
      subst h0
      rename_i scope pos
      have blk := fun (s : Shared) (H : Hp) (C : Addr) (cl : List (Str × Addr)) (fp : List Addr) => (g.blk s H scope (compEnvC scope cl C X.env) fp)
      refine s_comp (bc := borI se it) g.hK g.calm (by rw [g.hN]; exact g.nd) (okI it g hs h2 h2t) (by rw [g.hN, hs]; exact blkOk_by h7) (ownOf_snd tg) (fun i hi => ?_) (fun s H C cl fp => ?_) (fun s H C cl fp => ?_) (fun s H C cl fp => ?_) (fold_of h3)
      · rw [g.own]
        exact tg_own h1 i hi
      · exact (tg_of (blk s H C cl fp) (by rw [← hs]; rfl) (fun q => by cases q) h1).1
      · exact okC cn (blk s H C cl fp) (by rw [← hs]; rfl) h4
      · exact nb_of (okE b (blk s H C cl fp) (by rw [← hs]; rfl) h5) h6
    · cases h
  | .call k l, e, W, X, sc, g, hs, h => by
    unfold ckE at h
    split at h
    · simp only [Bool.and_eq_true, decide_eq_true_eq] at h
      obtain ⟨⟨⟨h1, h2⟩, h3⟩, h4⟩ := h
      obtain ⟨f, fd, ps, q1, q2, q3, q4⟩ := g.fns _ _ _ h1
      split at h4
      · exact s_call0 g.hK q4 g.room (gl_of hs h2) q1 q2 q3 g.pa (pl_of h3).1
      · cases h4
    · simp only [Bool.and_eq_true, decide_eq_true_eq] at h
      obtain ⟨⟨⟨h1, h2⟩, h3⟩, h4⟩ := h
      obtain ⟨f, fd, ps, q1, q2, q3, q4⟩ := g.fns _ _ _ h1
      exact s_call g.hK q4 g.room (gl_of hs h2) q1 q2 q3 g.pa (okEs l g hs h4) rfl (pl_of h3).1 (stars_of h4)
    · cases h
  | .bi b l, e, W, X, sc, g, hs, h => by
    unfold ckE at h
    split at h
    · simp only [Bool.and_eq_true, decide_eq_true_eq] at h
      obtain ⟨⟨h1, h2⟩, h3⟩ := h
      subst h1
      exact s_bi g.hK g.calm g.hu b (gl_of hs h2) (g.bi b) (okEs l g hs h3) (stars_of h3)
    · cases h
  | .mth o r l, e, W, X, sc, g, hs, h => by
    unfold ckE at h
    split at h
    · simp only [Bool.and_eq_true, decide_eq_true_eq] at h
      obtain ⟨⟨⟨⟨⟨⟨h1, h2⟩, h3⟩, h4⟩, h5⟩, h6⟩, h7⟩ := h
      subst h1
      exact s_mth h2 g.hK (okE r g hs h3) (okEs l g hs h4) (stars_of h4) h5 h6 h7
    · simp only [Bool.and_eq_true, decide_eq_true_eq] at h
      obtain ⟨⟨⟨⟨⟨h1, h2⟩, h3⟩, h4⟩, h5⟩, h6⟩ := h
      subst h1
      split at h6
      · exact s_mth0 h2 g.hK (okE r g hs h3) h4 h5
      · cases h6
    · cases h
  | .rep _ _ _, _, _, _, _, _, _, h => by simp [ckE] at h
  | .tzip a b, e, W, X, sc, g, hs, h => by
    unfold ckE at h
    split at h
    · simp only [Bool.and_eq_true, decide_eq_true_eq, Bool.not_eq_true'] at h
      obtain ⟨⟨⟨⟨⟨⟨⟨⟨⟨h1, h2⟩, h3⟩, h4⟩, h5⟩, h6⟩, h7⟩, h8⟩, h9⟩, h10⟩ := h
      subst h1 h3
      exact s_tzip g.hK g.calm (gl_of hs h2) (g.bi .tuple) (gl_of hs h4) g.zp (nb_of (okE a g hs h5) h9) (nb_of (okE b g hs h7) h10) h6 h8
    · cases h
  | .isi ts a, e, W, X, sc, g, hs, h => by
    unfold ckE at h
    split at h
    · simp only [Bool.and_eq_true, decide_eq_true_eq] at h
      obtain ⟨⟨⟨⟨h1, h2⟩, h3⟩, h4⟩, h5⟩ := h
      subst h1
      unfold ckTys at h3
      split at h3
      · simp only [Bool.and_eq_true, decide_eq_true_eq] at h3
        obtain ⟨h6, h7⟩ := h3
        subst h6
        exact s_isi1 (k := 0) _ g.hK (gl_of hs h2) g.isi (gl_of hs h7) (g.ty _) (okE a g hs h4) h5
      · simp only [Bool.and_eq_true, decide_eq_true_eq] at h3
        obtain ⟨⟨⟨h6, h7⟩, h8⟩, h9⟩ := h3
        subst h6 h8
        exact s_isi2 _ _ g.hK (gl_of hs h2) g.isi (gl_of hs h7) (g.ty _) (gl_of hs h9) (g.ty _) (okE a g hs h4) h5
      · cases h3
    · cases h
  | .isx k a, e, W, X, sc, g, hs, h => by
    unfold ckE at h
    split at h
    · simp only [Bool.and_eq_true, decide_eq_true_eq, List.contains_iff_mem] at h
      obtain ⟨⟨⟨⟨⟨⟨⟨h1, h2⟩, h3⟩, h4⟩, h5⟩, h6⟩, h7⟩, h8⟩ := h
      subst h1 h3
      exact s_isx g.exf h6 g.hK (gl_of hs h2) g.isi (gl_of hs h4) (pl_of h5).1 (okE a g hs h7) h8
    · cases h
theorem okEl {se : Se} {c : Cn} {n : Nat} : ∀ (ir : E) (o : BoolOp) (es : List Expr) {W : WX} {X : Cx} {sc : Scope} {pos : Pos}, Good se c n W X → X.env.scope = sc → ckEl se sc o ir es = true → PE X (.BoolOp o es pos) (TEr c W false ir)
  | .and2 a b, o, es, W, X, sc, pos, g, hs, h => by
    unfold ckEl at h
    split at h
    · simp only [Bool.and_eq_true, Bool.not_eq_true', decide_eq_true_eq] at h
      obtain ⟨⟨⟨⟨h0, h1⟩, h2⟩, h3⟩, h4⟩ := h
      subst h0
      exact s_and g.hK (nb_of (okE a g hs h1) h3) (pe_one (nb_of (okE b g hs h2) h4))
    · simp only [Bool.and_eq_true, Bool.not_eq_true', decide_eq_true_eq] at h
      obtain ⟨⟨⟨h0, h1⟩, h3⟩, h4⟩ := h
      subst h0
      exact s_and g.hK (nb_of (okE a g hs h1) h3) (okEl b .And _ g hs h4)
    · cases h
  | .or2 a b, o, es, W, X, sc, pos, g, hs, h => by
    unfold ckEl at h
    split at h
    · simp only [Bool.and_eq_true, Bool.not_eq_true', decide_eq_true_eq] at h
      obtain ⟨⟨⟨⟨h0, h1⟩, h2⟩, h3⟩, h4⟩ := h
      subst h0
      exact s_or g.hK (nb_of (okE a g hs h1) h3) (pe_one (nb_of (okE b g hs h2) h4))
    · simp only [Bool.and_eq_true, Bool.not_eq_true', decide_eq_true_eq] at h
      obtain ⟨⟨⟨h0, h1⟩, h3⟩, h4⟩ := h
      subst h0
      exact s_or g.hK (nb_of (okE a g hs h1) h3) (okEl b .Or _ g hs h4)
    · cases h
  | .var _, _, _, _, _, _, _, _, _, h => by simp [ckEl] at h
  | .lit _, _, _, _, _, _, _, _, _, h => by simp [ckEl] at h
  | .glob _ _, _, _, _, _, _, _, _, _, h => by simp [ckEl] at h
  | .bin _ _ _, _, _, _, _, _, _, _, _, h => by simp [ckEl] at h
  | .cmp _ _ _, _, _, _, _, _, _, _, _, h => by simp [ckEl] at h
  | .isN _ _, _, _, _, _, _, _, _, _, h => by simp [ckEl] at h
  | .chain _ _ _ _ _, _, _, _, _, _, _, _, _, h => by simp [ckEl] at h
  | .not1 _, _, _, _, _, _, _, _, _, h => by simp [ckEl] at h
  | .ifx _ _ _, _, _, _, _, _, _, _, _, h => by simp [ckEl] at h
  | .idx _ _, _, _, _, _, _, _, _, _, h => by simp [ckEl] at h
  | .sl _ _ _, _, _, _, _, _, _, _, _, h => by simp [ckEl] at h
  | .slS _ _ _, _, _, _, _, _, _, _, _, h => by simp [ckEl] at h
  | .tup _, _, _, _, _, _, _, _, _, h => by simp [ckEl] at h
  | .lst _, _, _, _, _, _, _, _, _, h => by simp [ckEl] at h
  | .dic0, _, _, _, _, _, _, _, _, h => by simp [ckEl] at h
  | .comp _ _ _ _, _, _, _, _, _, _, _, _, h => by simp [ckEl] at h
  | .call _ _, _, _, _, _, _, _, _, _, h => by simp [ckEl] at h
  | .bi _ _, _, _, _, _, _, _, _, _, h => by simp [ckEl] at h
  | .mth _ _ _, _, _, _, _, _, _, _, _, h => by simp [ckEl] at h
  | .isi _ _, _, _, _, _, _, _, _, _, h => by simp [ckEl] at h
  | .isx _ _, _, _, _, _, _, _, _, _, h => by simp [ckEl] at h
  | .tzip _ _, _, _, _, _, _, _, _, _, h => by simp [ckEl] at h
  | .rep _ _ _, _, _, _, _, _, _, _, _, h => by simp [ckEl] at h
theorem okT {se : Se} {c : Cn} {n : Nat} : ∀ (ir : E) {e : Expr} {W : WX} {X : Cx} {sc : Scope}, Good se c n W X → X.env.scope = sc → ckT se sc ir e = true → PT X e (TTr c W ir)
  | .cmp o a b, e, W, X, sc, g, hs, h => by
    unfold ckT at h
    split at h
    · simp only [Bool.and_eq_true, decide_eq_true_eq, Bool.not_eq_true'] at h
      obtain ⟨⟨⟨h1, h2⟩, h3⟩, h4⟩ := h
      subst h1
      exact s_cmpT g.hK g.hu o (okE a g hs h2) (okE b g hs h3) h4
    · cases h
  | .isN neg a, e, W, X, sc, g, hs, h => by
    unfold ckT at h
    split at h
    · simp only [Bool.and_eq_true, decide_eq_true_eq] at h
      obtain ⟨h1, h2⟩ := h
      subst h1
      exact s_isNT neg (okE a g hs h2)
    · cases h
  | .chain o1 o2 a b d, e, W, X, sc, g, hs, h => by
    unfold ckT at h
    split at h
    · simp only [Bool.and_eq_true, decide_eq_true_eq, Bool.not_eq_true'] at h
      obtain ⟨⟨⟨⟨⟨h1, h2⟩, h3⟩, h4⟩, h5⟩, h6⟩ := h
      subst h1 h2
      exact s_chainT g.hK g.hu o1 o2 (okE a g hs h3) (okE b g hs h4) (okE d g hs h5) h6
    · cases h
  | .and2 a b, e, W, X, sc, g, hs, h => by
    unfold ckT at h
    split at h
    · rw [Bool.and_eq_true] at h
      exact (s_andT (okT a g hs h.1) (pw_and1 (okT b g hs h.2))).pt
    · rw [Bool.and_eq_true] at h
      exact (s_andT (okT a g hs h.1) (okTl b .And _ g hs h.2)).pt
    · cases h
  | .or2 a b, e, W, X, sc, g, hs, h => by
    unfold ckT at h
    split at h
    · rw [Bool.and_eq_true] at h
      exact (s_orT (okT a g hs h.1) (pw_or1 (okT b g hs h.2))).pt
    · rw [Bool.and_eq_true] at h
      exact (s_orT (okT a g hs h.1) (okTl b .Or _ g hs h.2)).pt
    · cases h
  | .not1 a, e, W, X, sc, g, hs, h => by
    unfold ckT at h
    split at h
    · exact s_notT (okT a g hs h)
    · cases h
  | .var i, e, W, X, sc, g, hs, h => by
    unfold ckT at h
    have h' := h
    unfold ckVar at h'
    split at h'
    · exact s_truth g.hK (k_var g hs h) fun _ => rfl
    · cases h'
  | .idx a b, e, W, X, sc, g, hs, h => by
    unfold ckT at h
    split at h
    · simp only [Bool.and_eq_true, Bool.not_eq_true'] at h
      exact s_truth g.hK (s_idx g.hK (okE a g hs h.1.1) (okE b g hs h.1.2) (isIx_of h.2)) fun _ => rfl
    · cases h
  | .call k l, e, W, X, sc, g, hs, h => by
    unfold ckT at h
    split at h
    · simp only [Bool.and_eq_true, decide_eq_true_eq] at h
      obtain ⟨⟨⟨h1, h2⟩, h3⟩, h4⟩ := h
      obtain ⟨f, fd, ps, q1, q2, q3, q4⟩ := g.fns _ _ _ h1
      split at h4
      · exact s_truth g.hK (s_call0 g.hK q4 g.room (gl_of hs h2) q1 q2 q3 g.pa (pl_of h3).1) fun _ => rfl
      · cases h4
    · simp only [Bool.and_eq_true, decide_eq_true_eq] at h
      obtain ⟨⟨⟨h1, h2⟩, h3⟩, h4⟩ := h
      obtain ⟨f, fd, ps, q1, q2, q3, q4⟩ := g.fns _ _ _ h1
      exact s_truth g.hK (s_call g.hK q4 g.room (gl_of hs h2) q1 q2 q3 g.pa (okEs l g hs h4) rfl (pl_of h3).1 (stars_of h4)) fun _ => rfl
    · cases h
  | .bi b l, e, W, X, sc, g, hs, h => by
    unfold ckT at h
    split at h
    · simp only [Bool.and_eq_true, decide_eq_true_eq] at h
      obtain ⟨⟨h1, h2⟩, h3⟩ := h
      subst h1
      exact s_truth g.hK (s_bi g.hK g.calm g.hu b (gl_of hs h2) (g.bi b) (okEs l g hs h3) (stars_of h3)) fun _ => rfl
    · cases h
  | .isi ts a, e, W, X, sc, g, hs, h => by
    unfold ckT at h
    split at h
    · simp only [Bool.and_eq_true, decide_eq_true_eq] at h
      obtain ⟨⟨⟨⟨h1, h2⟩, h3⟩, h4⟩, h5⟩ := h
      subst h1
      unfold ckTys at h3
      split at h3
      · simp only [Bool.and_eq_true, decide_eq_true_eq] at h3
        obtain ⟨h6, h7⟩ := h3
        subst h6
        exact s_truth g.hK (s_isi1 (k := 0) _ g.hK (gl_of hs h2) g.isi (gl_of hs h7) (g.ty _) (okE a g hs h4) h5) fun _ => rfl
      · simp only [Bool.and_eq_true, decide_eq_true_eq] at h3
        obtain ⟨⟨⟨h6, h7⟩, h8⟩, h9⟩ := h3
        subst h6 h8
        exact s_truth g.hK (s_isi2 _ _ g.hK (gl_of hs h2) g.isi (gl_of hs h7) (g.ty _) (gl_of hs h9) (g.ty _) (okE a g hs h4) h5) fun _ => rfl
      · cases h3
    · cases h
  | .isx k a, e, W, X, sc, g, hs, h => by
    unfold ckT at h
    split at h
    · simp only [Bool.and_eq_true, decide_eq_true_eq, List.contains_iff_mem] at h
      obtain ⟨⟨⟨⟨⟨⟨⟨h1, h2⟩, h3⟩, h4⟩, h5⟩, h6⟩, h7⟩, h8⟩ := h
      subst h1 h3
      exact s_truth g.hK (s_isx g.exf h6 g.hK (gl_of hs h2) g.isi (gl_of hs h4) (pl_of h5).1 (okE a g hs h7) h8) fun _ => rfl
    · cases h
  | .lit _, _, _, _, _, _, _, h => by simp [ckT] at h
  | .glob _ _, _, _, _, _, _, _, h => by simp [ckT] at h
  | .bin _ _ _, _, _, _, _, _, _, h => by simp [ckT] at h
  | .ifx _ _ _, _, _, _, _, _, _, h => by simp [ckT] at h
  | .sl _ _ _, _, _, _, _, _, _, h => by simp [ckT] at h
  | .slS _ _ _, _, _, _, _, _, _, h => by simp [ckT] at h
  | .tup _, _, _, _, _, _, _, h => by simp [ckT] at h
  | .lst _, _, _, _, _, _, _, h => by simp [ckT] at h
  | .dic0, _, _, _, _, _, _, h => by simp [ckT] at h
  | .comp _ _ _ _, _, _, _, _, _, _, h => by simp [ckT] at h
  | .mth o r l, e, W, X, sc, g, hs, h => by
    unfold ckT at h
    split at h
    · simp only [Bool.and_eq_true, decide_eq_true_eq] at h
      obtain ⟨⟨⟨⟨⟨⟨h1, h2⟩, h3⟩, h4⟩, h5⟩, h6⟩, h7⟩ := h
      subst h1
      exact s_truth g.hK (s_mth h2 g.hK (okE r g hs h3) (okEs l g hs h4) (stars_of h4) h5 h6 h7) fun _ => rfl
    · simp only [Bool.and_eq_true, decide_eq_true_eq] at h
      obtain ⟨⟨⟨⟨⟨h1, h2⟩, h3⟩, h4⟩, h5⟩, h6⟩ := h
      subst h1
      split at h6
      · exact s_truth g.hK (s_mth0 h2 g.hK (okE r g hs h3) h4 h5) fun _ => rfl
      · cases h6
    · cases h
  | .rep _ _ _, _, _, _, _, _, _, h => by simp [ckT] at h
  | .tzip a b, e, W, X, sc, g, hs, h => by
    unfold ckT at h
    split at h
    · simp only [Bool.and_eq_true, decide_eq_true_eq, Bool.not_eq_true'] at h
      obtain ⟨⟨⟨⟨⟨⟨⟨⟨⟨h1, h2⟩, h3⟩, h4⟩, h5⟩, h6⟩, h7⟩, h8⟩, h9⟩, h10⟩ := h
      subst h1 h3
      exact s_truth g.hK (s_tzip g.hK g.calm (gl_of hs h2) (g.bi .tuple) (gl_of hs h4) g.zp (nb_of (okE a g hs h5) h9) (nb_of (okE b g hs h7) h10) h6 h8) fun _ => rfl
    · cases h
theorem okTl {se : Se} {c : Cn} {n : Nat} : ∀ (ir : E) (o : BoolOp) (es : List Expr) {W : WX} {X : Cx} {sc : Scope} {pos : Pos}, Good se c n W X → X.env.scope = sc → ckTl se sc o ir es = true → PW X (.BoolOp o es pos) (TTr c W ir)
  | .and2 a b, o, es, W, X, sc, pos, g, hs, h => by
    unfold ckTl at h
    split at h
    · simp only [Bool.and_eq_true, decide_eq_true_eq] at h
      obtain ⟨⟨h0, h1⟩, h2⟩ := h
      subst h0
      exact s_andT (okT a g hs h1) (pw_and1 (okT b g hs h2))
    · simp only [Bool.and_eq_true, decide_eq_true_eq] at h
      obtain ⟨⟨h0, h1⟩, h2⟩ := h
      subst h0
      exact s_andT (okT a g hs h1) (okTl b .And _ g hs h2)
    · cases h
  | .or2 a b, o, es, W, X, sc, pos, g, hs, h => by
    unfold ckTl at h
    split at h
    · simp only [Bool.and_eq_true, decide_eq_true_eq] at h
      obtain ⟨⟨h0, h1⟩, h2⟩ := h
      subst h0
      exact s_orT (okT a g hs h1) (pw_or1 (okT b g hs h2))
    · simp only [Bool.and_eq_true, decide_eq_true_eq] at h
      obtain ⟨⟨h0, h1⟩, h2⟩ := h
      subst h0
      exact s_orT (okT a g hs h1) (okTl b .Or _ g hs h2)
    · cases h
  | .var _, _, _, _, _, _, _, _, _, h => by simp [ckTl] at h
  | .lit _, _, _, _, _, _, _, _, _, h => by simp [ckTl] at h
  | .glob _ _, _, _, _, _, _, _, _, _, h => by simp [ckTl] at h
  | .bin _ _ _, _, _, _, _, _, _, _, _, h => by simp [ckTl] at h
  | .cmp _ _ _, _, _, _, _, _, _, _, _, h => by simp [ckTl] at h
  | .isN _ _, _, _, _, _, _, _, _, _, h => by simp [ckTl] at h
  | .chain _ _ _ _ _, _, _, _, _, _, _, _, _, h => by simp [ckTl] at h
  | .not1 _, _, _, _, _, _, _, _, _, h => by simp [ckTl] at h
  | .ifx _ _ _, _, _, _, _, _, _, _, _, h => by simp [ckTl] at h
  | .idx _ _, _, _, _, _, _, _, _, _, h => by simp [ckTl] at h
  | .sl _ _ _, _, _, _, _, _, _, _, _, h => by simp [ckTl] at h
  | .slS _ _ _, _, _, _, _, _, _, _, _, h => by simp [ckTl] at h
  | .tup _, _, _, _, _, _, _, _, _, h => by simp [ckTl] at h
  | .lst _, _, _, _, _, _, _, _, _, h => by simp [ckTl] at h
  | .dic0, _, _, _, _, _, _, _, _, h => by simp [ckTl] at h
  | .comp _ _ _ _, _, _, _, _, _, _, _, _, h => by simp [ckTl] at h
  | .call _ _, _, _, _, _, _, _, _, _, h => by simp [ckTl] at h
  | .bi _ _, _, _, _, _, _, _, _, _, h => by simp [ckTl] at h
  | .mth _ _ _, _, _, _, _, _, _, _, _, h => by simp [ckTl] at h
  | .isi _ _, _, _, _, _, _, _, _, _, h => by simp [ckTl] at h
  | .isx _ _, _, _, _, _, _, _, _, _, h => by simp [ckTl] at h
  | .tzip _ _, _, _, _, _, _, _, _, _, h => by simp [ckTl] at h
  | .rep _ _ _, _, _, _, _, _, _, _, _, h => by simp [ckTl] at h
theorem okEs {se : Se} {c : Cn} {n : Nat} : ∀ (l : Es) {es : List Expr} {b : Bool} {W : WX} {X : Cx} {sc : Scope}, Good se c n W X → X.env.scope = sc → ckEs se sc b l es = true → PA X es (TAr c W b l)
  | .nil, es, b, W, X, sc, g, hs, h => by
    unfold ckEs at h
    split at h
    · exact s_nil
    · cases h
  | .cons a l, es, b, W, X, sc, g, hs, h => by
    unfold ckEs at h
    split at h
    · simp only [Bool.and_eq_true, Bool.or_eq_true, Bool.not_eq_true'] at h
      obtain ⟨⟨⟨h1, h2⟩, h3⟩, h4⟩ := h
      refine s_cons ?_ (okEs l g hs h4) h2
      cases b with
      | true => exact TEr.up (okE a g hs h1)
      | false => exact nb_of (okE a g hs h1) (h3.elim (fun q => by cases q) id)
    · cases h
theorem okO {se : Se} {c : Cn} {n : Nat} : ∀ (o : OE) {e : Option Expr} {W : WX} {X : Cx} {sc : Scope}, Good se c n W X → X.env.scope = sc → ckO se sc o e = true → PO X e (TOr c W o)
  | .no, e, W, X, sc, g, hs, h => by
    unfold ckO at h
    split at h
    · exact s_no
    · cases h
  | .yes a, e, W, X, sc, g, hs, h => by
    unfold ckO at h
    split at h
    · exact s_yes (okE a g hs h)
    · cases h
theorem okC {se : Se} {c : Cn} {n : Nat} : ∀ (o : OE) {es : List Expr} {W : WX} {X : Cx} {sc : Scope}, Good se c n W X → X.env.scope = sc → ckC se sc o es = true → PTs X es (TKr c W o)
  | .no, es, W, X, sc, g, hs, h => by
    unfold ckC at h
    split at h
    · exact s_kno
    · cases h
  | .yes a, es, W, X, sc, g, hs, h => by
    unfold ckC at h
    split at h
    · exact s_kyes (okT a g hs h)
    · cases h
theorem okI {se : Se} {c : Cn} {n : Nat} : ∀ (it : I) {e tg : Expr} {W : WX} {X : Cx} {sc : Scope}, Good se c n W X → X.env.scope = sc → ckI se sc it e = true → ckIt it tg = true → PI X tg e (TIr c W (borI se it) it)
  | .e a, e, tg, W, X, sc, g, hs, h, ht => by
    unfold ckI at h
    exact s_Ie g.hK (okE a g hs h)
  | .rng1 a, e, tg, W, X, sc, g, hs, h, ht => by
    unfold ckI at h
    split at h
    · simp only [Bool.and_eq_true, decide_eq_true_eq, Bool.not_eq_true'] at h
      obtain ⟨⟨⟨⟨h1, h2⟩, h3⟩, h4⟩, h5⟩ := h
      subst h1
      exact s_I1 (gl_of hs h2) g.rng (nb_of (okE a g hs h3) h5) h4
    · cases h
  | .rng2 a b, e, tg, W, X, sc, g, hs, h, ht => by
    unfold ckI at h
    split at h
    · simp only [Bool.and_eq_true, decide_eq_true_eq, Bool.not_eq_true'] at h
      obtain ⟨⟨⟨⟨⟨⟨⟨h1, h2⟩, h3⟩, h4⟩, h5⟩, h6⟩, h7⟩, h8⟩ := h
      subst h1
      exact s_I2 (gl_of hs h2) g.rng (nb_of (okE a g hs h3) h7) (nb_of (okE b g hs h5) h8) h4 h6
    · cases h
  | .rev a, e, tg, W, X, sc, g, hs, h, ht => by
    unfold ckI at h
    split at h
    · simp only [Bool.and_eq_true, decide_eq_true_eq, Bool.not_eq_true'] at h
      obtain ⟨⟨⟨⟨h1, h2⟩, h3⟩, h4⟩, h5⟩ := h
      subst h1
      exact s_Irev g.hK (gl_of hs h2) g.rv (nb_of (okE a g hs h3) h5) h4
    · cases h
  | .enum a, e, tg, W, X, sc, g, hs, h, ht => by
    unfold ckI at h
    split at h
    · simp only [Bool.and_eq_true, decide_eq_true_eq, Bool.not_eq_true'] at h
      obtain ⟨⟨⟨⟨h1, h2⟩, h3⟩, h4⟩, h5⟩ := h
      subst h1
      cases tg with
      | Tuple es k p => exact s_Ienum g.hK (gl_of hs h2) g.en (nb_of (okE a g hs h3) h5) h4
      | _ => cases ht
    · cases h
  | .zip a b, e, tg, W, X, sc, g, hs, h, ht => by
    unfold ckI at h
    split at h
    · simp only [Bool.and_eq_true, decide_eq_true_eq, Bool.not_eq_true'] at h
      obtain ⟨⟨⟨⟨⟨⟨⟨h1, h2⟩, h3⟩, h4⟩, h5⟩, h6⟩, h7⟩, h8⟩ := h
      subst h1
      cases tg with
      | Tuple es k p => exact s_Izip g.hK (gl_of hs h2) g.zp (nb_of (okE a g hs h3) h7) (nb_of (okE b g hs h5) h8) h4 h6
      | _ => cases ht
    · cases h
  | .rng3 _ _ _, _, _, _, _, _, _, _, h, _ => by simp [ckI] at h
  | .keys _, _, _, _, _, _, _, _, h, _ => by simp [ckI] at h
  | .items _, _, _, _, _, _, _, _, h, _ => by simp [ckI] at h
  | .vals _, _, _, _, _, _, _, _, h, _ => by simp [ckI] at h
theorem okH {se : Se} {c : Cn} {n : Nat} : ∀ (ir : E) {e : Expr} {W : WX} {X : Cx} {sc : Scope}, Good se c n W X → X.env.scope = sc → ckH se sc ir e = true → PE1 X e (TEr c W false ir)
  | .bin o a b, e, W, X, sc, g, hs, h => by
    unfold ckH at h
    split at h
    · simp only [Bool.and_eq_true, decide_eq_true_eq, Bool.not_eq_true'] at h
      obtain ⟨⟨h1, h2⟩, h3⟩ := h
      subst h1
      exact pe1_add (nb_of (okE b g hs h2) h3)
    · cases h
  | .var _, _, _, _, _, _, _, h => by simp [ckH] at h
  | .lit _, _, _, _, _, _, _, h => by simp [ckH] at h
  | .glob _ _, _, _, _, _, _, _, h => by simp [ckH] at h
  | .cmp _ _ _, _, _, _, _, _, _, h => by simp [ckH] at h
  | .isN _ _, _, _, _, _, _, _, h => by simp [ckH] at h
  | .chain _ _ _ _ _, _, _, _, _, _, _, h => by simp [ckH] at h
  | .and2 _ _, _, _, _, _, _, _, h => by simp [ckH] at h
  | .or2 _ _, _, _, _, _, _, _, h => by simp [ckH] at h
  | .not1 _, _, _, _, _, _, _, h => by simp [ckH] at h
  | .ifx _ _ _, _, _, _, _, _, _, h => by simp [ckH] at h
  | .idx _ _, _, _, _, _, _, _, h => by simp [ckH] at h
  | .sl _ _ _, _, _, _, _, _, _, h => by simp [ckH] at h
  | .slS _ _ _, _, _, _, _, _, _, h => by simp [ckH] at h
  | .tup _, _, _, _, _, _, _, h => by simp [ckH] at h
  | .lst _, _, _, _, _, _, _, h => by simp [ckH] at h
  | .dic0, _, _, _, _, _, _, h => by simp [ckH] at h
  | .comp _ _ _ _, _, _, _, _, _, _, h => by simp [ckH] at h
  | .call _ _, _, _, _, _, _, _, h => by simp [ckH] at h
  | .bi _ _, _, _, _, _, _, _, h => by simp [ckH] at h
  | .mth _ _ _, _, _, _, _, _, _, h => by simp [ckH] at h
  | .isi _ _, _, _, _, _, _, _, h => by simp [ckH] at h
  | .isx _ _, _, _, _, _, _, _, h => by simp [ckH] at h
  | .tzip _ _, _, _, _, _, _, _, h => by simp [ckH] at h
  | .rep _ _ _, _, _, _, _, _, _, h => by simp [ckH] at h
theorem okR {se : Se} {c : Cn} {n : Nat} : ∀ (ir : E) {e : Expr} {W : WX} {X : Cx} {sc : Scope}, Good se c n W X → X.env.scope = sc → ckR se sc ir e = true → PET X e (TEr c W false ir)
  | .rep y z a, e, W, X, sc, g, hs, h => by
    unfold ckR at h
    split at h
    · simp only [Bool.and_eq_true, decide_eq_true_eq, Bool.not_eq_true'] at h
      obtain ⟨⟨⟨⟨⟨⟨⟨h1, h2⟩, h3⟩, h4⟩, h5⟩, h6⟩, h7⟩, h8⟩ := h
      subst h1 h2 h3
      exact s_repT (nb_of (okE a g hs h5) h6) h4 h7 h8
    · cases h
  | .var _, _, _, _, _, _, _, h => by simp [ckR] at h
  | .lit _, _, _, _, _, _, _, h => by simp [ckR] at h
  | .glob _ _, _, _, _, _, _, _, h => by simp [ckR] at h
  | .bin _ _ _, _, _, _, _, _, _, h => by simp [ckR] at h
  | .cmp _ _ _, _, _, _, _, _, _, h => by simp [ckR] at h
  | .isN _ _, _, _, _, _, _, _, h => by simp [ckR] at h
  | .chain _ _ _ _ _, _, _, _, _, _, _, h => by simp [ckR] at h
  | .and2 _ _, _, _, _, _, _, _, h => by simp [ckR] at h
  | .or2 _ _, _, _, _, _, _, _, h => by simp [ckR] at h
  | .not1 _, _, _, _, _, _, _, h => by simp [ckR] at h
  | .ifx _ _ _, _, _, _, _, _, _, h => by simp [ckR] at h
  | .idx _ _, _, _, _, _, _, _, h => by simp [ckR] at h
  | .sl _ _ _, _, _, _, _, _, _, h => by simp [ckR] at h
  | .slS _ _ _, _, _, _, _, _, _, h => by simp [ckR] at h
  | .tup _, _, _, _, _, _, _, h => by simp [ckR] at h
  | .lst _, _, _, _, _, _, _, h => by simp [ckR] at h
  | .dic0, _, _, _, _, _, _, h => by simp [ckR] at h
  | .comp _ _ _ _, _, _, _, _, _, _, h => by simp [ckR] at h
  | .call _ _, _, _, _, _, _, _, h => by simp [ckR] at h
  | .bi _ _, _, _, _, _, _, _, h => by simp [ckR] at h
  | .mth _ _ _, _, _, _, _, _, _, h => by simp [ckR] at h
  | .isi _ _, _, _, _, _, _, _, h => by simp [ckR] at h
  | .isx _ _, _, _, _, _, _, _, h => by simp [ckR] at h
  | .tzip _ _, _, _, _, _, _, _, h => by simp [ckR] at h
theorem okLT {se : Se} {c : Cn} {n : Nat} : ∀ (l : Es) {es : List Expr} {W : WX} {X : Cx} {sc : Scope}, Good se c n W X → X.env.scope = sc → ckLT se sc l es = true → PA X es (TAr c W false l)
  | .nil, _, _, _, _, _, _, h => by simp [ckLT] at h
  | .cons a l, es, W, X, sc, g, hs, h => by
    unfold ckLT at h
    split at h
    · simp only [Bool.and_eq_true] at h
      obtain ⟨⟨h1, h2⟩, h3⟩ := h
      exact s_cons1 (okH a g hs h1) (okET l g hs h3) h2
    · cases h
theorem okET {se : Se} {c : Cn} {n : Nat} : ∀ (l : Es) {es : List Expr} {W : WX} {X : Cx} {sc : Scope}, Good se c n W X → X.env.scope = sc → ckET se sc l es = true → PAT X es (TAr c W false l)
  | .nil, es, W, X, sc, g, hs, h => by
    unfold ckET at h
    split at h
    · exact s_nilT
    · cases h
  | .cons a l, es, W, X, sc, g, hs, h => by
    unfold ckET at h
    split at h
    · simp only [Bool.and_eq_true, Bool.or_eq_true, Bool.not_eq_true'] at h
      obtain ⟨⟨h1, h2⟩, h3⟩ := h
      rcases h1 with h1 | ⟨h1, h4⟩
      · exact s_consT (okR a g hs h1) (okET l g hs h3) h2
      · exact s_consT (CwR.PET.of (nb_of (okE a g hs h1) h4)) (okET l g hs h3) h2
    · cases h
end
end MP

set_option maxRecDepth 100000
set_option maxHeartbeats 8000000
set_option autoImplicit false
namespace MP
open PySem L2

/-! ### statements -/
def noCompB : Expr → Bool
  | .ListComp _ _ _ _ | .SetComp _ _ _ _ | .DictComp _ _ _ _ _ => false
  | _ => true
def isLC : Expr → Bool
  | .ListComp _ _ _ _ => true
  | _ => false
def isComp : E → Bool
  | .comp _ _ _ _ => true
  | _ => false
def swB (sc : Scope) (y : Str) (py : Pos) (scope : Scope) (pos : Pos) : Bool := lclB sc y && (py.line == pos.line) && !(scope.names.any fun (n, k) => n == y && (k == .local || k == .cell))
def noTupB : Expr → Bool
  | .Tuple _ _ _ => false
  | _ => true
def foldedB : Expr → Bool
  | .Tuple vs _ _ => vs.all (foldedForSure 8)
  | _ => false
theorem sw_none {v : Expr} {t : Option Expr} {l : Nat} {env : Env} (h : noCompB v = true) : swapsWith v t l env = pure false := by
  cases v <;> first | rfl | (simp [noCompB] at h)
theorem sw_eq {elt : Expr} {gs : List Comprehension} {scope sc : Scope} {pos py : Pos} {y : Str} {l : Nat} {env : Env} (hs : env.scope = sc) (hk : sc.kind = .function) : swapsWith (.ListComp elt gs scope pos) (some (.Name y py)) l env = pure (swB sc y py scope pos) := by
  have hb : env.blockKind = .function := by unfold Env.blockKind; rw [hs, hk]; rfl
  have e1 : (env.blockKind == .function) = true := by rw [hb]; rfl
  have e2 : (env.kindOf y == some .local) = lclB sc y := by
    show (env.scope.names.lookup y == some .local) = _
    rw [hs]
    unfold lclB
    cases sc.names.lookup y with
    | none => rfl
    | some k => cases k <;> rfl
  show (pure (env.blockKind == .function && env.kindOf y == some .local && py.line == pos.line && !(scope.names.any fun (n, k) => n == y && (k == .local || k == .cell))) : Sem Bool) = _
  rw [e1, e2, Bool.true_and]
  rfl
theorem sst_none {es : List Expr} {k : Nat} {p : Pos} {v : Expr} {env : Env} (h : noTupB v = true) : swappedStores [.Tuple es k p] v env = pure none := by
  cases v <;> first | rfl | (simp [noTupB] at h)
theorem sst_fold {es : List Expr} {k : Nat} {p : Pos} {v : Expr} {env : Env} (h : foldedB v = true) : swappedStores [.Tuple es k p] v env = pure none := by
  cases v with
  | Tuple vs k2 p2 =>
    have h' : vs.all (foldedForSure 8) = true := h
    unfold swappedStores
    simp only [h', if_true]
    repeat' split
    all_goals rfl
  | _ => simp [foldedB] at h
def starB : Expr → Bool
  | .Starred _ _ => true
  | _ => false
def par2B (sc : Scope) (x y : Str) (px py : Pos) (vs : List Expr) : Bool := lclB sc x && lclB sc y && (px.line == px.line) && (py.line == px.line) && !(x == y) && !(vs.any starB) && !(vs.all (foldedForSure 8)) && !(vs.all (constantsAlone 8)) && (vs.length == 2)
def par3B (sc : Scope) (x y z : Str) (px py pz : Pos) (vs : List Expr) : Bool := lclB sc x && lclB sc y && lclB sc z && (py.line == px.line) && (pz.line == px.line) && !(x == y) && !(x == z) && !(y == z) && !(vs.any starB) && !(vs.all (foldedForSure 8)) && !(vs.all (constantsAlone 8)) && (vs.length == 3)
theorem lcl_kind {sc : Scope} {x : Str} {env : Env} (hs : env.scope = sc) (h : lclB sc x = true) : (env.kindOf x == some .local) = true := by
  show (env.scope.names.lookup x == some .local) = true
  rw [hs]
  unfold lclB at h
  split at h
  · rename_i e
    rw [e]
    rfl
  · cases h
theorem fn_block {env : Env} {sc : Scope} (hs : env.scope = sc) (hk : sc.kind = .function) : (env.blockKind != .function) = false := by
  have hb : env.blockKind = .function := by unfold Env.blockKind; rw [hs, hk]; rfl
  rw [hb]
  rfl
theorem nostar {e : Expr} (h : starB e = false) : ¬ ((match (generalizing := false) e with | .Starred .. => true | _ => false) = true) := by
  intro q
  cases e <;> first | (cases q; done) | (cases h; done)
theorem sst2 {sc : Scope} {x y : Str} {px py pt pt2 : Pos} {kt k2 : Nat} {a b : Expr} {env : Env} (hs : env.scope = sc) (hk : sc.kind = .function) (h : par2B sc x y px py [a, b] = true) :
    swappedStores [.Tuple [.Name x px, .Name y py] kt pt] (.Tuple [a, b] k2 pt2) env = pure (some [x, y]) := by
  unfold par2B at h
  simp only [Bool.and_eq_true, Bool.not_eq_true'] at h
  obtain ⟨⟨⟨⟨⟨⟨⟨⟨h1, h2⟩, _⟩, h3⟩, h4⟩, h5⟩, h6⟩, h7⟩, _⟩ := h
  have e1 := lcl_kind hs h1
  have e2 := lcl_kind hs h2
  have e3 := fn_block hs hk
  have s1 : starB a = false := by simp at h5; exact h5.1
  have s2 : starB b = false := by simp at h5; exact h5.2
  have en : (y == x) = false := by rw [Bool.eq_false_iff] at h4 ⊢; exact fun q => h4 (by rw [eq_of_beq q]; exact beq_self_eq_true x)
  have e1 := eq_of_beq e1
  have e2 := eq_of_beq e2
  have h3 := eq_of_beq h3
  unfold swappedStores
  simp only [e3, h6, h7]
  simp [Expr.pos]
  rw [if_neg (by
    rintro (q | q)
    · exact nostar s1 q
    · exact nostar s2 q)]
  simp [List.filterMap, e1, e2, h3, List.eraseDups_cons, en]
theorem sst3 {sc : Scope} {x y z : Str} {px py pz pt pt2 : Pos} {kt k2 : Nat} {a b d : Expr} {env : Env} (hs : env.scope = sc) (hk : sc.kind = .function) (h : par3B sc x y z px py pz [a, b, d] = true) :
    swappedStores [.Tuple [.Name x px, .Name y py, .Name z pz] kt pt] (.Tuple [a, b, d] k2 pt2) env = pure (some [x, y, z]) := by
  unfold par3B at h
  simp only [Bool.and_eq_true, Bool.not_eq_true'] at h
  obtain ⟨⟨⟨⟨⟨⟨⟨⟨⟨⟨⟨h1, h2⟩, h21⟩, h3⟩, h31⟩, h4⟩, h41⟩, h42⟩, h5⟩, h6⟩, h7⟩, _⟩ := h
  have e1 := lcl_kind hs h1
  have e2 := lcl_kind hs h2
  have e21 := lcl_kind hs h21
  have e3 := fn_block hs hk
  have s1 : starB a = false := by simp at h5; exact h5.1
  have s2 : starB b = false := by simp at h5; exact h5.2.1
  have s3 : starB d = false := by simp at h5; exact h5.2.2
  have fl : ∀ {x y : Str}, (x == y) = false → (y == x) = false := fun {x y} h => by rw [Bool.eq_false_iff] at h ⊢; exact fun q => h (by rw [eq_of_beq q]; exact beq_self_eq_true _)
  have e1 := eq_of_beq e1
  have e2 := eq_of_beq e2
  have e21 := eq_of_beq e21
  have h3 := eq_of_beq h3
  have h31 := eq_of_beq h31
  unfold swappedStores
  simp only [e3, h6, h7]
  simp [Expr.pos]
  rw [if_neg (by
    rintro (q | q | q)
    · exact nostar s1 q
    · exact nostar s2 q
    · exact nostar s3 q)]
  simp [List.filterMap, e1, e2, e21, h3, h31, List.eraseDups_cons, fl h4, fl h41, fl h42]
end MP

set_option maxRecDepth 100000
set_option maxHeartbeats 8000000
set_option autoImplicit false
namespace MP
open PySem L2

/-! ### a, b = x, y -/
section
variable {X : Cx} {c : Cn} {W : WX} {f : Fr} {bb : Bool} {ea eb ec : E} {x y z : Expr} {pos : Pos} {st : Stmt}
theorem FOk.set1 {L : Lay} {m : Mu} {ρ : Env'} {σ : L2.St} {H : Hp} {i : Nat} {d : D} {v : V} (O : FO c f L m ρ σ H) (hi : c.own i = false) (r : Rep c.K (AL L) (hide (Bd (OG f.F c.own ρ σ) L) H) v d) :
    FO c f L m (ρ.set i (some d)) (σ.set i (some v)) H ∧ KG f.F c.own L ρ σ H L (ρ.set i (some d)) (σ.set i (some v)) H := by
  refine O.re (O.est.set hi r) fun j hj => ?_
  have hij : i ≠ j := fun e => by rw [e, hj] at hi; cases hi
  exact ⟨List.getElem?_set_ne hij, List.getElem?_set_ne hij⟩
theorem s_par2 {i j : Nat} {l : Es} (hi : c.own i = false) (hj : c.own j = false) (hz : l.len = 2) (hp : PS X st (tPar i j (TAr c W false l))) : PS X st (TSr c W f (.asg (.many [i, j]) (.tup l))) := ps_imp hp fun Z σ H h => by
  obtain ⟨L, m, ρ, O, h⟩ := h
  rw [evS, evE] at h
  have q := PstG.bind (PstS.ex O h)
  refine ⟨_, L, m, ρ, O.est, q.imp fun ds m1 H1 L1 e s1 ok1 q vs r => ?_⟩
  have hl : ds.length = 2 := by rw [evEs_len e, hz]
  obtain ⟨d1, d2, rfl⟩ : ∃ a b, ds = [a, b] := by
    match ds, hl with
    | [a, b], _ => exact ⟨a, b, rfl⟩
  have q1 : PstS c W f L1 ρ σ H1 Z (.nxt ((ρ.set i (some d1)).set j (some d2)) m1) := q H1 L1 (Stp.refl _ _) ok1
  have rr := r.reps
  cases rr with
  | cons r1 rr =>
    cases rr with
    | cons r2 rr =>
      cases rr
      obtain ⟨O1, k1⟩ := O.step s1 ok1
      obtain ⟨O2, k2⟩ := O1.set1 hi r1
      obtain ⟨O3, k3⟩ := O2.set1 hj (r2.mono k2.sm k2.al)
      exact ⟨_, _, rfl, q1 _ _ L1 O3 (k2.trans k3)⟩
theorem s_par3 {i j k : Nat} {l : Es} (hi : c.own i = false) (hj : c.own j = false) (hk : c.own k = false) (hz : l.len = 3) (hp : PS X st (tPar3 i j k (TAr c W false l))) : PS X st (TSr c W f (.asg (.many [i, j, k]) (.tup l))) := ps_imp hp fun Z σ H h => by
  obtain ⟨L, m, ρ, O, h⟩ := h
  rw [evS, evE] at h
  have q := PstG.bind (PstS.ex O h)
  refine ⟨_, L, m, ρ, O.est, q.imp fun ds m1 H1 L1 e s1 ok1 q vs r => ?_⟩
  have hl : ds.length = 3 := by rw [evEs_len e, hz]
  obtain ⟨d1, d2, d3, rfl⟩ : ∃ a b d, ds = [a, b, d] := by
    match ds, hl with
    | [a, b, d], _ => exact ⟨a, b, d, rfl⟩
  have q1 : PstS c W f L1 ρ σ H1 Z (.nxt (((ρ.set i (some d1)).set j (some d2)).set k (some d3)) m1) := q H1 L1 (Stp.refl _ _) ok1
  have rr := r.reps
  cases rr with
  | cons r1 rr =>
    cases rr with
    | cons r2 rr =>
      cases rr with
      | cons r3 rr =>
        cases rr
        obtain ⟨O1, k1⟩ := O.step s1 ok1
        obtain ⟨O2, k2⟩ := O1.set1 hi r1
        obtain ⟨O3, k3⟩ := O2.set1 hj (r2.mono k2.sm k2.al)
        obtain ⟨O4, k4⟩ := O3.set1 hk ((r3.mono k2.sm k2.al).mono k3.sm k3.al)
        exact ⟨_, _, _, rfl, q1 _ _ L1 O4 ((k2.trans k3).trans k4)⟩
end
/-! ### what is looked at -/
def isVar : E → Bool
  | .var _ => true
  | _ => false
def ckSw (se : Se) (sc : Scope) : Tgt → E → Expr → Expr → Bool
  | .one _, e, .Name _ _, v => noCompB v || (isComp e && isLC v)
  | .many [i, j], .tup l, .Tuple [.Name x px, .Name y py] _ _, .Tuple vs _ _ => vs.all (foldedForSure 8) || (par2B sc x y px py vs && !(i == j))
  | .many [i, j, k], .tup l, .Tuple [.Name x px, .Name y py, .Name z pz] _ _, .Tuple vs _ _ => vs.all (foldedForSure 8) || (par3B sc x y z px py pz vs && !(i == j) && !(i == k) && !(j == k))
  | .many _, _, .Tuple _ _ _, v => noCompB v && (noTupB v || foldedB v)
  | _, _, _, _ => false
def isFgt : MP.St → Bool
  | .fgt _ => true
  | _ => false
mutual
def ckS (se : Se) (sc : Scope) : MP.St → Stmt → Bool
  | .asg tg e, st => match st with
    | .Assign [t] v _ => ckTg se sc true tg t && ckE se sc e v && !bor se e && ckSw se sc tg e t v
    | _ => false
  | .own i e, st => match e, st with
    | .lst l, .Assign [.Name x _] (.List es _) _ => decide (se.N[i]? = some x) && locB sc x && se.ow i && ckEs se sc false l es && decide (l.len ≤ 1000)
    | .dic0, .Assign [.Name x _] (.Dict [] [] _) _ => decide (se.N[i]? = some x) && locB sc x && se.ow i
    | .bin .add (.var j) (.lst l), .Assign [.Name x _] (.BinOp y .Add z _) _ => decide (se.N[i]? = some x) && locB sc x && se.ow i && ckE se sc (.var j) y && ckE se sc (.lst l) z
    | _, _ => false
  | .aug i o e, st => match st with
    | .AugAssign (.Name x _) op v _ => decide (op = opOf o) && decide (se.N[i]? = some x) && locB sc x && !se.ow i && ckE se sc e v && !bor se e
    | _ => false
  | .setx _ _ _, _ => false
  | .app i e, st => match st with
    | .Expr (.Call (.Attribute (.Name x p) mn apos) [a] [] cpos) _ => decide (mn = "append") && (apos.endLine == cpos.line) && decide (se.N[i]? = some x) && visB sc x && plB x && se.ow i && ckE se sc e a && !bor se e && notStar a
    | _ => false
  | .drop e, st => match st with
    | .Expr v _ => ckE se sc e v && noCompB v
    | _ => false
  | .ret e, st => match st with
    | .Return (some v) _ => ckE se sc e v && (!bor se e || isVar e)
    | _ => false
  | .retN, st => match st with
    | .Return none _ => true
    | _ => false
  | .ifs e a b, st => match st with
    | .If t x y _ => ckT se sc e t && ckSs se sc a x && ckSs se sc b y
    | _ => false
  | .whl e b, st => match st with
    | .While t x [] _ => ckT se sc e t && ckSs se sc b x
    | _ => false
  | .fors tg it b, st => match st with
    | .For t iter x [] _ => ckTg se sc true tg t && ckI se sc it iter && ckIt it t && !borI se it && foldB iter && ckSs se sc b x
    | _ => false
  | .rais k, st => match st with
    | .Raise (some (.Call (.Name x _) [.Constant (.str _) _ _] [] _)) none _ => decide (x = exName k) && glB sc x && plB x && se.EX.contains k && !(k == 11)
    | _ => false
  | .tri b k sl s, st => match sl, s, st with
    | some i, .cons (.asg (.one j) (.var i2)) .nil, .Try body [.ExceptHandler (some (.Name x _)) (some n) [.Assign [.Name y _] (.Name n2 _) _] _] [] [] _ =>
      (i2 == i) && decide (se.N[i]? = some n) && lclB sc n && decide (x = exName k) && glB sc x && plB x && se.EX.contains k && decide (se.N[j]? = some y) && locB sc y && decide (n2 = n) && plB n && !se.ow i && !se.ow j && ckSs se sc b body
    | _, _, _ => false
  | .asgX i tg it b, st => match st with
    | .Assign [.Name y py] (.ListComp elt [⟨t, iter, [], a⟩] scope pos) _ => decide (a = 0) && decide (se.N[i]? = some y) && lclB sc y && !se.ow i && swB sc y py scope pos && ckTg se (relS scope sc) false tg t && ckI se sc it iter && ckIt it t && foldB iter && ckE se (relS scope sc) b elt && !bor se b && blkC se.N sc scope (ownOf se tg)
    | _ => false
  | .pas, st => match st with
    | .Pass _ => true
    | _ => false
  | .fgt _, _ => false
  | .wall, _ => true
def ckSs (se : Se) (sc : Scope) : MP.Sts → List Stmt → Bool
  | .nil, l => match l with
    | [] => true
    | _ => false
  | .cons s r, l => if isFgt s = true then ckSs se sc r l else match l with
    | st :: l => ckS se sc s st && ckSs se sc r l
    | _ => false
end
end MP

set_option maxRecDepth 100000
set_option maxHeartbeats 4000000
set_option autoImplicit false
namespace MP
open PySem L2 PySem.Spec PyProof.Rows

/-! ### x = [e for ..], a step may raise -/
theorem ps_setLcX {X : Cx} {W : WX} {i : Nat} {y : Str} {py : Pos} {elt tg iter : Expr} {ifs : List Expr} {scope : Scope} {own : List (Str × Nat)} {pos spos : Pos} {wi : TI} {g : TG} {tt : TT} {te : L2.St → TE} (hc : X.calm = true) (tk : Takes X W) (hst : X.stack = X.env :: X.outer) (hf : X.env.frame = some X.env.locals) (hN : X.N.Nodup)
    (hy : X.N[i]? = some y) (hyl : X.env.scope.names.lookup y = some .local) (hsw : swapsWith (.ListComp elt [⟨tg, iter, ifs, 0⟩] scope pos) (some (.Name y py)) spos.line X.env = pure true) (hi : PI X tg iter wi) (ok : BlkOk X.N X.env.scope scope own)
    (hg : ∀ (s : Shared) (H : Hp) (C : Addr) (cl : List (Str × Addr)) (fp : List Addr), PG (blkX X s H scope (compEnvC scope cl C X.env) fp) tg g) (ht : ∀ (s : Shared) (H : Hp) (C : Addr) (cl : List (Str × Addr)) (fp : List Addr), PTs (blkX X s H scope (compEnvC scope cl C X.env) fp) ifs tt)
    (he : ∀ (σ : L2.St) (s : Shared) (H : Hp) (C : Addr) (cl : List (Str × Addr)) (fp : List Addr), (∀ σ', PassesAt (L2.CX X.prog X.w) (blkX X s H scope (compEnvC scope cl C X.env) fp) σ' (fun cls d H => W cls d σ H)) → PE (blkX X s H scope (compEnvC scope cl C X.env) fp) elt (te σ)) (hs : ∀ x, foldedSetIterable iter X.env x = pure x) :
    PS X (.Assign [.Name y py] (.ListComp elt [⟨tg, iter, ifs, 0⟩] scope pos) spos) (fun D σ H => tLc wi g tt (te σ) (own.map (·.2)) σ H fun x H1 => gName i x σ H1 D.nx) := by
  refine ⟨fun pins s σ H D I h => ?_⟩
  rw [exec_Assign_Name_used _ _ _ _ hsw]
  refine wpAny_bind (wpAny_standAt (wpAny_bind ?_))
  show wpAny _ X.A (do let _ ← comprehension (.ListComp elt [⟨tg, iter, ifs, 0⟩] scope pos) scope X.env (firstIterPos [⟨tg, iter, ifs, 0⟩] pos) (newList []) false (eval iter X.env) (some (assign (.Name y py) X.env))) _ _ s
  refine wpAny_bind (thn (lc_coreX (Qf := fun _ s' => SP X pins D .next s') hc tk hst hf hN I hi ok hg ht he hs h fun L ce s' m H' I' q hn f => ?_) fun _ s' hq => wpAny_pure (wpAny_pure hq))
  show wpAny _ _ (assign (.Name y py) X.env (.ref L)) _ _ _
  refine wpAny_assign_Name (store_ok2 (v := V.ref L) I' hN hy (.inl hyl) rfl (fun s2 I2 ⟨a, sb, ha⟩ => ?_) (.inr hyl))
  obtain ⟨f0, f1, f2, f3, f4, f5⟩ := f
  have haC : ce.locals ≠ a := by
    rcases ha with z | z
    · rw [z]; exact f1
    · exact fun e => f4 y a z e.symm
  refine ⟨m, hn.sameBut sb haC, fun h3 sb3 => ?_⟩
  exact ⟨_, H', I2.turned (t' := s2.toks) (fun b o hb e => (sb3.2 b hb).trans e) f0 f1 f3 f4 f5, q⟩
section
variable {X : Cx} {c : Cn} {W : WX} {f : Fr} {bc : Bool} {ea : E}
/-- the wish of a step: by the slots of the def -/
abbrev Wd (W : WX) (σ : L2.St) : WX := fun cls d _ H => W cls d σ H
theorem turnsX_cons {f : D → Mu → Res D} {x : D} {xs : List D} {m : Mu} : turnsX f (x :: xs) m = (f x m).bind fun y m1 => (turnsX f xs m1).bind fun r m2 => .ok (y :: r) m2 := rfl
theorem compX_imp {q0 : List D → Mu → Hp → Lay → Prop} {Q : VK} {tgt : Tgt} {it : I} {own : List (Str × Nat)} (hv : own.map (·.2) = tgt.slots) (ho : ∀ i ∈ tgt.slots, c.own i = false) {G : Addr → Prop} {L : Lay} {m : Mu} {ρ : Env'} (σ : L2.St) (H : Hp) (E : ESt c.K c.own G L m ρ σ H)
    (h : PstG c W G L σ H q0 ((evI c.cfg it ρ m).bind fun xs m1 => turnsX (stepX c.cfg tgt ea ρ) xs m1))
    (hq : ∀ (ys : List D) (m' : Mu) (H' : Hp) (L' : Lay) (v : V), ESt c.K c.own G L' m' ρ σ H' → Stp L L' H H' → q0 ys m' H' L' → Rep c.K (AL L') (hide (Bd G L') H') v (.lst ys) → Q v H') :
    tLc (TIr c W bc it) (TGr c.K tgt) tYes (TEr c (Wd W σ) false ea) (own.map (·.2)) σ H Q := by
  rw [hv]
  refine ⟨G, L, m, ρ, E, (PstG.bind h).imp fun xs m1 H1 L1 e1 s1 ok1 q J src => fun Dl hD => ?_⟩
  have E1 := E.step s1 ok1
  generalize hf : stepX c.cfg tgt ea ρ = f at q
  -- the state that all turns bear
  have Ew : ESt c.K c.own G L1 m1 (wipeE ρ tgt.slots) (L2.wipe σ tgt.slots) H1 := E1.wipe
  have hown : ∀ (i : Nat) (d : D), c.own i = true → (wipeE ρ tgt.slots)[i]? = some (some d) → (L2.wipe σ tgt.slots)[i]? ≠ some (some (.ref Dl)) := fun i d q1 q2 q3 => by
    obtain ⟨v, h1, _, h3⟩ := Ew.slot i d q2
    obtain ⟨a, e, g, _⟩ := h3 q1
    rw [h1, e] at q3
    cases q3
    obtain ⟨⟨o, h⟩, _⟩ := Ew.gok _ g
    rw [hD] at h
    cases h
  refine ⟨fun i n H' => n = xs.length - i ∧ i ≤ xs.length ∧ ∃ (L' : Lay) (m' : Mu) (acc : List D) (vacc : List V), ESt c.K c.own (fun a => G a ∨ a = Dl) L' m' (wipeE ρ tgt.slots) (L2.wipe σ tgt.slots) H' ∧ Stp L1 L' H1 H' ∧
      H' Dl = some (.lst vacc) ∧ Reps c.K (AL L') (hide (Bd (fun a => G a ∨ a = Dl) L') H') vacc acc ∧ acc.length ≤ i ∧ turnsX f xs m1 = (turnsX f (xs.drop i) m').bind (fun ys m2 => .ok (acc ++ ys) m2) ∧ Same (hide (Bd G L1) H1) (hide (Bd (fun a => G a ∨ a = Dl) L') H') ∧ (∀ a o, G a → H1 a = some o → H' a = some o), ⟨_, rfl, Nat.zero_le _, L1, m1, [], [], (Ew.guard hD).1, Stp.upd hD, upd_same, .nil, Nat.zero_le _, by
      rw [List.drop_zero]
      cases turnsX f xs m1 <;> rfl, (Ew.guard hD).2, fun a o g h => by
      rw [upd_ne (ne_of_none h hD)]
      exact h⟩, ?_⟩
  rintro i n H' ⟨rfl, hle, L', m', acc, vacc, E', st, hDl, racc, hacc, hcat, sm, kG⟩
  have PP : PPr bc G (AL L1) (hide (Bd G L1) H1) H1 (AL L') (hide (Bd (fun a => G a ∨ a = Dl) L') H') H' := ⟨sm, st.al, hide_sub, fun _ => kG⟩
  by_cases hlt : i < xs.length
  · right
    refine ⟨src.go _ _ _ i PP hlt, fun H3 => ∃ n', n' = xs.length - (i + 1) ∧ i + 1 ≤ xs.length ∧ ∃ (L' : Lay) (m' : Mu) (acc : List D) (vacc : List V), ESt c.K c.own (fun a => G a ∨ a = Dl) L' m' (wipeE ρ tgt.slots) (L2.wipe σ tgt.slots) H3 ∧ Stp L1 L' H1 H3 ∧
      H3 Dl = some (.lst vacc) ∧ Reps c.K (AL L') (hide (Bd (fun a => G a ∨ a = Dl) L') H3) vacc acc ∧ acc.length ≤ i + 1 ∧ turnsX f xs m1 = (turnsX f (xs.drop (i + 1)) m').bind (fun ys m2 => .ok (acc ++ ys) m2) ∧ Same (hide (Bd G L1) H1) (hide (Bd (fun a => G a ∨ a = Dl) L') H3) ∧ (∀ a o, G a → H1 a = some o → H3 a = some o), fun H3 ⟨n', h1, h2⟩ => ⟨n', by omega, h1, h2⟩, fun x H2 y => ?_⟩
    obtain ⟨d, hd, yl⟩ := src.yld _ _ _ i x H2 PP hlt y
    obtain ⟨sm2, rd⟩ := yl.told E'
    have st2 : Stp L' L' H' H2 := Stp.same sm2
    have E2 : ESt c.K c.own (fun a => G a ∨ a = Dl) L' m' (wipeE ρ tgt.slots) (L2.wipe σ tgt.slots) H2 := E'.step st2 (E'.sok.same sm2)
    have hdrop : xs.drop i = d :: xs.drop (i + 1) := by
      rw [List.drop_eq_getElem_cons hlt]
      have : xs[i] = d := by
        have := List.getElem?_eq_getElem hlt
        rw [hd] at this
        exact (Option.some.inj this).symm
      rw [this]
    rw [hdrop, turnsX_cons] at hcat
    have hfd : f d m' = match bindT tgt d (wipeE ρ tgt.slots) with
      | some ρ' => evE c.cfg ea ρ' m'
      | none => .stuck := by rw [← hf]; rfl
    cases hb : bindT tgt d (wipeE ρ tgt.slots) with
    | none =>
      rw [hb] at hfd
      rw [hfd] at hcat
      rw [hcat] at q
      exact (show False from q).elim
    | some ρ' =>
      rw [hb] at hfd
      refine E2.bind rd ho hb fun σ' E3 hw _ => ⟨by rw [hw _ (fun _ h => h), wipe_idem], ?_⟩
      unfold tYes
      refine iteT ?_
      refine ⟨_, L', m', ρ', E3, ?_⟩
      have hfd' : f d m' = evE c.cfg ea ρ' m' := hfd
      cases hy : evE c.cfg ea ρ' m' with
      | stuck =>
        rw [hfd', hy] at hcat
        rw [hcat] at q
        exact (show False from q).elim
      | err k m4 =>
        rw [hfd', hy] at hcat
        have hcat' : turnsX f xs m1 = .err k m4 := hcat
        rw [hcat'] at q
        intro H5 L5 s5 ok5
        have stC : Stp L1 L5 H1 H5 := st.trans (st2.trans s5)
        refine q H5 L5 stC (ok5.own fun a o ng h => ⟨fun g => ng (.inl g), h⟩)
      | ok yd m4 =>
        rw [hfd', hy, Res.bind_ok] at hcat
        intro H5 L5 s5 ok5 v rv
        have stC : Stp L' L5 H' H5 := st2.trans s5
        have E5w := E'.step stC ok5
        have kD5 : H5 Dl = some (.lst vacc) := stC.keep Dl _ (E'.gok Dl (.inr rfl)).2 hDl
        obtain ⟨E6, sm6⟩ := E5w.rewrite (o := .lst (vacc ++ [v])) hown
        refine ⟨vacc, kD5, ?_, ?_⟩
        · rw [racc.length]
          have := src.len
          omega
        · refine ⟨_, rfl, by omega, L5, _, acc ++ [yd], vacc ++ [v], E6, ?_, upd_same, ?_, ?_, ?_, ?_, ?_⟩
          · have stD : Stp L1 L5 H1 H5 := st.trans stC
            refine ⟨fun a o nf h => ?_, stD.new, fun a o h => ?_, stD.al⟩
            · rw [upd_ne (ne_of_none h hD)]
              exact stD.keep a o nf h
            · rw [upd_ne (ne_of_none h hD)]
              exact stD.stay a o h
          · exact ((racc.mono stC.hid stC.al).mono sm6 fun _ _ h => h).append (.cons (rv.rep.mono sm6 fun _ _ h => h) .nil)
          · rw [List.length_append, List.length_singleton]
            omega
          · rw [hcat]
            cases turnsX f (xs.drop (i + 1)) m4 with
            | ok r m5 =>
              show Res.ok (acc ++ (yd :: r)) m5 = .ok (acc ++ [yd] ++ r) m5
              rw [List.append_assoc]; rfl
            | err k m5 => rfl
            | stuck => rfl
          · exact fun a o h => sm6 a o (stC.hid a o (sm a o h))
          · intro a o g h
            rw [upd_ne (ne_of_none h hD)]
            exact stC.keep a o (E'.gok a (.inl g)).2 (kG a o g h)
  · left
    refine ⟨src.stop _ _ _ i PP (by omega), ?_⟩
    rw [List.drop_eq_nil_of_le (by omega)] at hcat
    have hcat' : turnsX f xs m1 = .ok (acc ++ []) m' := hcat
    rw [List.append_nil] at hcat'
    rw [hcat'] at q
    have nD : ¬ Bd G L' Dl := fun z => by
      rcases z with z | z
      · obtain ⟨⟨o, h⟩, _⟩ := E1.gok Dl z
        rw [hD] at h
        cases h
      · exact (E'.gok Dl (.inr rfl)).2 z
    have smB : Same (hide (Bd (fun a => G a ∨ a = Dl) L') H') (hide (Bd G L') H') := hide_same fun a o nb h => ⟨fun z => nb (z.elim (fun g => .inl (.inl g)) .inr), h⟩
    have okG : SOk c.K G L' m' H' := E'.sok.own fun a o ng h => ⟨fun g => ng (.inl g), h⟩
    refine hq acc m' H' L' _ (E1.step st okG) (s1.trans st) (q H' L' st okG) (.lst (.inl (.inl (hide_of nD hDl))) (racc.mono smB fun _ _ h => h) ?_)
    have := src.len
    omega
theorem s_asgX {i : Nat} {y : Str} {py : Pos} {tgt : Tgt} {it : I} {elt tg iter : Expr} {scope : Scope} {own : List (Str × Nat)} {pos spos : Pos} (hK : c.K = X.K) (hyo : c.own i = false) (ho : ∀ i ∈ tgt.slots, c.own i = false) (hv : own.map (·.2) = tgt.slots)
    (hc : X.calm = true) (tk : Takes X W) (hst : X.stack = X.env :: X.outer) (hf : X.env.frame = some X.env.locals) (hN : X.N.Nodup) (hy : X.N[i]? = some y) (hyl : X.env.scope.names.lookup y = some .local)
    (hsw : swapsWith (.ListComp elt [⟨tg, iter, [], 0⟩] scope pos) (some (.Name y py)) spos.line X.env = pure true) (hi : PI X tg iter (TIr c W bc it)) (ok : BlkOk X.N X.env.scope scope own)
    (hg : ∀ (s : Shared) (H : Hp) (C : Addr) (cl : List (Str × Addr)) (fp : List Addr), PG (blkX X s H scope (compEnvC scope cl C X.env) fp) tg (TGr c.K tgt))
    (he : ∀ (σ : L2.St) (s : Shared) (H : Hp) (C : Addr) (cl : List (Str × Addr)) (fp : List Addr), (∀ σ', PassesAt (L2.CX X.prog X.w) (blkX X s H scope (compEnvC scope cl C X.env) fp) σ' (fun cls d H => W cls d σ H)) → PE (blkX X s H scope (compEnvC scope cl C X.env) fp) elt (TEr c (Wd W σ) false ea)) (hs : ∀ x, foldedSetIterable iter X.env x = pure x) :
    PS X (.Assign [.Name y py] (.ListComp elt [⟨tg, iter, [], 0⟩] scope pos) spos) (TSr c W f (.asgX i tgt it ea)) :=
  ps_imp (ps_setLcX (te := fun σ => TEr c (Wd W σ) false ea) hc tk hst hf hN hy hyl hsw hi ok hg (fun _ _ _ _ _ => pts_nil) he hs) fun Z σ H h => by
    obtain ⟨L, m, ρ, O, h⟩ := h
    rw [evS] at h
    have h' : PstG c W (OG f.F c.own ρ σ) L σ H (fun ys m' H' L' => PstS c W f L' ρ σ H' Z (if i < ρ.length then .nxt (ρ.set i (some (.lst ys))) m' else .stuck)) ((evI c.cfg it ρ m).bind fun xs m1 => turnsX (stepX c.cfg tgt ea ρ) xs m1) := by
      have q1 := PstS.ex O h
      cases hx : evI c.cfg it ρ m with
      | stuck => rw [hx] at q1; exact q1
      | err k m1 => rw [hx] at q1; exact q1
      | ok xs m1 =>
        rw [hx] at q1
        rw [Res.bind_ok]
        have q2 : PstS c W f L ρ σ H Z ((turnsX (stepX c.cfg tgt ea ρ) xs m1).fl ρ fun ys m2 => if i < ρ.length then .nxt (ρ.set i (some (.lst ys))) m2 else .stuck) := by
          rw [hx] at h
          exact h
        exact PstS.ex O q2
    refine compX_imp hv ho σ H O.est h' fun ys m' H' L' v E' st q r => ?_
    have OK := O.step st E'.sok
    by_cases hl : i < ρ.length
    · rw [if_pos hl] at q
      obtain ⟨O1, k1⟩ := OK.1.set1 (i := i) hyo r
      exact q _ _ L' O1 k1
    · rw [if_neg hl] at q
      exact (show False from q).elim
end
end MP

set_option maxRecDepth 100000
set_option maxHeartbeats 8000000
set_option autoImplicit false
namespace MP
open PySem L2
section
variable {EX : List Nat} {X : Cx} {c : Cn} {W : WX} {f : Fr} {st : Stmt}
theorem FOk.clr1 {L : Lay} {m : Mu} {ρ : Env'} {σ : L2.St} {H : Hp} {i : Nat} (O : FO c f L m ρ σ H) (hi : c.own i = false) :
    FO c f L m (ρ.set i none) (σ.set i none) H ∧ KG f.F c.own L ρ σ H L (ρ.set i none) (σ.set i none) H := by
  refine O.re ⟨O.est.gok, O.est.sok, by rw [List.length_set, List.length_set, O.est.len], fun j d hj => ?_⟩ fun j hj => ?_
  · by_cases hij : i = j
    · subst hij
      rw [List.getElem?_set] at hj
      simp at hj
    · rw [List.getElem?_set_ne hij] at hj
      rw [List.getElem?_set_ne hij]
      exact O.est.slot j d hj
  · have hij : i ≠ j := fun e => by rw [e, hj] at hi; cases hi
    exact ⟨List.getElem?_set_ne hij, List.getElem?_set_ne hij⟩
/-- the suite x = e -/
def tKeep (i j : Nat) (a : Addr) (_ : Value) : TS := fun D σ H => σ[i]? = some (some (.ref a)) ∧ D.nx (σ.set j (some (.ref a))) H
theorem s_tri_keep {b : MP.Sts} {k i j : Nat} (hK : c.K = X.K) (F : ExFacts EX X.K X.mg c.cls c.cfg.sub) (hi : c.own i = false) (hj : c.own j = false)
    (hp : PS X st (fun Z σ H => TSsr c (wKeep X.K (c.cls k) i (tKeep i j) W Z) f b Z σ H)) : PS X st (TSr c W f (.tri b k (some i) (.cons (.asg (.one j) (.var i)) .nil))) := ps_imp hp fun Z σ H h => by
  obtain ⟨L, m, ρ, O, h⟩ := h
  rw [evS] at h
  refine ⟨L, m, ρ, O, ?_⟩
  revert h
  cases hb : evSs c.cfg b ρ m with
  | nxt ρ1 m1 => exact fun h => h
  | ret d m1 => exact fun h => h
  | stuck => exact fun h => h
  | err c' ρ1 m1 =>
    intro h σ' H' L' O' kg
    simp only [] at h
    cases hs : c.cfg.sub c' k with
    | none => rw [hs] at h; exact (show False from h).elim
    | some t =>
      rw [hs] at h
      obtain ⟨⟨DA, e, C⟩, hc, hk1, hk2⟩ := F.pair c' k t hs
      refine ⟨t, hk2, fun ht => ⟨rfl, fun a na => ?_⟩, fun ht => ?_⟩
      · subst ht
        simp only [] at h
        have hiσ : i < ρ1.length := by
          rcases Nat.lt_or_ge i ρ1.length with q | q
          · exact q
          · exfalso
            rw [evSs, evS, evE, List.getElem?_eq_none (by rw [List.length_set]; exact q)] at h
            exact h
        have g0 : (ρ1.set i (some (MP.D.exc c')))[i]? = some (some (MP.D.exc c')) := List.getElem?_set_self hiσ
        rw [evSs, evS, evE, g0] at h
        simp only [Res.fl_ok, bindT, evSs] at h
        refine ⟨List.getElem?_set_self (by rw [← O'.est.len]; exact hiσ), ?_⟩
        have nb := O'.est.nb O'.est.sok.foot na
        obtain ⟨O1, k1⟩ := O'.step (Stp.upd (o := ExI (c.cls c') a) na) (O'.est.sok.upd na)
        have r1 : Rep c.K (AL L') (hide (Bd (OG f.F c.own ρ1 σ') L') (L2.upd H' a (ExI (c.cls c') a))) (.ref a) (.exc c') := .exc (by rw [hK]; exact hc) (Rep.new na nb)
        obtain ⟨O2, k2⟩ := O1.set1 hi r1
        have r2 := r1.mono k2.sm k2.al
        obtain ⟨O3, k3⟩ := O2.set1 hj r2
        obtain ⟨O4, k4⟩ := O3.clr1 hi
        exact h _ _ L' O4 ((((kg.trans k1).trans k2).trans k3).trans k4)
      · subst ht
        exact h σ' H' L' O' kg
end
end MP

set_option maxRecDepth 100000
set_option maxHeartbeats 8000000
set_option autoImplicit false
namespace MP
open PySem L2

structure GS (se : Se) (c : Cn) (n : Nat) (W : WX) (X : Cx) (sc : Scope) : Prop where
  g : Good se c n W X
  hs : X.env.scope = sc
  fn : ∀ x, X.fn x = true
  po : PassesOwn (model X.prog X.w) X.A X.env X.xe
  kd : sc.kind = .function
  st : X.stack = X.env :: X.outer
  fr : X.env.frame = some X.env.locals
  ex : X.ex = []
  tk : Takes X W
theorem GS.tr {se : Se} {c : Cn} {n : Nat} {W W' : WX} {X : Cx} {sc : Scope} (q : GS se c n W X sc) {pn : List (Addr × Obj)} {xe : Value → Shared → Prop} (tk : Takes (X.tr pn xe) W') (po : PassesOwn (model X.prog X.w) X.A X.env xe) : GS se c n W' (X.tr pn xe) sc :=
  ⟨⟨q.g.hK, q.g.calm, q.g.hN, q.g.nd, q.g.own, q.g.room, q.g.bi, q.g.ty, q.g.isi, q.g.rng, q.g.zp, q.g.en, q.g.rv, fun σ => passAt tk σ, q.g.fns, q.g.gcs, q.g.exf⟩, q.hs, q.fn, po, q.kd, q.st, q.fr, q.ex, tk⟩
section
variable {se : Se} {c : Cn} {n : Nat} {W : WX} {X : Cx} {sc : Scope} {f : Fr}
theorem nd_of (g : Good se c n W X) : X.N.Nodup := by rw [g.hN]; exact g.nd
theorem ix_ne {l : List Str} {i j : Nat} {x : Str} (h : (i == j) = false) : i ≠ j := fun e => by
  rw [e, beq_self_eq_true] at h
  cases h
theorem sws {t v : Expr} {l : Nat} {env : Env} (h : noCompB v = true) : swapsWithSole [t] v l env = pure false := sw_none (t := some t) h
theorem pe_weak {b : Bool} {ir : E} {e : Expr} (h : PE X e (TEr c W b ir)) : PE X e (TEr c W true ir) := pe_imp h fun σ H Q q => by
  obtain ⟨G, L, m, ρ, E, q⟩ := q
  refine ⟨G, L, m, ρ, E, q.imp fun d m1 H1 L1 e s ok k v r => k v ?_⟩
  cases b with
  | false => exact r.weak
  | true => exact r
theorem ok_asg (q : GS se c n W X sc) {tg : Tgt} {e : E} {t v : Expr} {pos : Pos} (h1 : ckTg se sc true tg t = true) (h2 : ckE se sc e v = true) (h3 : bor se e = false) (h4 : ckSw se sc tg e t v = true) : PS X (.Assign [t] v pos) (TSr c W f (.asg tg e)) := by
  have g := q.g
  have hs := q.hs
  obtain ⟨pg, ho⟩ := tg_of g hs (fnAll := true) (fun _ => q.fn) h1
  have hN : X.N.Nodup := nd_of g
  have pe : PE X v (TEr c W false e) := nb_of (okE e g hs h2) h3
  unfold ckSw at h4
  split at h4
  · -- a name
    rename_i i x p
    have hl : X.N[i]? = some x ∧ Loc X.env.scope x := by
      have h1' : (decide (se.N[i]? = some x) && locB sc x && !se.ow i) = true := h1
      simp only [Bool.and_eq_true, decide_eq_true_eq] at h1'
      exact ⟨by rw [g.hN]; exact h1'.1.1, loc_of hs h1'.1.2⟩
    rw [Bool.or_eq_true] at h4
    rcases h4 with h4 | h4
    · exact s_asg ho (ps_set hN hl.1 hl.2 pe (sw_none h4) (.inl (q.fn x)))
    · rw [Bool.and_eq_true] at h4
      obtain ⟨hC, hL⟩ := h4
      cases e with
      | comp tg it cn b =>
        cases v with
        | ListComp elt gs scope pos2 =>
          cases hw : swB sc x p scope pos2 with
          | false => exact s_asg ho (ps_set hN hl.1 hl.2 pe (by rw [sw_eq hs q.kd, hw]) (.inl (q.fn x)))
          | true =>
            unfold ckE at h2
            split at h2
            · rename_i t2 iter2 ifs2 a2 scope2 pos3 he
              cases he
              simp only [Bool.and_eq_true, Bool.not_eq_true', decide_eq_true_eq] at h2
              obtain ⟨⟨⟨⟨⟨⟨⟨⟨h0, h1⟩, h2⟩, h2t⟩, h3⟩, h4⟩, h5⟩, h6⟩, h7⟩ := h2
              subst h0
              have blk := fun (s : Shared) (H : Hp) (C : Addr) (cl : List (Str × Addr)) (fp : List Addr) => (g.blk s H scope (compEnvC scope cl C X.env) fp)
              have lx : lclB sc x = true := by
                unfold swB at hw
                simp only [Bool.and_eq_true] at hw
                exact hw.1.1
              refine s_asg ho (ps_imp (ps_setLc (wi := TIr c W (borI se it) it) (g := TGr c.K tg) (tt := TKr c W0 cn) (te := TEr c W0 false b) g.calm hN hl.1 (lcl_of hs lx) (by rw [sw_eq hs q.kd, hw]) (okI it g hs h2 h2t) (by rw [g.hN, hs]; exact blkOk_by h7) (fun s H C cl fp => ?_) (fun s H C cl fp => ?_) (fun s H C cl fp => ?_) (fold_of h3)) fun Z σ H w => ?_)
              · exact (tg_of (blk s H C cl fp) (by rw [← hs]; rfl) (fun q => by cases q) h1).1
              · exact okC cn (blk s H C cl fp) (by rw [← hs]; rfl) h4
              · exact nb_of (okE b (blk s H C cl fp) (by rw [← hs]; rfl) h5) h6
              · exact comp_imp (ownOf_snd tg) (fun i hi => by rw [g.own]; exact tg_own h1 i hi) σ H _ w
            · cases h2
        | _ => cases hL
      | _ => cases hC
  · -- two at once
    rename_i i j l x px y py kt pt vs k2 pt2
    have two := h1
    have h1' : (decide (se.N[i]? = some x) && (if true = true then locB sc x else lclB sc x) && !se.ow i && (decide (se.N[j]? = some y) && (if true = true then locB sc y else lclB sc y) && !se.ow j && true)) = true := h1
    simp only [Bool.and_eq_true, decide_eq_true_eq] at h1'
    rw [Bool.or_eq_true] at h4
    rcases h4 with h4 | h4
    · exact s_asg ho (ps_asg pe pg (sws rfl) (sst_fold h4) rfl)
    · simp only [Bool.and_eq_true, Bool.not_eq_true'] at h4
      obtain ⟨h5, h6⟩ := h4
      have h5' := h5
      unfold par2B at h5'
      simp only [Bool.and_eq_true, Bool.not_eq_true'] at h5'
      obtain ⟨⟨⟨⟨⟨⟨⟨⟨e1, e2⟩, _⟩, _⟩, _⟩, _⟩, _⟩, _⟩, e3⟩ := h5'
      obtain ⟨a, b, rfl⟩ : ∃ a b, vs = [a, b] := by
        match vs, eq_of_beq e3 with
        | [a, b], _ => exact ⟨a, b, rfl⟩
      have h2' : (ckEs se sc false l [a, b] && decide (l.len ≤ 1000)) = true := by unfold ckE at h2; exact h2
      rw [Bool.and_eq_true] at h2'
      have hl : l.len = 2 := by
        have : ckEs se sc false l [a, b] = true := h2'.1
        cases l with
        | nil => simp [ckEs] at this
        | cons a l =>
          cases l with
          | nil => simp [ckEs] at this
          | cons a l =>
            cases l with
            | nil => rfl
            | cons a l => simp [ckEs] at this
      refine s_par2 (ho i (by simp [Tgt.slots])) (ho j (by simp [Tgt.slots])) hl (ps_par g.calm hN (by rw [g.hN]; exact h1'.1.1.1) (by rw [g.hN]; exact h1'.2.1.1.1) (ix_ne (l := []) (x := "") h6) (lcl_of hs e1) (lcl_of hs e2) (okEs l g hs h2'.1) (sst2 hs q.kd h5) rfl)
  · -- three at once
    rename_i i j k l x px y py z pz kt pt vs k2 pt2
    have h1' : (decide (se.N[i]? = some x) && (if true = true then locB sc x else lclB sc x) && !se.ow i && (decide (se.N[j]? = some y) && (if true = true then locB sc y else lclB sc y) && !se.ow j && (decide (se.N[k]? = some z) && (if true = true then locB sc z else lclB sc z) && !se.ow k && true))) = true := h1
    simp only [Bool.and_eq_true, decide_eq_true_eq] at h1'
    rw [Bool.or_eq_true] at h4
    rcases h4 with h4 | h4
    · exact s_asg ho (ps_asg pe pg (sws rfl) (sst_fold h4) rfl)
    · simp only [Bool.and_eq_true, Bool.not_eq_true'] at h4
      obtain ⟨⟨⟨h5, h6⟩, h7⟩, h8⟩ := h4
      have h5' := h5
      unfold par3B at h5'
      simp only [Bool.and_eq_true, Bool.not_eq_true'] at h5'
      obtain ⟨⟨⟨⟨⟨⟨⟨⟨⟨⟨⟨e1, e2⟩, e4⟩, _⟩, _⟩, _⟩, _⟩, _⟩, _⟩, _⟩, _⟩, e3⟩ := h5'
      obtain ⟨a, b, d, rfl⟩ : ∃ a b d, vs = [a, b, d] := by
        match vs, eq_of_beq e3 with
        | [a, b, d], _ => exact ⟨a, b, d, rfl⟩
      have h2' : (ckEs se sc false l [a, b, d] && decide (l.len ≤ 1000)) = true := by unfold ckE at h2; exact h2
      rw [Bool.and_eq_true] at h2'
      have hl : l.len = 3 := by
        have : ckEs se sc false l [a, b, d] = true := h2'.1
        cases l with
        | nil => simp [ckEs] at this
        | cons a l =>
          cases l with
          | nil => simp [ckEs] at this
          | cons a l =>
            cases l with
            | nil => simp [ckEs] at this
            | cons a l =>
              cases l with
              | nil => rfl
              | cons a l => simp [ckEs] at this
      refine s_par3 (ho i (by simp [Tgt.slots])) (ho j (by simp [Tgt.slots])) (ho k (by simp [Tgt.slots])) hl (ps_par3 g.calm hN (by rw [g.hN]; exact h1'.1.1.1) (by rw [g.hN]; exact h1'.2.1.1.1) (by rw [g.hN]; exact h1'.2.2.1.1.1) (ix_ne (l := []) (x := "") h6) (ix_ne (l := []) (x := "") h7) (ix_ne (l := []) (x := "") h8) (lcl_of hs e1) (lcl_of hs e2) (lcl_of hs e4) (okEs l g hs h2'.1) (sst3 hs q.kd h5) rfl)
  · rw [Bool.and_eq_true, Bool.or_eq_true] at h4
    rcases h4.2 with h5 | h5
    · exact s_asg ho (ps_asg pe pg (sws h4.1) (sst_none h5) rfl)
    · exact s_asg ho (ps_asg pe pg (sws h4.1) (sst_fold h5) rfl)
  · cases h4
end
mutual
theorem okS {se : Se} {c : Cn} {n : Nat} {f : Fr} : ∀ (s : MP.St) {st : Stmt} {W : WX} {X : Cx} {sc : Scope}, GS se c n W X sc → ckS se sc s st = true → PS X st (TSr c W f s)
  | .asg tg e, st, W, X, sc, q, h => by
    unfold ckS at h
    split at h
    · simp only [Bool.and_eq_true, Bool.not_eq_true'] at h
      exact ok_asg q h.1.1.1 h.1.1.2 h.1.2 h.2
    · cases h
  | .own i e, st, W, X, sc, q, h => by
    unfold ckS at h
    split at h
    · simp only [Bool.and_eq_true, decide_eq_true_eq] at h
      obtain ⟨⟨⟨⟨h1, h2⟩, h3⟩, h4⟩, h5⟩ := h
      exact s_ownL (es := []) (by rw [q.g.own]; exact h3) h5 (ps_set (nd_of q.g) (by rw [q.g.hN]; exact h1) (loc_of q.hs h2) (pe_lst (okEs _ q.g q.hs h4)) rfl (.inl (q.fn _)))
    · simp only [Bool.and_eq_true, decide_eq_true_eq] at h
      obtain ⟨⟨h1, h2⟩, h3⟩ := h
      exact s_ownD (by rw [q.g.own]; exact h3) (ps_set (nd_of q.g) (by rw [q.g.hN]; exact h1) (loc_of q.hs h2) pe_dnewK rfl (.inl (q.fn _)))
    · simp only [Bool.and_eq_true, decide_eq_true_eq] at h
      obtain ⟨⟨⟨⟨h1, h2⟩, h3⟩, h4⟩, h5⟩ := h
      exact s_ownCat q.g.hK (by rw [q.g.own]; exact h3) (ps_set (nd_of q.g) (by rw [q.g.hN]; exact h1) (loc_of q.hs h2) (pe_op op_catL (pe_weak (okE _ q.g q.hs h4)) (nb_of (okE _ q.g q.hs h5) rfl)) rfl (.inl (q.fn _)))
    · cases h
  | .aug i o e, st, W, X, sc, q, h => by
    unfold ckS at h
    split at h
    · simp only [Bool.and_eq_true, Bool.not_eq_true', decide_eq_true_eq] at h
      obtain ⟨⟨⟨⟨⟨h0, h1⟩, h2⟩, h3⟩, h4⟩, h5⟩ := h
      subst h0
      exact s_aug (by rw [q.g.own]; exact h3) (nd_of q.g) (by rw [q.g.hN]; exact h1) (loc_of q.hs h2) (.inl (q.fn _)) (nb_of (okE e q.g q.hs h4) h5)
    · cases h
  | .setx _ _ _, _, _, _, _, _, h => by simp [ckS] at h
  | .app i e, st, W, X, sc, q, h => by
    unfold ckS at h
    split at h
    · simp only [Bool.and_eq_true, Bool.not_eq_true', decide_eq_true_eq] at h
      obtain ⟨⟨⟨⟨⟨⟨⟨⟨h0, h1⟩, h2⟩, h3⟩, h4⟩, h5⟩, h6⟩, h7⟩, h8⟩ := h
      subst h0
      exact s_app q.g.hK (by rw [q.g.own]; exact h5) (ps_expr (pe_bm PySem.F.plainAttrs_list PySem.F.slot_list_append PySem.F.type_list_append mt_append (pe_var (by rw [q.g.hN]; exact h2) (vis_of q.hs h3) (pl_of h4).1 (pl_of h4).2) (pa_cons (nb_of (okE e q.g q.hs h6) h7) pa_nil (star_of h8)) rfl (by
        rw [star_of h8]
        rfl) h1 (star_of h8) rfl) rfl)
    · cases h
  | .drop e, st, W, X, sc, q, h => by
    unfold ckS at h
    split at h
    · rw [Bool.and_eq_true] at h
      exact s_drop (okE e q.g q.hs h.1) (sw_none h.2)
    · cases h
  | .ret e, st, W, X, sc, q, h => by
    unfold ckS at h
    split at h
    · rw [Bool.and_eq_true] at h
      cases hb : bor se e with
      | false => exact s_ret (nb_of (okE e q.g q.hs h.1) hb)
      | true =>
        have h2 := h.2
        rw [hb] at h2
        cases e with
        | var i =>
          have h1 : ckVar se sc i ‹Expr› = true := by have := h.1; unfold ckE at this; exact this
          unfold ckVar at h1
          split at h1
          · simp only [Bool.and_eq_true, decide_eq_true_eq] at h1
            exact s_retOwn (by rw [q.g.own]; exact hb) (pe_var (by rw [q.g.hN]; exact h1.1.1) (vis_of q.hs h1.1.2) (pl_of h1.2).1 (pl_of h1.2).2)
          · cases h1
        | _ => cases h2
    · cases h
  | .retN, st, W, X, sc, q, h => by
    unfold ckS at h
    split at h
    · exact s_retN
    · cases h
  | .ifs e a b, st, W, X, sc, q, h => by
    unfold ckS at h
    split at h
    · simp only [Bool.and_eq_true] at h
      exact s_ifs (okT e q.g q.hs h.1.1) (okSs a q h.1.2) (okSs b q h.2)
    · cases h
  | .whl e b, st, W, X, sc, q, h => by
    unfold ckS at h
    split at h
    · simp only [Bool.and_eq_true] at h
      exact s_whl q.po (okT e q.g q.hs h.1) (okSs b q h.2)
    · cases h
  | .fors tg it b, st, W, X, sc, q, h => by
    unfold ckS at h
    split at h
    · simp only [Bool.and_eq_true, Bool.not_eq_true'] at h
      obtain ⟨⟨⟨⟨⟨h1, h2⟩, h2t⟩, h3⟩, h4⟩, h5⟩ := h
      obtain ⟨pg, ho⟩ := tg_of q.g q.hs (fnAll := true) (fun _ => q.fn) h1
      have hi := okI it (tg := _) (W := W) q.g q.hs h2 h2t
      simp only [h3] at hi
      exact s_fors q.g.hK ho q.po q.g.calm hi pg (okSs b q h5) (fold_of h4)
    · cases h
  | .rais k, st, W, X, sc, q, h => by
    unfold ckS at h
    split at h
    · simp only [Bool.and_eq_true, Bool.not_eq_true', decide_eq_true_eq, List.contains_iff_mem] at h
      obtain ⟨⟨⟨⟨h1, h2⟩, h3⟩, h4⟩, h5⟩ := h
      subst h1
      have hne : k ≠ 11 := by simpa using h5
      obtain ⟨C, B, nid, iid, bmB, e, FB, hq, hkp, hsb, hty⟩ := q.g.exf.rs k h4 hne
      have hm : X.mg (exName k) = some (.ref C) := by
        rcases q.g.exf.nm k h4 with ⟨_, hm⟩ | ⟨h11, _⟩
        · rw [← e]; exact hm
        · exact absurd h11 hne
      exact s_rais q.g.calm q.tk e (pmk_own FB hq hm hkp (raises_own hsb hty) (gl_of q.hs h2) (pl_of h3).1)
    · cases h
  | .tri b k sl s, st, W, X, sc, q, h => by
    unfold ckS at h
    split at h
    · rename_i i j i2 body x np n y py n2 pn2 ap hp' tp
      simp only [Bool.and_eq_true, Bool.not_eq_true', decide_eq_true_eq, List.contains_iff_mem, beq_iff_eq] at h
      obtain ⟨⟨⟨⟨⟨⟨⟨⟨⟨⟨⟨⟨⟨h1, h2⟩, h3⟩, h4⟩, h5⟩, h6⟩, h7⟩, h8⟩, h9⟩, h10⟩, h11⟩, h12⟩, h13⟩, h14⟩ := h
      subst h1 h4 h10
      have hln : X.env.scope.names.lookup n2 = some .local := lcl_of q.hs h3
      have nm : Names X (exName k) (c.cls k) := by
        refine ⟨gl_of q.hs h5, (pl_of h6).1, ?_⟩
        rcases q.g.exf.nm k h7 with ⟨_, hm⟩ | ⟨e1, e2, hm⟩
        · exact .inl hm
        · subst e1
          exact .inr ⟨hm, by rw [e2]; decide +kernel, by decide⟩
      exact s_tri_keep q.g.hK q.g.exf (by rw [q.g.own]; exact h12) (by rw [q.g.own]; exact h13) (ps_try_keep (tb := fun W' => TSsr c W' f b) q.st q.fr q.ex (nd_of q.g) (by rw [q.g.hN]; exact h2) hln nm q.tk
        (fun W' pn xe tk po => okSs b (q.tr tk po) h14)
        (fun a oe cls pn => pss_one (ps_imp (ps_set (X := X.suite a ((a, oe) :: pn)) (nd_of (X := X) q.g) (by show X.N[j]? = _; rw [q.g.hN]; exact h8) (loc_of (X := X) q.hs h9) (pe_var (X := X.suite a ((a, oe) :: pn)) (by show X.N[i2]? = _; rw [q.g.hN]; exact h2) (.inl hln) (pl_of h11).1 (pl_of h11).2) rfl (.inl (q.fn _))) fun Z σ H h => ⟨_, h.1, h.2⟩)))
    · cases h
  | .fgt _, _, _, _, _, _, h => by simp [ckS] at h
  | .wall, st, W, X, sc, q, h => s_wall
  | .asgX i tg it b, st, W, X, sc, q, h => by
    unfold ckS at h
    split at h
    · rename_i y py elt t iter a scope pos spos
      simp only [Bool.and_eq_true, Bool.not_eq_true', decide_eq_true_eq] at h
      obtain ⟨⟨⟨⟨⟨⟨⟨⟨⟨⟨⟨h0, hy⟩, hyl⟩, hyo⟩, hsw⟩, h1⟩, h2⟩, h2t⟩, h3⟩, h5⟩, h6⟩, h7⟩ := h
      subst h0
      refine s_asgX (bc := borI se it) q.g.hK (by rw [q.g.own]; exact hyo) (fun i hi => by rw [q.g.own]; exact tg_own h1 i hi) (ownOf_snd tg) q.g.calm q.tk q.st q.fr (nd_of q.g) (by rw [q.g.hN]; exact hy) (lcl_of q.hs hyl) (by rw [sw_eq q.hs q.kd, hsw]) (okI it q.g q.hs h2 h2t) (by rw [q.g.hN, q.hs]; exact blkOk_by h7)
        (fun s H C cl fp => ?_) (fun σ s H C cl fp hpa => ?_) (fold_of h3)
      · exact (tg_of (q.g.blkX (W' := fun _ _ _ _ => False) s H scope (compEnvC scope cl C X.env) fp fun σ' pins H s e s' I c => by
          obtain ⟨_, _, _, _, _, _, _, _, _, _, _, _, z⟩ := c
          exact z.elim) (by rw [← q.hs]; rfl) (fun q => by cases q) h1).1
      · exact nb_of (okE b (q.g.blkX s H scope (compEnvC scope cl C X.env) fp hpa) (by rw [← q.hs]; rfl) h5) h6
    · cases h
  | .pas, st, W, X, sc, q, h => by
    unfold ckS at h
    split at h
    · exact s_pas
    · cases h
theorem okSs {se : Se} {c : Cn} {n : Nat} {f : Fr} : ∀ (s : MP.Sts) {l : List Stmt} {W : WX} {X : Cx} {sc : Scope}, GS se c n W X sc → ckSs se sc s l = true → PSs X l (TSsr c W f s)
  | .nil, l, W, X, sc, q, h => by
    unfold ckSs at h
    split at h
    · exact s_snil
    · cases h
  | .cons s r, l, W, X, sc, q, h => by
    unfold ckSs at h
    split at h
    · rename_i hs
      cases s with
      | fgt v => exact s_fgt (okSs r q h)
      | _ => cases hs
    · split at h
      · rw [Bool.and_eq_true] at h
        exact s_scons (okS s q h.1) (okSs r q h.2)
      · cases h
end
end MP

set_option maxRecDepth 100000
set_option maxHeartbeats 8000000
set_option autoImplicit false
namespace MP
open PySem L2

/-! ### defs -/
structure Df where
  name : Str
  st : Stmt
  N : List Str
  ps : List Str
  own : List Nat
  ir : Fn
def fnB (FN : List (Nat × Str × Nat)) (GC : List (Str × D)) (EX : List Nat) (d : Df) : Bool :=
  (match (defScope d.st).kind with | .function => true | _ => false) && !(defScope d.st).isCoroutine && !(defScope d.st).isGenerator && decide d.N.Nodup && decide (d.N.take d.ps.length = d.ps)
  && (d.ps.all fun x => locB (defScope d.st) x) && ((defScope d.st).names.all fun y => match y.2 with | .free => false | _ => true)
  && (d.ir.par == d.ps.length) && (d.ir.slots == d.N.length) && (d.own.all fun i => decide (d.ps.length ≤ i))
  && ckSs ⟨d.N, d.own, FN, GC, EX⟩ (defScope d.st) d.ir.body (defBody d.st)
theorem fnB_scope {FN : List (Nat × Str × Nat)} {GC : List (Str × D)} {EX : List Nat} {d : Df} (h : fnB FN GC EX d = true) : FnScope d.N d.ps (defScope d.st) := by
  unfold fnB at h
  simp only [Bool.and_eq_true, Bool.not_eq_true', decide_eq_true_eq, List.all_eq_true] at h
  obtain ⟨⟨⟨⟨⟨⟨⟨⟨⟨⟨h1, h2⟩, h3⟩, h4⟩, h5⟩, h6⟩, h7⟩, _⟩, _⟩, _⟩, _⟩ := h
  refine ⟨?_, h2, h3, h4, h5, fun x hx => ?_, fun y hy q => ?_⟩
  · split at h1
    · assumption
    · cases h1
  · have := h6 x hx
    unfold locB at this
    split at this
    · exact .inl (by assumption)
    · exact .inr (by assumption)
    · cases this
  · have := h7 y hy
    rw [q] at this
    cases this
/-- what stands in the text's head -/
structure Hd (T : List (Nat × Df)) (GC : List (Str × D)) (EX : List Nat) (cls : Nat → Value) (sub : Nat → Nat → Option Bool) (FA : Nat → Addr) (FD : Nat → FuncData) (K : PySem.W.Frag) (mg : Str → Option Value) : Prop where
  fs : ∀ (k : Nat) (d : Df), (k, d) ∈ T → mg d.name = some (.ref (FA k)) ∧ Fun K d.name d.name d.st (FA k) (FD k) ∧ Binds K (FD k) d.ps []
  bi : ∀ b : BI, mg (biName b) = none
  ty : ∀ t : Ty, mg (tyName t) = none
  isi : mg "isinstance" = none
  rng : mg "range" = none
  zp : mg "zip" = none
  en : mg "enumerate" = none
  rv : mg "reversed" = none
  gc : ∀ (nm : Str) (d : D), (nm, d) ∈ GC → ∃ v u, mg nm = some u ∧ RelV v u ∧ ∀ (A : Nat → Option Addr) (H : Hp), Rep K A H v d
  exf : ExFacts EX K mg cls sub
def fnsOf (T : List (Nat × Df)) : List (Nat × Str × Nat) := T.map fun p => (p.1, p.2.name, p.2.ps.length)
theorem lookup_mem {α : Type} {j : Nat} {x : α} : ∀ l : List (Nat × α), l.lookup j = some x → (j, x) ∈ l
  | [], h => by cases h
  | (i, y) :: l, h => by
    rw [List.lookup] at h
    split at h
    · rename_i e
      cases h
      rw [eq_of_beq e]
      exact List.mem_cons_self
    · exact List.mem_cons_of_mem _ (lookup_mem l h)
theorem start_get {ds : List D} {vs : List V} {n : Nat} {i : Nat} {d : D} (h : (ds.map some ++ List.replicate n none)[i]? = some (some d)) : ds[i]? = some d := by
  by_cases hi : i < ds.length
  · rw [List.getElem?_append_left (by rw [List.length_map]; exact hi), List.getElem?_map] at h
    cases q : ds[i]? with
    | none => rw [q] at h; cases h
    | some e => rw [q] at h; cases h; rfl
  · rw [List.getElem?_append_right (by rw [List.length_map]; omega)] at h
    have := List.mem_of_getElem? h
    rw [List.mem_replicate] at this
    cases this.2
section
variable {P : Program} {w : World} {K : PySem.W.Frag} {mg : Str → Option Value} {base : Heap} {T : List (Nat × Df)} {M : Nat → Option Fn} {GC : List (Str × D)} {EX : List Nat} {FA : Nat → Addr} {FD : Nat → FuncData} {cls : Nat → Value} {sub : Nat → Nat → Option Bool}
theorem sp_len {ps : List Str} {g : List D → Mu → Res D} {vs : List V} {H : Hp} {Q : VK} {E : XK} (h : spD K cls ps.length g vs H Q E) : vs.length = ps.length := by
  obtain ⟨G, L, m, ds, _, _, r, hl, _⟩ := h
  rw [r.length, hl]
theorem fn_ok (HD : Hd T GC EX cls sub FA FD K mg) (hM : ∀ (k : Nat) (d : Df), (k, d) ∈ T → M k = some d.ir) (hT : (T.all fun p => fnB (fnsOf T) GC EX p.2) = true) : ∀ (n k : Nat) (d : Df), (k, d) ∈ T → FnOk P w K mg base (L2.CX P w) n (FA k) (FD k) d.ps (spD K cls d.ps.length (callF M sub n k)) := by
  intro n
  induction n with
  | zero =>
    intro k d hk
    refine ⟨fun vs H Q E h => sp_len h, fun A outer s H args us vs Q E hr he hb hv h => ?_⟩
    obtain ⟨G, L, m, ds, _, _, _, _, h⟩ := h
    exact (show False from h).elim
  | succ n ih =>
    intro k d hk
    have hd : fnB (fnsOf T) GC EX d = true := List.all_eq_true.mp hT (k, d) hk
    have S := fnB_scope hd
    obtain ⟨hm, F, hb⟩ := HD.fs k d hk
    have hd2 := hd
    unfold fnB at hd2
    simp only [Bool.and_eq_true, beq_iff_eq, List.all_eq_true, decide_eq_true_eq] at hd2
    obtain ⟨⟨⟨⟨_, hp⟩, hs⟩, ho⟩, hck⟩ := hd2
    refine F.okX S (fun vs H Q E h => sp_len h) fun cdv A outer s H vs Q E hr h => ?_
    obtain ⟨G, L, m, ds, gok, sok, rr, hl, h⟩ := h
    have hfk : M k = some d.ir := hM k d hk
    have hcall : callF M sub (n + 1) k ds m = (evSs ⟨callF M sub n, sub⟩ d.ir.body (ds.map some ++ List.replicate (d.ir.slots - d.ir.par) none) m).res := by
      rw [callF, hfk]
      show (if ds.length = d.ir.par then _ else _) = _
      rw [if_pos (by rw [hl, hp])]
    rw [hcall] at h
    let se : Se := ⟨d.N, d.own, fnsOf T, GC, EX⟩
    let c : Cn := ⟨K, ⟨callF M sub n, sub⟩, se.ow, cls⟩
    let f : Fr := ⟨G, L, H⟩
    have good : GS se c n (fun cls d _ H => E cls d H) (cxOf (L2.CX P w) P w K mg base d.N d.name (defScope d.st) (FA k) cdv A outer s H E) (defScope d.st) := by
      refine ⟨⟨rfl, rfl, rfl, S.nd, fun _ => rfl, hr, HD.bi, HD.ty, HD.isi, HD.rng, HD.zp, HD.en, HD.rv, fun σ => passAt (takes_of rfl rfl rfl rfl) σ, fun j nm par hj => ?_, HD.gc, HD.exf⟩, rfl, fun _ => rfl, passes_of rfl, S.kind, rfl, rfl, rfl, takes_of rfl rfl rfl rfl⟩
      obtain ⟨⟨j', e⟩, he, he2⟩ := List.mem_map.mp (lookup_mem _ hj)
      · cases he2
        have q : (j', e) ∈ T := he
        obtain ⟨a1, a2, a3⟩ := HD.fs j' e q
        exact ⟨FA j', FD j', e.ps, a1, a2.kp, a3, ih j' e q⟩
    refine ⟨_, okSs (f := f) d.ir.body good hck, ?_⟩
    have noown : ∀ (i : Nat) (e : D), c.own i = true → (ds.map some ++ List.replicate (d.ir.slots - d.ir.par) none)[i]? ≠ some (some e) := fun i e h1 h2 => by
      have h3 := start_get (vs := vs) h2
      have h4 : i < ds.length := (List.getElem?_eq_some_iff.mp h3).1
      have h5 : d.ps.length ≤ i := ho i (by have : d.own.contains i = true := h1; exact List.contains_iff_mem.mp this)
      omega
    have eG : OG G c.own (ds.map some ++ List.replicate (d.ir.slots - d.ir.par) none) (L2.start d.N vs) = G := by
      funext a
      apply propext
      refine ⟨fun q => ?_, .inl⟩
      rcases q with q | ⟨i, e, h1, h2, _⟩
      · exact q
      · exact (noown i e h1 h2).elim
    have O : FO c f L m (ds.map some ++ List.replicate (d.ir.slots - d.ir.par) none) (L2.start d.N vs) H := by
      refine ⟨?_, Stp.refl _ _, fun i e a h1 h2 _ => (noown i e h1 h2).elim, fun i j e _ a h1 _ h2 _ _ _ => (noown i e h1 h2).elim, fun a ha => (gok a ha).1⟩
      show ESt K c.own (OG G c.own _ _) L m _ _ H
      rw [eG]
      refine ⟨gok, sok, ?_, fun i e hi => ?_⟩
      · unfold L2.start
        rw [List.length_append, List.length_append, List.length_map, List.length_map, List.length_replicate, List.length_replicate, rr.length, hs, hp, hl]
      · have h3 := start_get (vs := vs) hi
        obtain ⟨v, hv, rv⟩ := rr.get h3
        refine ⟨v, ?_, fun _ => rv, fun q => (noown i e q hi).elim⟩
        unfold L2.start
        rw [List.getElem?_append_left (by rw [List.length_map]; exact (List.getElem?_eq_some_iff.mp hv).1), List.getElem?_map, hv]
        rfl
    refine ⟨L, m, _, O, ?_⟩
    revert h
    show (match (evSs c.cfg d.ir.body (ds.map some ++ List.replicate (d.ir.slots - d.ir.par) none) m).res with
      | .ok d m' => ∀ v H' L', Stp L L' H H' → SOk K G L' m' H' → Rep K (AL L') (hide (Bd G L') H') v d → Q v H'
      | .err k m' => ∀ H' L', Stp L L' H H' → SOk K G L' m' H' → E (cls k) none H'
      | .stuck => False) → _
    cases evSs c.cfg d.ir.body (ds.map some ++ List.replicate (d.ir.slots - d.ir.par) none) m with
    | nxt ρ' m' => exact fun h σ' H' L' O' _ => h .non H' L' O'.ent O'.sok .non
    | ret e m' => exact fun h v H' L' s1 s2 r => h v H' L' s1 s2 r
    | err j ρ' m' => exact fun h σ' H' L' O' _ => h H' L' O'.ent O'.sok
    | stuck => exact fun h => h
end
end MP

set_option maxRecDepth 100000
set_option maxHeartbeats 8000000
set_option autoImplicit false
namespace MP
open PySem L2

/-! ### the law's end -/
def spScr (K : PySem.W.Frag) : Sp := fun vs H Q _ => ∃ (a : Addr) (ns : List Int), vs = [.ref a] ∧ SqL K H a (ns.map V.int) ∧ ns.length ≤ 63 ∧ ∀ H', Q (.bl true) H'
theorem reps_ints {K : PySem.W.Frag} {A : Nat → Option Addr} {H : Hp} : ∀ ns : List Int, Reps K A H (ns.map V.int) (ns.map D.int)
  | [] => .nil
  | n :: r => .cons (.int n) (reps_ints r)
theorem scr_ok {P : Program} {w : World} {K : PySem.W.Frag} {mg : Str → Option Value} {base : Heap} {CX : CXT} {n : Nat} {f : Addr} {fd : FuncData} {ps : List Str} {cls : Nat → Value} {g : List D → Mu → Res D}
    (hp : ps.length = 1) (F : FnOk P w K mg base CX n f fd ps (spD K cls ps.length g)) (h : ∀ ns : List Int, ns.length ≤ 63 → ∃ m, g [.lst (ns.map D.int)] [] = .ok (.bl true) m) : FnOk P w K mg base CX n f fd ps (spScr K) := F.imp fun vs H Q E ⟨a, ns, e, hS, hl, q⟩ => by
  subst e
  obtain ⟨m, hm⟩ := h ns hl
  have nB : ∀ b, ¬ Bd (fun _ => False) [] b := fun b z => by
    rcases z with z | ⟨x, z, _⟩
    · exact z
    · cases z
  have sm : Same H (hide (Bd (fun _ => False) []) H) := fun b o e => hide_of (nB b) e
  refine ⟨fun _ => False, [], [], [.lst (ns.map D.int)], fun a z => z.elim, ⟨rfl, rfl⟩, .cons (.lst (Same.sqL sm hS) (reps_ints ns) (by rw [List.length_map]; exact Nat.le_trans hl (by decide))) .nil, by rw [hp]; rfl, ?_⟩
  rw [hm]
  intro v H' L' _ _ r
  cases r
  exact q H'
theorem cx_none {P : Program} {w : World} {H : Hp} {s : Shared} {e : Value} {s' : Shared} (h : L2.CX P w [] H s (fun _ _ _ => False) e s') : False := by
  obtain ⟨_, _, _, _, _, _, _, _, _, _, _, _, z⟩ := h
  exact z
/-- the names of built-in things -/
def bnames : List Str := ["len", "sum", "sorted", "min", "max", "all", "any", "list", "tuple", "str", "int", "dict", "bool", "isinstance", "range", "zip", "enumerate", "reversed"]
theorem bi_of {mg : Str → Option Value} (h : ∀ x ∈ bnames, mg x = none) : (∀ b : BI, mg (biName b) = none) ∧ (∀ t : Ty, mg (tyName t) = none) ∧ mg "isinstance" = none ∧ mg "range" = none ∧ mg "zip" = none ∧ mg "enumerate" = none ∧ mg "reversed" = none := by
  refine ⟨fun b => h _ ?_, fun t => h _ ?_, h _ ?_, h _ ?_, h _ ?_, h _ ?_, h _ ?_⟩
  · cases b <;> decide +kernel
  · cases t <;> decide +kernel
  all_goals decide +kernel
theorem walk_scr {l : PySem.W.OpenLaw} {q : Program} {loose : List Str} {XP : (Str → Option Value) → Heap → Prop} {YP : World → Heap → Prop} {d : DefRec} {K : Params → PySem.W.Frag} {k : Nat} {x : Str} (hk : k ≤ 100) (hn : l.most = some 63) (hdf : d.params.defaults = [])
    (hY : ∀ (w : World) (h : Heap), YP w h → (K w.params).In h)
    (F : ∀ (w : World) (mg : Str → Option Value) (fa : Addr) (h : Heap), (K w.params).In h → h.Ns mainGlobals mg → mg d.name = some (.ref fa) →
      ∃ fd : FuncData, (∀ (s : Shared) (u : Value), BindsTo s fd ⟨[u], []⟩ [(x, u)]) ∧ ∀ base : Heap, (K w.params).In base → base.Ns mainGlobals mg → FnOk l.prog w (K w.params) mg base (L2.CX l.prog w) k fa fd [x] (spScr (K w.params))) :
    PySem.W.WalkO q loose XP YP l.row.toRowW d [] (fun f vs => PySem.call f vs) :=
  L2.walk_of (n := 63) (k := k) (x := x) (CX := fun w => L2.CX l.prog w) (sp := fun w => spScr (K w.params)) hn (by decide) hdf (Room.mono (k := 100) ⟨rfl, by decide, by decide⟩ hk) hY F (fun _ _ a ns hl _ hS => ⟨a, ns, rfl, hS, hl, fun _ => rfl⟩) fun _ _ _ _ _ z => cx_none z
end MP

set_option maxRecDepth 100000
set_option maxHeartbeats 8000000
set_option autoImplicit false
namespace MP
open PySem L2

/-! ### plain facts of the going -/
theorem szD : 10000 ≤ sizeD := by decide
theorem wB_small {j : Int} (h : j.natAbs < 2 ^ 64) (i : Int) : mulOk i j = true := by
  unfold mulOk
  rw [decide_eq_true h, Bool.or_true, Bool.true_or]
theorem wB_small2 {i : Int} (h : i.natAbs < 2 ^ 64) (j : Int) : mulOk i j = true := by
  unfold mulOk
  rw [decide_eq_true h, Bool.true_or, Bool.true_or]
theorem log_small {n : Nat} (h : n < 2 ^ 200) : n.log2 < 9000 := by
  by_cases hz : n = 0
  · subst hz
    decide
  · have := (Nat.log2_lt hz).mpr h
    omega
theorem b_add (i j : Int) : binD .add (.int i) (.int j) = some (.int (i + j)) := rfl
theorem b_sub (i j : Int) : binD .sub (.int i) (.int j) = some (.int (i - j)) := rfl
theorem b_mul {i j : Int} (h : j.natAbs < 2 ^ 64) : binD .mul (.int i) (.int j) = some (.int (i * j)) := by
  show (if mulOk i j = true then _ else _) = _
  rw [if_pos (wB_small h i)]
theorem b_mul2 {i j : Int} (h : i.natAbs < 2 ^ 64) : binD .mul (.int i) (.int j) = some (.int (i * j)) := by
  show (if mulOk i j = true then _ else _) = _
  rw [if_pos (wB_small2 h j)]
theorem b_div {i j : Int} (h : 0 < j) (h2 : j.natAbs < 2 ^ 200) : binD .fdiv (.int i) (.int j) = some (.int (i / j)) := by
  show (if 0 < j ∧ j.natAbs.log2 < 9000 then _ else _) = _
  rw [if_pos ⟨h, log_small h2⟩]
theorem b_mod {i j : Int} (h : 0 < j) : binD .mod (.int i) (.int j) = some (.int (i % j)) := by
  show (if 0 < j then _ else _) = _
  rw [if_pos h]
theorem i_place {α : Type} {l : List α} {i : Int} (h : 0 ≤ i) (h2 : i.toNat < l.length) : placeD l.length i = some i.toNat := by
  unfold placeD
  rw [if_pos h, if_pos (by omega)]
theorem i_lst {l : List D} {i : Int} (h : 0 ≤ i) (h2 : i.toNat < l.length) : idxD (.lst l) (.int i) = some l[i.toNat] := by
  show (placeD l.length i).bind _ = _
  rw [i_place h h2]
  show l[i.toNat]? = _
  rw [List.getElem?_eq_getElem h2]
theorem i_tup {l : List D} {i : Int} (h : 0 ≤ i) (h2 : i.toNat < l.length) : idxD (.tup l) (.int i) = some l[i.toNat] := by
  show (placeD l.length i).bind _ = _
  rw [i_place h h2]
  show l[i.toNat]? = _
  rw [List.getElem?_eq_getElem h2]
theorem flats_ints : ∀ ns : List Int, D.flats (ns.map D.int) = true
  | [] => rfl
  | n :: r => by
    rw [List.map_cons, D.flats, flats_ints r]
    rfl
theorem ne_nil (l : List D) (h : D.flats l = true) : cmpD .ne (.lst l) (.lst []) = some (!l.isEmpty) := by
  show (eqD (.lst l) (.lst [])).map (!·) = _
  unfold eqD
  rw [if_pos ⟨by simpa [D.flat] using h, by simp [D.flat, D.flats], .inr (by simp [D.dep, D.deps])⟩]
  cases l <;> rfl
theorem eq_nilT (l : List D) (h : D.flats l = true) : cmpD .eq (.tup l) (.tup []) = some l.isEmpty := by
  show eqD (.tup l) (.tup []) = _
  unfold eqD
  rw [if_pos ⟨by simpa [D.flat] using h, by simp [D.flat, D.flats], .inr (by simp [D.dep, D.deps])⟩]
  cases l <;> rfl
theorem c_lt (i j : Int) : cmpD .lt (.int i) (.int j) = some (decide (i < j)) := rfl
theorem c_le (i j : Int) : cmpD .le (.int i) (.int j) = some (decide (i ≤ j)) := rfl
theorem c_gt (i j : Int) : cmpD .gt (.int i) (.int j) = some (decide (j < i)) := rfl
theorem c_ge (i j : Int) : cmpD .ge (.int i) (.int j) = some (decide (j ≤ i)) := rfl
theorem c_ltS (i j : List Nat) : cmpD .lt (.str i) (.str j) = some (ltS i j) := rfl
theorem c_leS (i j : List Nat) : cmpD .le (.str i) (.str j) = some (!ltS j i) := rfl
theorem c_gtS (i j : List Nat) : cmpD .gt (.str i) (.str j) = some (ltS j i) := rfl
theorem c_geS (i j : List Nat) : cmpD .ge (.str i) (.str j) = some (!ltS i j) := rfl
theorem t_bl (b : Bool) : truth (.bl b) = some b := rfl
theorem len_l (l : List D) : biD .len [.lst l] = some (.int l.length) := rfl
theorem len_t (l : List D) : biD .len [.tup l] = some (.int l.length) := rfl
theorem len_s (l : List Nat) : biD .len [.str l] = some (.int l.length) := rfl
theorem c_eqS (a b : List Nat) : cmpD .eq (.str a) (.str b) = some (decide (a = b)) := by
  show eqD (.str a) (.str b) = _
  unfold eqD
  rw [if_pos ⟨rfl, rfl, .inl (by simp [D.dep])⟩]
  congr 1
  show PyData.eqv (.str (S a)) (.str (S b)) = _
  by_cases h : a = b
  · subst h
    simp [PyData.eqv]
  · have : S a ≠ S b := fun q => h (by rw [← tl_S a, ← tl_S b, q])
    simp [PyData.eqv, h, this]
theorem c_eqI (a b : Int) : cmpD .eq (.int a) (.int b) = some (decide (a = b)) := by
  show eqD (.int a) (.int b) = _
  unfold eqD
  rw [if_pos ⟨rfl, rfl, .inl (by simp [D.dep])⟩]
  congr 1
/-! ### the cell of a script -/
def cellB : Sts :=
  (.cons (.asg (.one 2) (.bin .add (.bin .mul (.lit (.int 7919)) (.var 1)) (.lit (.int 11))))
  (.cons (.asg (.one 3) (.lit (.int 0)))
  (.cons (.ifs (.cmp .ne (.var 0) (.lst .nil)) (.cons (.asg (.one 5) (.bin .fdiv (.var 1) (.bi .len (.cons (.var 0) .nil)))) (.cons (.asg (.one 2) (.bin .add (.bin .add (.bin .mul (.idx (.var 0) (.bin .mod (.var 1) (.bi .len (.cons (.var 0) .nil)))) (.lit (.int 48271))) (.bin .mul (.lit (.int 104729)) (.var 1))) (.bin .mul (.var 5) (.lit (.int 7919))))) (.cons (.ifs (.cmp .ge (.idx (.var 0) (.bin .mod (.var 1) (.bi .len (.cons (.var 0) .nil)))) (.bin .pow (.lit (.int 10)) (.lit (.int 18)))) (.cons (.asg (.one 6) (.bin .add (.lit (.int 1)) (.bin .mul (.bin .add (.var 5) (.lit (.int 1))) (.lit (.int 4014476939333036189094441199026045136645885247730))))) (.cons (.asg (.one 3) (.bin .mod (.bin .fdiv (.idx (.var 0) (.bin .mod (.var 1) (.bi .len (.cons (.var 0) .nil)))) (.bin .pow (.lit (.int 10)) (.lit (.int 18)))) (.var 6))) .nil)) .nil) .nil))) .nil)
  (.cons (.asg (.one 4) (.bin .mod (.var 2) (.lit (.int 2147483647))))
  (.cons (.asg (.one 4) (.bin .mod (.bin .mul (.var 4) (.var 4)) (.lit (.int 2147483629))))
  (.cons (.ret (.bin .mod (.bin .add (.bin .add (.bin .add (.bin .mul (.var 4) (.var 4)) (.bin .mul (.lit (.int 69621)) (.var 4))) (.var 1)) (.var 3)) (.lit (.int 2147483587))))
  .nil))))))
def cellT : Sts :=
  (.cons (.asg (.one 4) (.bin .mod (.var 2) (.lit (.int 2147483647))))
  (.cons (.asg (.one 4) (.bin .mod (.bin .mul (.var 4) (.var 4)) (.lit (.int 2147483629))))
  (.cons (.ret (.bin .mod (.bin .add (.bin .add (.bin .add (.bin .mul (.var 4) (.var 4)) (.bin .mul (.lit (.int 69621)) (.var 4))) (.var 1)) (.var 3)) (.lit (.int 2147483587))))
  .nil)))
theorem mod_small {i j : Int} (h : 0 < j) (h2 : j < 2 ^ 60) : (i % j).natAbs < 2 ^ 64 := by
  have h1 := Int.emod_nonneg i (show j ≠ 0 by omega)
  have h3 := Int.emod_lt_of_pos i h
  omega
def cellF (h : Int) : Int := h % 2147483647 * (h % 2147483647) % 2147483629
def cellE (k h more : Int) : Int := (cellF h * cellF h + 69621 * cellF h + k + more) % 2147483587
theorem cellE_lo (k h more : Int) : 0 ≤ cellE k h more := Int.emod_nonneg _ (by decide)
theorem cellE_hi (k h more : Int) : cellE k h more < 2147483587 := Int.emod_lt_of_pos _ (by decide)
theorem cell_tail (cfg : Cfg) (k h more : Int) (d : D) (a5 a6 : Option D) : evSs cfg cellT [some d, some (.int k), some (.int h), some (.int more), none, a5, a6] [] = .ret (.int (cellE k h more)) [] := by
  have e1 : ∀ (i : Int), (i % 2147483647).natAbs < 2 ^ 64 := fun i => mod_small (by decide) (by decide)
  have e2 : ∀ (i : Int), (i % 2147483629).natAbs < 2 ^ 64 := fun i => mod_small (by decide) (by decide)
  simp only [cellT, evSs, evS, evE, Res.bind_ok, Res.fl_ok, Res.opt_some, bindT, List.set_cons_zero, List.set_cons_succ, List.getElem?_cons_zero, List.getElem?_cons_succ, b_add, b_mod (show (0 : Int) < 2147483647 by decide), b_mod (show (0 : Int) < 2147483629 by decide), b_mod (show (0 : Int) < 2147483587 by decide), b_mul (e1 _), b_mul (e2 _), cellE, cellF]
/-- the value of the script's k-th cell -/
def cellV (ns : List Int) (k : Int) : Int := match ns with
  | [] => cellE k (7919 * k + 11) 0
  | n :: r =>
    let x := ((n :: r)[(k % ((n :: r).length : Int)).toNat]?).getD 0
    let t := k / ((n :: r).length : Int)
    cellE k (x * 48271 + 104729 * k + t * 7919) (if 10 ^ 18 ≤ x then x / 10 ^ 18 % (1 + (t + 1) * 4014476939333036189094441199026045136645885247730) else 0)
theorem cellV_lo (ns : List Int) (k : Int) : 0 ≤ cellV ns k := by
  unfold cellV
  split <;> exact cellE_lo _ _ _
theorem cellV_hi (ns : List Int) (k : Int) : cellV ns k < 2147483587 := by
  unfold cellV
  split <;> exact cellE_hi _ _ _
theorem b_pow (i : Int) (n : Nat) (h : n ≤ 1000) (h2 : i.natAbs < 2 ^ 64) : binD .pow (.int i) (.int n) = some (.int (i ^ n)) := by
  show (if 0 ≤ (n : Int) ∧ (n : Int) ≤ 1000 ∧ i.natAbs < 2 ^ 64 then some (D.int (i ^ ((n : Int)).toNat)) else none) = _
  rw [if_pos ⟨by omega, by omega, h2⟩]
  rfl
theorem b_pow18 : binD .pow (.int 10) (.int 18) = some (.int (10 ^ 18)) := b_pow 10 18 (by decide) (by decide)
theorem cell_ok (cfg : Cfg) (ns : List Int) (hl : ns.length ≤ 63) (k : Int) (h0 : 0 ≤ k) (h1 : k ≤ 10 ^ 9) : evSs cfg cellB [some (.lst (ns.map D.int)), some (.int k), none, none, none, none, none] [] = .ret (.int (cellV ns k)) [] := by
  have hcat : cellB = .cons (.asg (.one 2) (.bin .add (.bin .mul (.lit (.int 7919)) (.var 1)) (.lit (.int 11)))) (.cons (.asg (.one 3) (.lit (.int 0))) (.cons (.ifs (.cmp .ne (.var 0) (.lst .nil)) (.cons (.asg (.one 5) (.bin .fdiv (.var 1) (.bi .len (.cons (.var 0) .nil)))) (.cons (.asg (.one 2) (.bin .add (.bin .add (.bin .mul (.idx (.var 0) (.bin .mod (.var 1) (.bi .len (.cons (.var 0) .nil)))) (.lit (.int 48271))) (.bin .mul (.lit (.int 104729)) (.var 1))) (.bin .mul (.var 5) (.lit (.int 7919))))) (.cons (.ifs (.cmp .ge (.idx (.var 0) (.bin .mod (.var 1) (.bi .len (.cons (.var 0) .nil)))) (.bin .pow (.lit (.int 10)) (.lit (.int 18)))) (.cons (.asg (.one 6) (.bin .add (.lit (.int 1)) (.bin .mul (.bin .add (.var 5) (.lit (.int 1))) (.lit (.int 4014476939333036189094441199026045136645885247730))))) (.cons (.asg (.one 3) (.bin .mod (.bin .fdiv (.idx (.var 0) (.bin .mod (.var 1) (.bi .len (.cons (.var 0) .nil)))) (.bin .pow (.lit (.int 10)) (.lit (.int 18)))) (.var 6))) .nil)) .nil) .nil))) .nil) cellT)) := rfl
  have e1 : (7919 : Int).natAbs < 2 ^ 64 := by decide
  have e2 : (48271 : Int).natAbs < 2 ^ 64 := by decide
  have e3 : (104729 : Int).natAbs < 2 ^ 64 := by decide
  rw [hcat]
  cases ns with
  | nil =>
    simp only [List.map_nil, evSs, evS, evE, evEs, evT, Res.bind_ok, Res.fl_ok, Res.opt_some, bindT, List.set_cons_zero, List.set_cons_succ, List.getElem?_cons_zero, List.getElem?_cons_succ, b_add, b_mul2 e1, ne_nil [] rfl, Option.map_some, t_bl, List.isEmpty_nil, Bool.not_true, Bool.false_eq_true, if_false, cell_tail]
    rfl
  | cons n r =>
    have hL : ((n :: r).map D.int).length = (n :: r).length := List.length_map ..
    have hL0 : (0 : Int) < ((n :: r).length : Int) := by simp only [List.length_cons]; omega
    generalize hN : (n :: r) = ns at hl hL hL0 ⊢
    have hne : ((ns.map D.int).isEmpty) = false := by rw [← hN]; rfl
    have hlen : ∀ (l : List D), biD .len [.lst l] = some (.int l.length) := fun _ => rfl
    have m1 := Int.emod_nonneg k (show (ns.length : Int) ≠ 0 by omega)
    have m2 := Int.emod_lt_of_pos k hL0
    have hi : (k % (ns.length : Int)).toNat < (ns.map D.int).length := by rw [hL]; omega
    have hi' : (k % (ns.length : Int)).toNat < ns.length := by omega
    have hix : idxD (.lst (ns.map D.int)) (.int (k % (ns.length : Int))) = some (.int (ns[(k % (ns.length : Int)).toNat]?.getD 0)) := by
      rw [i_lst m1 hi, List.getElem_map, List.getElem?_eq_getElem hi']
      rfl
    have hd : k / (ns.length : Int) ≤ 10 ^ 9 := Int.le_trans (Int.ediv_le_self _ h0) h1
    have hd0 : 0 ≤ k / (ns.length : Int) := Int.ediv_nonneg h0 (by omega)
    have e4 : (k / (ns.length : Int) + 1).natAbs < 2 ^ 64 := by omega
    have e5 : ((ns.length : Int)).natAbs < 2 ^ 200 := by omega
    have e6 : ((10 : Int) ^ 18).natAbs < 2 ^ 200 := by decide
    have e7 : (0 : Int) < 1 + (k / (ns.length : Int) + 1) * 4014476939333036189094441199026045136645885247730 := by omega
    have hv : cellV ns k = cellE k (ns[(k % (ns.length : Int)).toNat]?.getD 0 * 48271 + 104729 * k + k / (ns.length : Int) * 7919) (if 10 ^ 18 ≤ ns[(k % (ns.length : Int)).toNat]?.getD 0 then ns[(k % (ns.length : Int)).toNat]?.getD 0 / 10 ^ 18 % (1 + (k / (ns.length : Int) + 1) * 4014476939333036189094441199026045136645885247730) else 0) := by
      rw [← hN]
      rfl
    rw [hv]
    simp only [evSs, evS, evE, evEs, evT, Res.bind_ok, Res.fl_ok, Res.opt_some, bindT, List.set_cons_zero, List.set_cons_succ, List.getElem?_cons_zero, List.getElem?_cons_succ, b_add, b_mul2 e1, b_mul e2, b_mul2 e3, b_mul e1, ne_nil _ (flats_ints ns), hne, Option.map_some, t_bl, Bool.not_false, if_true, len_l, hL, b_div hL0 e5, b_mod hL0, hix, b_pow18, c_ge, decide_eq_true_eq]
    by_cases hx : 10 ^ 18 ≤ ns[(k % (ns.length : Int)).toNat]?.getD 0
    · simp only [if_pos hx, evSs, evS, evE, evEs, Res.bind_ok, Res.fl_ok, Res.opt_some, bindT, List.set_cons_zero, List.set_cons_succ, List.getElem?_cons_zero, List.getElem?_cons_succ, b_add, b_mul2 e4, len_l, hL, b_mod hL0, hix, b_pow18, b_div (show (0 : Int) < 10 ^ 18 by decide) e6, b_mod e7, cell_tail]
    · simp only [if_neg hx, cell_tail]
/-! ### loops -/
theorem for_go {tg : Tgt} {b : Env' → Mu → Fl} (Inv : Nat → Env' → Prop) : ∀ (xs : List D) (i : Nat) (ρ : Env'), Inv i ρ →
    (∀ (j : Nat) (x : D) (ρ : Env'), xs[j]? = some x → Inv (i + j) ρ → ∃ ρ1, bindT tg x ρ = some ρ1 ∧ ∃ ρ2, b ρ1 [] = .nxt ρ2 [] ∧ Inv (i + j + 1) ρ2) → ∃ ρ', forGo tg b xs ρ [] = .nxt ρ' [] ∧ Inv (i + xs.length) ρ'
  | [], i, ρ, h, _ => ⟨ρ, rfl, h⟩
  | x :: xs, i, ρ, h, st => by
    obtain ⟨ρ1, e1, ρ2, e2, h2⟩ := st 0 x ρ rfl h
    obtain ⟨ρ', e3, h3⟩ := for_go Inv xs (i + 1) ρ2 h2 fun j y ρ hj hi => by
      have := st (j + 1) y ρ hj (by rw [show i + (j + 1) = i + 1 + j by omega]; exact hi)
      rw [show i + (j + 1) + 1 = i + 1 + j + 1 by omega] at this
      exact this
    refine ⟨ρ', ?_, by rw [List.length_cons, show i + (xs.length + 1) = i + 1 + xs.length by omega]; exact h3⟩
    rw [forGo, e1]
    show (match b ρ1 [] with | .nxt ρ2 m2 => forGo tg b xs ρ2 m2 | r => r) = _
    rw [e2]
    exact e3
theorem for_ind {tg : Tgt} {b : Env' → Mu → Fl} (Inv : Nat → Env' → Prop) {xs : List D} {ρ : Env'} (h : Inv 0 ρ)
    (st : ∀ (j : Nat) (x : D) (ρ : Env'), xs[j]? = some x → Inv j ρ → ∃ ρ1, bindT tg x ρ = some ρ1 ∧ ∃ ρ2, b ρ1 [] = .nxt ρ2 [] ∧ Inv (j + 1) ρ2) : ∃ ρ', forGo tg b xs ρ [] = .nxt ρ' [] ∧ Inv xs.length ρ' := by
  have := for_go Inv xs 0 ρ h fun j x ρ hj hi => by
    rw [Nat.zero_add] at hi ⊢
    exact st j x ρ hj hi
  rw [Nat.zero_add] at this
  exact this
theorem while_ind {c : Env' → Mu → Res Bool} {b : Env' → Mu → Fl} (Inv : Nat → Env' → Prop) (Post : Env' → Prop)
    (st : ∀ (n : Nat) (ρ : Env'), Inv n ρ → (c ρ [] = .ok false [] ∧ Post ρ) ∨ (c ρ [] = .ok true [] ∧ ∃ ρ2, b ρ [] = .nxt ρ2 [] ∧ ∃ n', n = n' + 1 ∧ Inv n' ρ2)) : ∀ (n fuel : Nat) (ρ : Env'), Inv n ρ → n < fuel → ∃ ρ', whileGo c b fuel ρ [] = .nxt ρ' [] ∧ Post ρ'
  | n, 0, ρ, _, h => absurd h (Nat.not_lt_zero _)
  | n, fuel + 1, ρ, hi, hf => by
    rw [whileGo]
    rcases st n ρ hi with ⟨e, p⟩ | ⟨e, ρ2, e2, n', hn, hi2⟩
    · rw [e]
      exact ⟨ρ, rfl, p⟩
    · rw [e]
      show ∃ ρ', (match b ρ [] with | .nxt ρ2 m2 => whileGo c b fuel ρ2 m2 | r => r) = _ ∧ _
      rw [e2]
      exact while_ind Inv Post st n' fuel ρ2 hi2 (by omega)
theorem turns_ok {f : D → Mu → Res (Option D)} {g : D → Option D} : ∀ (xs : List D), (∀ x ∈ xs, f x [] = .ok (g x) []) → turns f xs [] = .ok (xs.filterMap g) []
  | [], _ => rfl
  | x :: xs, h => by
    rw [turns, h x List.mem_cons_self, Res.bind_ok, turns_ok xs fun y hy => h y (List.mem_cons_of_mem _ hy), Res.bind_ok, List.filterMap_cons]
    cases g x <;> rfl
theorem turns_all {f : D → Mu → Res (Option D)} {P : D → Prop} : ∀ (xs : List D), (∀ x ∈ xs, ∃ y, f x [] = .ok (some y) [] ∧ P y) → ∃ ys, turns f xs [] = .ok ys [] ∧ ys.length = xs.length ∧ ∀ y ∈ ys, P y
  | [], _ => ⟨[], rfl, rfl, fun _ h => by cases h⟩
  | x :: xs, h => by
    obtain ⟨y, e, p⟩ := h x List.mem_cons_self
    obtain ⟨ys, e2, hl, q⟩ := turns_all xs fun z hz => h z (List.mem_cons_of_mem _ hz)
    refine ⟨y :: ys, by rw [turns, e, Res.bind_ok, e2, Res.bind_ok], by rw [List.length_cons, List.length_cons, hl], fun z hz => ?_⟩
    rcases List.mem_cons.mp hz with hz | hz
    · rw [hz]; exact p
    · exact q z hz
/-! ### texts -/
theorem b_addS {a b : List Nat} (h : a.length + b.length ≤ sizeD) : binD .add (.str a) (.str b) = some (.str (a ++ b)) := by
  show (if _ then _ else _) = _
  rw [if_pos h]
theorem b_addL {a b : List D} (h : a.length + b.length ≤ sizeD) : binD .add (.lst a) (.lst b) = some (.lst (a ++ b)) := by
  show (if _ then _ else _) = _
  rw [if_pos h]
theorem b_mulS {a : List Nat} {k : Int} (h : 0 ≤ k) (h2 : k < 2 ^ 62) (h3 : a.length * k.toNat ≤ 10000) : binD .mul (.str a) (.int k) = some (.str ((List.replicate k.toNat a).flatten)) := by
  show (if _ then _ else _) = _
  rw [if_pos ⟨h, h2, h3⟩]
theorem i_strs {l : List (List Nat)} {i : Int} (h : 0 ≤ i) (h2 : i.toNat < l.length) : ∃ s ∈ l, idxD (.lst (l.map D.str)) (.int i) = some (.str s) := by
  refine ⟨l[i.toNat], List.getElem_mem h2, ?_⟩
  rw [i_lst h (by rw [List.length_map]; exact h2), List.getElem_map]
theorem i_ints {l : List Int} {i : Int} (h : 0 ≤ i) (h2 : i.toNat < l.length) : ∃ s ∈ l, idxD (.lst (l.map D.int)) (.int i) = some (.int s) := by
  refine ⟨l[i.toNat], List.getElem_mem h2, ?_⟩
  rw [i_lst h (by rw [List.length_map]; exact h2), List.getElem_map]
theorem i_tupS {l : List (List Nat)} {i : Int} (h : 0 ≤ i) (h2 : i.toNat < l.length) : ∃ s ∈ l, idxD (.tup (l.map D.str)) (.int i) = some (.str s) := by
  refine ⟨l[i.toNat], List.getElem_mem h2, ?_⟩
  rw [i_tup h (by rw [List.length_map]; exact h2), List.getElem_map]
theorem i_chr {l : List Nat} {i : Int} (h : 0 ≤ i) (h2 : i.toNat < l.length) : ∃ s ∈ l, idxD (.str l) (.int i) = some (.str [s]) := by
  refine ⟨l[i.toNat], List.getElem_mem h2, ?_⟩
  show ((placeD l.length i).bind (l[·]?)).map _ = _
  rw [i_place h h2]
  show (l[i.toNat]?).map _ = _
  rw [List.getElem?_eq_getElem h2]
  rfl
theorem flats_strs : ∀ ns : List (List Nat), D.flats (ns.map D.str) = true
  | [] => rfl
  | n :: r => by
    rw [List.map_cons, D.flats, flats_strs r]
    rfl
theorem eqv_str (a b : List Nat) : PyData.eqv (D.str a).toPy (D.str b).toPy = decide (a = b) := by
  show PyData.eqv (.str (S a)) (.str (S b)) = _
  by_cases h : a = b
  · subst h
    simp [PyData.eqv]
  · have : S a ≠ S b := fun q => h (by rw [← tl_S a, ← tl_S b, q])
    simp [PyData.eqv, h, this]
theorem in_strs (x : List Nat) (l : List (List Nat)) : isinD (.str x) (.lst (l.map D.str)) = some (decide (x ∈ l)) := by
  show (if _ then _ else _) = _
  rw [if_pos ⟨rfl, flats_strs l, by simp [D.dep]⟩]
  congr 1
  rw [List.any_map]
  induction l with
  | nil => rfl
  | cons a r ih =>
    rw [List.any_cons, ih]
    show (PyData.eqv (D.str a).toPy (D.str x).toPy || _) = _
    rw [eqv_str]
    by_cases h : a = x
    · subst h
      simp
    · have h' : ¬ x = a := fun q => h q.symm
      simp [h, h']
theorem ni_strs (x : List Nat) (l : List (List Nat)) : cmpD .notin (.str x) (.lst (l.map D.str)) = some (!decide (x ∈ l)) := by
  show (isinD _ _).map _ = _
  rw [in_strs]
  rfl
theorem strsOf_map : ∀ l : List (List Nat), strsOf (l.map D.str) = some l
  | [] => rfl
  | a :: r => by
    rw [List.map_cons, strsOf, strsOf_map r]
    rfl
theorem intsOf_map : ∀ l : List Int, intsOf (l.map D.int) = some l
  | [] => rfl
  | a :: r => by
    rw [List.map_cons, intsOf, intsOf_map r]
    rfl
theorem putIn_len {α : Type} (le : α → α → Bool) (x : α) : ∀ l : List α, (putIn le x l).length = l.length + 1
  | [] => rfl
  | y :: r => by
    rw [putIn]
    split
    · rfl
    · rw [List.length_cons, putIn_len le x r, List.length_cons]
theorem sortL_len {α : Type} (le : α → α → Bool) : ∀ l : List α, (sortL le l).length = l.length
  | [] => rfl
  | x :: r => by rw [sortL, putIn_len, sortL_len le r, List.length_cons]
theorem sort_strs {l : List (List Nat)} (h : l.length < 64) : ∃ s : List (List Nat), biD .sorted [.lst (l.map D.str)] = some (.lst (s.map D.str)) ∧ s.length = l.length := by
  cases l with
  | nil => exact ⟨[], rfl, rfl⟩
  | cons a r =>
    refine ⟨sortL leS (a :: r), ?_, sortL_len _ _⟩
    show (if _ then _ else _) = _
    rw [if_pos (by rw [List.length_map]; exact h), strsOf_map]
    rfl
theorem putIn_mem {α : Type} (le : α → α → Bool) (x y : α) : ∀ l : List α, y ∈ putIn le x l → y = x ∨ y ∈ l
  | [], h => by
    rw [putIn] at h
    exact .inl (by simpa using h)
  | z :: r, h => by
    rw [putIn] at h
    split at h
    · rcases List.mem_cons.mp h with h | h
      · exact .inl h
      · exact .inr h
    · rcases List.mem_cons.mp h with h | h
      · exact .inr (by rw [h]; exact List.mem_cons_self)
      · rcases putIn_mem le x y r h with h | h
        · exact .inl h
        · exact .inr (List.mem_cons_of_mem _ h)
theorem sortL_mem {α : Type} (le : α → α → Bool) (y : α) : ∀ l : List α, y ∈ sortL le l → y ∈ l
  | [], h => by cases h
  | x :: r, h => by
    rw [sortL] at h
    rcases putIn_mem le x y _ h with h | h
    · rw [h]; exact List.mem_cons_self
    · exact List.mem_cons_of_mem _ (sortL_mem le y r h)
theorem sort_strs2 {l : List (List Nat)} (h : l.length < 64) : biD .sorted [.lst (l.map D.str)] = some (.lst ((sortL leS l).map D.str)) := by
  cases l with
  | nil => rfl
  | cons a r =>
    show (if _ then _ else _) = _
    rw [if_pos (by rw [List.length_map]; exact h), strsOf_map]
    rfl
theorem endD_nat (l d n : Nat) : endD l d (some (n : Int)) = min n l := by
  show (if (n : Int) < 0 then ((n : Int) + (l : Int)).toNat else min ((n : Int)).toNat l) = _
  rw [if_neg (by omega), Int.toNat_natCast]
theorem endD_neg1 (l d : Nat) : endD l d (some (-1)) = l - 1 := by
  show (if (-1 : Int) < 0 then (-1 + (l : Int)).toNat else min ((-1 : Int)).toNat l) = _
  rw [if_pos (by decide)]
  omega
theorem sl_take (l : List Nat) (n : Nat) : slD (.str l) none (some (n : Int)) = some (.str (l.take n)) := by
  show some (D.str (cutL l 0 (endD l.length l.length (some (n : Int))))) = _
  rw [endD_nat]
  unfold cutL
  rw [List.drop_zero, Nat.sub_zero]
  congr 2
  by_cases h : n ≤ l.length
  · rw [Nat.min_eq_left h]
  · rw [Nat.min_eq_right (by omega), List.take_of_length_le (Nat.le_refl _), List.take_of_length_le (by omega)]
theorem sl_init (l : List Nat) : slD (.str l) none (some (-1)) = some (.str (l.take (l.length - 1))) := by
  show some (D.str (cutL l 0 (endD l.length l.length (some (-1))))) = _
  rw [endD_neg1]
  rfl
theorem str_n {i : Int} (h : 0 ≤ i) (h2 : i < 10 ^ 100) : biD .str [.int i] = some (.str (numS i.toNat)) := by
  show (if _ then _ else _) = _
  rw [if_pos ⟨h, h2⟩]
theorem rng_get {n j : Nat} {x : D} (h : (rngL 0 n)[j]? = some x) : x = .int j ∧ j < n := by
  unfold rngL at h
  rw [List.getElem?_map] at h
  have hj : j < n := by
    by_cases hj : j < n
    · exact hj
    · rw [List.getElem?_eq_none (by rw [List.length_range]; omega)] at h
      cases h
  rw [List.getElem?_eq_getElem (by rw [List.length_range]; exact hj), List.getElem_range] at h
  simp at h
  exact ⟨h.symm, hj⟩
theorem rng_mem {n : Nat} {x : D} (h : x ∈ rngL 0 n) : ∃ j : Nat, x = .int j ∧ j < n := by
  obtain ⟨j, hj⟩ := List.getElem?_of_mem h
  exact ⟨j, rng_get hj⟩
theorem rngL_len (lo : Int) (n : Nat) : (rngL lo n).length = n := by unfold rngL; simp
theorem rng1_ok {n : Int} (h0 : 0 ≤ n) (h : n ≤ 100000) : rng1D (.int n) = some (rngL 0 n.toNat) := by
  show (if _ then _ else _) = _
  rw [if_pos]
  unfold rngOk
  simp only [Bool.and_eq_true, decide_eq_true_eq]
  have : sizeD = 16777216 := rfl
  omega
theorem ss_cons {C : Cfg} {a : MP.St} {l : Sts} {ρ ρ1 : Env'} {m m1 : Mu} {r : Fl} (h : evS C a ρ m = .nxt ρ1 m1) (h2 : evSs C l ρ1 m1 = r) : evSs C (.cons a l) ρ m = r := by
  rw [evSs, h]
  exact h2
theorem ss_nil {C : Cfg} {ρ : Env'} {m : Mu} : evSs C .nil ρ m = .nxt ρ m := by rw [evSs]
theorem s_if {C : Cfg} {c : E} {a b : Sts} {ρ : Env'} {m m1 : Mu} {t : Bool} {r : Fl} (h : evT C c ρ m = .ok t m1) (h2 : evSs C (if t then a else b) ρ m1 = r) : evS C (.ifs c a b) ρ m = r := by
  rw [evS, h, Res.fl_ok]
  cases t <;> exact h2
theorem e_bin {C : Cfg} {o : BOp} {a b : E} {ρ : Env'} {m m1 m2 : Mu} {x y z : D} (h1 : evE C a ρ m = .ok x m1) (h2 : evE C b ρ m1 = .ok y m2) (h3 : binD o x y = some z) : evE C (.bin o a b) ρ m = .ok z m2 := by
  rw [evE, h1, Res.bind_ok, h2, Res.bind_ok, h3, Res.opt_some]
theorem e_bi {C : Cfg} {b : BI} {l : Es} {ρ : Env'} {m m1 : Mu} {ds : List D} {z : D} (h : evEs C l ρ m = .ok ds m1) (h2 : biD b ds = some z) : evE C (.bi b l) ρ m = .ok z m1 := by
  rw [evE, h, Res.bind_ok, h2, Res.opt_some]
theorem st_asg1 {C : Cfg} {i : Nat} {e : E} {ρ : Env'} {m m1 : Mu} {x : D} (h : evE C e ρ m = .ok x m1) : evS C (.asg (.one i) e) ρ m = .nxt (ρ.set i (some x)) m1 := by
  rw [evS, h, Res.fl_ok]
  rfl
theorem ss_end {C : Cfg} {a : MP.St} {l : Sts} {ρ : Env'} {m m1 : Mu} {d : D} (h : evS C a ρ m = .ret d m1) : evSs C (.cons a l) ρ m = .ret d m1 := by
  rw [evSs, h]
theorem st_ret {C : Cfg} {e : E} {ρ : Env'} {m m1 : Mu} {x : D} (h : evE C e ρ m = .ok x m1) : evS C (.ret e) ρ m = .ret x m1 := by
  rw [evS, h, Res.fl_ok]
theorem st_whl {C : Cfg} {c : E} {b : Sts} {ρ : Env'} {m : Mu} {r : Fl} (h : whileGo (fun ρ m => evT C c ρ m) (fun ρ m => evSs C b ρ m) 100000 ρ m = r) : evS C (.whl c b) ρ m = r := by
  rw [evS]
  exact h
theorem st_for {C : Cfg} {tg : Tgt} {it : I} {b : Sts} {ρ : Env'} {m m1 : Mu} {xs : List D} {r : Fl} (hi : evI C it ρ m = .ok xs m1) (h : forGo tg (fun ρ m => evSs C b ρ m) xs ρ m1 = r) : evS C (.fors tg it b) ρ m = r := by
  rw [evS, hi, Res.fl_ok]
  exact h
theorem e_idx {C : Cfg} {a b : E} {ρ : Env'} {m m1 m2 : Mu} {x y z : D} (h1 : evE C a ρ m = .ok x m1) (h2 : evE C b ρ m1 = .ok y m2) (h3 : idxD x y = some z) : evE C (.idx a b) ρ m = .ok z m2 := by
  rw [evE, h1, Res.bind_ok, h2, Res.bind_ok, h3, Res.opt_some]
theorem fil_map (p : D → Bool) (g : D → D) : ∀ xs : List D, xs.filterMap (fun x => if p x then some (g x) else none) = (xs.filter p).map g
  | [] => rfl
  | y :: r => by
    rw [List.filterMap_cons, List.filter_cons, fil_map p g r]
    cases p y <;> rfl
theorem comp_fil {C : Cfg} {tg : Tgt} {it : I} {c : OE} {e : E} {ρ : Env'} {xs : List D} (p : D → Bool) (g : D → D) (h : evI C it ρ [] = .ok xs [])
    (h2 : ∀ x ∈ xs, ∃ ρ', bindT tg x (wipeE ρ tg.slots) = some ρ' ∧ evK C c ρ' [] = .ok (p x) [] ∧ evE C e ρ' [] = .ok (g x) []) : evE C (.comp tg it c e) ρ [] = .ok (.lst ((xs.filter p).map g)) [] := by
  rw [evE, h, Res.bind_ok]
  rw [turns_ok (g := fun x => if p x then some (g x) else none) xs fun x hx => ?_]
  · rw [Res.calm_ok, Res.bind_ok]
    rw [fil_map]
  · obtain ⟨ρ', e1, e2, e3⟩ := h2 x hx
    rw [e1]
    show (evK C c ρ' []).bind _ = _
    rw [e2, Res.bind_ok]
    cases p x with
    | true => rw [if_pos rfl, e3, Res.bind_ok, if_pos rfl]
    | false => rw [if_neg Bool.false_ne_true, if_neg Bool.false_ne_true]
theorem comp_all {C : Cfg} {tg : Tgt} {it : I} {e : E} {ρ : Env'} {xs : List D} (P : D → Prop) (h : evI C it ρ [] = .ok xs [])
    (h2 : ∀ x ∈ xs, ∃ ρ', bindT tg x (wipeE ρ tg.slots) = some ρ' ∧ ∃ y, evE C e ρ' [] = .ok y [] ∧ P y) : ∃ ys, evE C (.comp tg it .no e) ρ [] = .ok (.lst ys) [] ∧ ys.length = xs.length ∧ ∀ y ∈ ys, P y := by
  obtain ⟨ys, e1, h3, h4⟩ := turns_all (f := fun x m2 => match bindT tg x (wipeE ρ tg.slots) with
    | some ρ' => (evK C .no ρ' m2).bind fun t m3 => if t = true then (evE C e ρ' m3).bind fun y m4 => Res.ok (some y) m4 else Res.ok none m3
    | none => Res.stuck) (P := P) xs fun x hx => by
      obtain ⟨ρ', e1, y, e2, p⟩ := h2 x hx
      refine ⟨y, ?_, p⟩
      rw [e1]
      show (evK C .no ρ' []).bind _ = _
      rw [evK, Res.bind_ok, if_pos rfl, e2, Res.bind_ok]
  refine ⟨ys, ?_, h3, h4⟩
  rw [evE, h, Res.bind_ok]
  exact Eq.trans (congrArg (fun r : Res (List D) => r.calm.bind fun ys m5 => Res.ok (D.lst ys) m5) e1) rfl
theorem call_eq {T : Nat → Option Fn} {sub : Nat → Nat → Option Bool} {n k : Nat} {ds : List D} {m : Mu} {f : Fn} {r : Fl} (h : T k = some f) (hl : ds.length = f.par) (e : evSs ⟨callF T sub n, sub⟩ f.body (ds.map some ++ List.replicate (f.slots - f.par) none) m = r) : callF T sub (n + 1) k ds m = r.res := by
  rw [callF, h]
  show (if ds.length = f.par then _ else _) = _
  rw [if_pos hl, e]
theorem call_ret {T : Nat → Option Fn} {sub : Nat → Nat → Option Bool} {n k : Nat} {ds : List D} {m m' : Mu} {f : Fn} {d : D} (h : T k = some f) (hl : ds.length = f.par) (e : evSs ⟨callF T sub n, sub⟩ f.body (ds.map some ++ List.replicate (f.slots - f.par) none) m = .ret d m') : callF T sub (n + 1) k ds m = .ok d m' := call_eq h hl e
theorem pair_all {l : List D} (h : ∀ y ∈ l, ∃ a b : Int, y = .tup [.int a, .int b]) : ∃ ks : List (Int × Int), l = ks.map fun p => .tup [.int p.1, .int p.2] := by
  induction l with
  | nil => exact ⟨[], rfl⟩
  | cons y r ih =>
    obtain ⟨a, b, e⟩ := h y List.mem_cons_self
    obtain ⟨ks, e2⟩ := ih fun z hz => h z (List.mem_cons_of_mem _ hz)
    exact ⟨(a, b) :: ks, by rw [e, e2]; rfl⟩
theorem strs_all {P : List Nat → Prop} {l : List D} (h : ∀ y ∈ l, ∃ s, y = .str s ∧ P s) : ∃ ks : List (List Nat), l = ks.map D.str ∧ ∀ s ∈ ks, P s := by
  induction l with
  | nil => exact ⟨[], rfl, fun _ h => by cases h⟩
  | cons y r ih =>
    obtain ⟨a, e, p⟩ := h y List.mem_cons_self
    obtain ⟨ks, e2, q⟩ := ih fun z hz => h z (List.mem_cons_of_mem _ hz)
    refine ⟨a :: ks, by rw [e, e2]; rfl, fun s hs => ?_⟩
    rcases List.mem_cons.mp hs with hs | hs
    · rw [hs]; exact p
    · exact q s hs
end MP

set_option maxRecDepth 100000
set_option maxHeartbeats 8000000
set_option autoImplicit false
namespace MP
open PySem L2

/-! ### code and branch, as k31, k32, k33 have them: kc the cell's number, kt the code's -/
def codeL : Sts := (.cons (.asg (.one 2) (.bin .add (.var 2) (.idx (.var 1) (.bin .mod (.bin .fdiv (.var 3) (.var 5)) (.var 4))))) (.cons (.asg (.one 5) (.bin .mul (.var 5) (.lit (.int 8)))) .nil))
def codeB : Sts :=
  (.cons (.asg (.one 1) (.lit (.str [97, 98, 65, 46, 48, 126, 32, 55])))
  (.cons (.asg (.one 2) (.idx (.lst (.cons (.lit (.str [])) (.cons (.lit (.str [97])) (.cons (.lit (.str [97, 98])) (.cons (.lit (.str [65, 55, 116])) (.cons (.bin .mul (.lit (.str [97])) (.bin .mod (.bin .fdiv (.var 0) (.lit (.int 7))) (.lit (.int 40)))) (.cons (.bin .mul (.lit (.str [107])) (.bin .mod (.bin .fdiv (.var 0) (.lit (.int 7))) (.lit (.int 93)))) .nil))))))) (.bin .mod (.bin .mod (.var 0) (.lit (.int 7))) (.lit (.int 6)))))
  (.cons (.asg (.one 3) (.bin .fdiv (.var 0) (.lit (.int 300))))
  (.cons (.asg (.one 4) (.idx (.lst (.cons (.lit (.int 2)) (.cons (.lit (.int 8)) .nil))) (.bin .mod (.bin .fdiv (.var 3) (.lit (.int 11))) (.lit (.int 2)))))
  (.cons (.asg (.one 5) (.lit (.int 16)))
  (.cons (.fors (.one 6) (.rng1 (.bin .mod (.var 3) (.idx (.lst (.cons (.lit (.int 3)) (.cons (.lit (.int 8)) .nil))) (.bin .mod (.bin .fdiv (.var 3) (.lit (.int 8))) (.lit (.int 2)))))) codeL)
  (.cons (.ret (.var 2))
  .nil)))))))
def brC : E := (.cmp .lt (.bi .len (.cons (.var 3) .nil)) (.bin .sub (.var 2) (.lit (.int 1))))
def brL (kc kt : Nat) : Sts := (.cons (.asg (.one 6) (.call kt (.cons (.call kc (.cons (.var 0) (.cons (.bin .add (.var 1) (.var 4)) .nil))) .nil))) (.cons (.ifs (.cmp .gt (.var 4) (.lit (.int 39))) (.cons (.asg (.one 6) (.bin .add (.sl (.var 6) .no (.yes (.lit (.int 96)))) (.bi .str (.cons (.bin .fdiv (.var 4) (.lit (.int 40))) .nil)))) .nil) .nil) (.cons (.ifs (.cmp .notin (.var 6) (.var 3)) (.cons (.app 3 (.var 6)) .nil) .nil) (.cons (.asg (.one 4) (.bin .add (.var 4) (.lit (.int 1)))) .nil))))
def brE (kc : Nat) : E := (.tup (.cons (.bin .mod (.call kc (.cons (.var 0) (.cons (.bin .add (.bin .add (.var 1) (.lit (.int 500))) (.var 4)) .nil))) (.lit (.int 1000))) (.cons (.bin .mod (.call kc (.cons (.var 0) (.cons (.bin .add (.bin .add (.var 1) (.lit (.int 600))) (.var 4)) .nil))) (.bin .pow (.lit (.int 10)) (.lit (.int 9)))) .nil)))
def brB (kc kt : Nat) : Sts :=
  (.cons (.own 3 (.lst .nil))
  (.cons (.asg (.one 4) (.lit (.int 0)))
  (.cons (.whl brC (brL kc kt))
  (.cons (.asg (.one 5) (.comp (.one 4) (.rng1 (.var 2)) .no (brE kc)))
  (.cons (.ret (.tup (.cons (.lit (.str [98, 114, 97, 110, 99, 104])) (.cons (.bi .tuple (.cons (.bi .sorted (.cons (.var 3) .nil)) .nil)) (.cons (.bi .tuple (.cons (.var 5) .nil)) .nil)))))
  .nil)))))
/-! ### the code of a cell -/
def bad (x : Nat) : Prop := (49 ≤ x ∧ x ≤ 54) ∨ x = 56 ∨ x = 57
theorem rep_len (n : Nat) (c : Nat) : ((List.replicate n [c]).flatten).length = n := by simp
theorem rep_mem {n c x : Nat} (h : x ∈ (List.replicate n [c]).flatten) : x = c := by
  simp at h
  exact h.2
theorem code_ok (cfg : Cfg) (c : Int) (h : 0 ≤ c) : ∃ s : List Nat, evSs cfg codeB [some (.int c), none, none, none, none, none, none] [] = .ret (.str s) [] ∧ s.length ≤ 101 ∧ ∀ x ∈ s, ¬ bad x := by
  have hA : (0 : Int) ≤ c / 7 % 40 ∧ c / 7 % 40 < 40 := ⟨Int.emod_nonneg _ (by decide), Int.emod_lt_of_pos _ (by decide)⟩
  have hB : (0 : Int) ≤ c / 7 % 93 ∧ c / 7 % 93 < 93 := ⟨Int.emod_nonneg _ (by decide), Int.emod_lt_of_pos _ (by decide)⟩
  have hC : (0 : Int) ≤ c % 7 % 6 ∧ c % 7 % 6 < 6 := ⟨Int.emod_nonneg _ (by decide), Int.emod_lt_of_pos _ (by decide)⟩
  have d7 : ∀ i : Int, binD .fdiv (.int i) (.int 7) = some (.int (i / 7)) := fun i => b_div (by decide) (by decide)
  have d300 : ∀ i : Int, binD .fdiv (.int i) (.int 300) = some (.int (i / 300)) := fun i => b_div (by decide) (by decide)
  have d11 : ∀ i : Int, binD .fdiv (.int i) (.int 11) = some (.int (i / 11)) := fun i => b_div (by decide) (by decide)
  have d8 : ∀ i : Int, binD .fdiv (.int i) (.int 8) = some (.int (i / 8)) := fun i => b_div (by decide) (by decide)
  have m7 : ∀ i : Int, binD .mod (.int i) (.int 7) = some (.int (i % 7)) := fun i => b_mod (by decide)
  have m6 : ∀ i : Int, binD .mod (.int i) (.int 6) = some (.int (i % 6)) := fun i => b_mod (by decide)
  have m40 : ∀ i : Int, binD .mod (.int i) (.int 40) = some (.int (i % 40)) := fun i => b_mod (by decide)
  have m93 : ∀ i : Int, binD .mod (.int i) (.int 93) = some (.int (i % 93)) := fun i => b_mod (by decide)
  have m2 : ∀ i : Int, binD .mod (.int i) (.int 2) = some (.int (i % 2)) := fun i => b_mod (by decide)
  have u1 : binD .mul (.str [97]) (.int (c / 7 % 40)) = some (.str ((List.replicate (c / 7 % 40).toNat [97]).flatten)) := b_mulS hA.1 (by omega) (by rw [List.length_singleton]; omega)
  have u2 : binD .mul (.str [107]) (.int (c / 7 % 93)) = some (.str ((List.replicate (c / 7 % 93).toNat [107]).flatten)) := b_mulS hB.1 (by omega) (by rw [List.length_singleton]; omega)
  obtain ⟨s0, hs0, e0⟩ := i_strs (l := [[], [97], [97, 98], [65, 55, 116], (List.replicate (c / 7 % 40).toNat [97]).flatten, (List.replicate (c / 7 % 93).toNat [107]).flatten]) (i := c % 7 % 6) hC.1 (by show _ < 6; omega)
  have e0' : idxD (.lst [.str [], .str [97], .str [97, 98], .str [65, 55, 116], .str ((List.replicate (c / 7 % 40).toNat [97]).flatten), .str ((List.replicate (c / 7 % 93).toNat [107]).flatten)]) (.int (c % 7 % 6)) = some (.str s0) := e0
  have hs : s0.length ≤ 93 ∧ ∀ x ∈ s0, ¬ bad x := by
    simp only [List.mem_cons, List.not_mem_nil, or_false] at hs0
    rcases hs0 with rfl | rfl | rfl | rfl | rfl | rfl
    · exact ⟨by decide, fun x hx => by cases hx⟩
    · exact ⟨by decide, fun x hx => by simp at hx; subst hx; unfold bad; omega⟩
    · exact ⟨by decide, fun x hx => by simp at hx; unfold bad; omega⟩
    · exact ⟨by decide, fun x hx => by simp at hx; unfold bad; omega⟩
    · exact ⟨by rw [rep_len]; omega, fun x hx => by have := rep_mem hx; unfold bad; omega⟩
    · exact ⟨by rw [rep_len]; omega, fun x hx => by have := rep_mem hx; unfold bad; omega⟩
  have q0 : (0 : Int) ≤ c / 300 := Int.ediv_nonneg h (by decide)
  obtain ⟨kd, hkd, e1⟩ := i_ints (l := [2, 8]) (i := c / 300 / 11 % 2) (Int.emod_nonneg _ (by decide)) (by have := Int.emod_nonneg (c / 300 / 11) (show (2 : Int) ≠ 0 by decide); have := Int.emod_lt_of_pos (c / 300 / 11) (show (0 : Int) < 2 by decide); show _ < 2; omega)
  have e1' : idxD (.lst [.int 2, .int 8]) (.int (c / 300 / 11 % 2)) = some (.int kd) := e1
  have hk : kd = 2 ∨ kd = 8 := by simpa using hkd
  obtain ⟨nd, hnd, e2⟩ := i_ints (l := [3, 8]) (i := c / 300 / 8 % 2) (Int.emod_nonneg _ (by decide)) (by have := Int.emod_nonneg (c / 300 / 8) (show (2 : Int) ≠ 0 by decide); have := Int.emod_lt_of_pos (c / 300 / 8) (show (0 : Int) < 2 by decide); show _ < 2; omega)
  have e2' : idxD (.lst [.int 3, .int 8]) (.int (c / 300 / 8 % 2)) = some (.int nd) := e2
  have hn : nd = 3 ∨ nd = 8 := by simpa using hnd
  have hnp : (0 : Int) < nd := by omega
  have r0 := Int.emod_nonneg (c / 300) (show nd ≠ 0 by omega)
  have r1 := Int.emod_lt_of_pos (c / 300) hnp
  have er : rng1D (.int (c / 300 % nd)) = some (rngL 0 (c / 300 % nd).toNat) := rng1_ok r0 (by omega)
  simp only [codeB, evSs, evS, evE, evEs, evK, evP, evI, evT, Res.bind_ok, Res.fl_ok, Res.opt_some, Res.calm_ok, bindT, List.set_cons_zero, List.set_cons_succ, List.getElem?_cons_zero, List.getElem?_cons_succ, b_add, b_sub, Option.map_some, t_bl, len_l, len_t, len_s, c_lt, c_le, c_gt, c_ge, c_eqI, c_eqS, d7, d300, d11, d8, m7, m6, m40, m93, m2, u1, u2, e0', e1', e2', b_mod hnp, er]
  obtain ⟨ρ', e3, s, w, k6, e4, hlen, hch⟩ := for_ind (tg := .one 6) (b := fun ρ m => evSs cfg codeL ρ m) (xs := rngL 0 (c / 300 % nd).toNat) (ρ := [some (.int c), some (.str [97, 98, 65, 46, 48, 126, 32, 55]), some (.str s0), some (.int (c / 300)), some (.int kd), some (.int 16), none])
    (fun j ρ => ∃ (s : List Nat) (w : Int) (k6 : Option D), ρ = [some (.int c), some (.str [97, 98, 65, 46, 48, 126, 32, 55]), some (.str s), some (.int (c / 300)), some (.int kd), some (.int (16 * 8 ^ j)), k6] ∧ s.length ≤ 93 + j ∧ ∀ x ∈ s, ¬ bad x)
    ⟨s0, 16, none, rfl, hs.1, hs.2⟩ (fun j x ρ hj ⟨s, w, k6, e, hl, hc⟩ => by
      obtain ⟨ex, hjn⟩ := rng_get hj
      subst e ex
      have hj8 : j < 8 := by omega
      have hw : (0 : Int) < 16 * 8 ^ j ∧ ((16 : Int) * 8 ^ j).natAbs < 2 ^ 200 := by
        have : j = 0 ∨ j = 1 ∨ j = 2 ∨ j = 3 ∨ j = 4 ∨ j = 5 ∨ j = 6 ∨ j = 7 := by omega
        rcases this with rfl | rfl | rfl | rfl | rfl | rfl | rfl | rfl <;> decide
      have hkp : (0 : Int) < kd := by omega
      have t0 := Int.emod_nonneg (c / 300 / (16 * 8 ^ j)) (show kd ≠ 0 by omega)
      have t1 := Int.emod_lt_of_pos (c / 300 / (16 * 8 ^ j)) hkp
      obtain ⟨y, hy, e3⟩ := i_chr (l := [97, 98, 65, 46, 48, 126, 32, 55]) (i := c / 300 / (16 * 8 ^ j) % kd) t0 (by show _ < 8; omega)
      simp only [codeL, evSs, evS, evE, evEs, evK, evP, evI, evT, Res.bind_ok, Res.fl_ok, Res.opt_some, Res.calm_ok, bindT, List.set_cons_zero, List.set_cons_succ, List.getElem?_cons_zero, List.getElem?_cons_succ, b_add, b_sub, Option.map_some, t_bl, len_l, len_t, len_s, c_lt, c_le, c_gt, c_ge, c_eqI, c_eqS, Option.some.injEq, Fl.nxt.injEq, and_true, exists_eq_left', b_div hw.1 hw.2, b_mod hkp, e3, b_addS (show s.length + [y].length ≤ sizeD by rw [List.length_singleton]; have : sizeD = 16777216 := rfl; omega), b_mul (show (8 : Int).natAbs < 2 ^ 64 by decide)]
      refine ⟨s ++ [y], 0, _, by rw [Int.pow_succ, Int.mul_assoc], by rw [List.length_append, List.length_singleton]; omega, fun x hx => ?_⟩
      rcases List.mem_append.mp hx with hx | hx
      · exact hc x hx
      · simp at hx hy
        unfold bad
        omega)
  rw [e3]
  subst e4
  refine ⟨s, by simp only [evSs, evS, evE, evEs, evK, evP, evI, evT, Res.bind_ok, Res.fl_ok, Res.opt_some, Res.calm_ok, bindT, List.set_cons_zero, List.set_cons_succ, List.getElem?_cons_zero, List.getElem?_cons_succ, b_add, b_sub, Option.map_some, t_bl, len_l, len_t, len_s, c_lt, c_le, c_gt, c_ge, c_eqI, c_eqS], ?_, hch⟩
  rw [rngL_len] at hlen
  omega
def txt (T : Int → List Nat) (ns : List Int) (k : Nat) (j : Nat) : List Nat := if 39 < j then (T (cellV ns ((k : Int) + (j : Int)))).take 96 ++ numS (j / 40) else T (cellV ns ((k : Int) + (j : Int)))
def badB (x : Nat) : Bool := decide (49 ≤ x ∧ x ≤ 54) || decide (x = 56 ∨ x = 57)
theorem bad_no {x : Nat} (h : ¬ bad x) : badB x = false := by
  unfold badB
  rw [decide_eq_false (fun q => h (.inl q)), decide_eq_false (fun q => h (.inr q))]
  rfl
/-- the figures at the end -/
def fin (s : List Nat) : List Nat := s.reverse.takeWhile badB
theorem tw_app : ∀ (a b : List Nat), (∀ x ∈ b, badB x = false) → (a ++ b).takeWhile badB = a.takeWhile badB
  | [], [], _ => rfl
  | [], x :: b, h => by
    rw [List.nil_append, List.takeWhile_cons, h x List.mem_cons_self]
    rfl
  | x :: a, b, h => by
    rw [List.cons_append, List.takeWhile_cons, List.takeWhile_cons, tw_app a b h]
theorem fin_app (s t : List Nat) (h : ∀ x ∈ s, ¬ bad x) : fin (s ++ t) = fin t := by
  unfold fin
  rw [List.reverse_append]
  exact tw_app _ _ fun x hx => bad_no (h x (List.mem_reverse.mp hx))
theorem fin_no (s : List Nat) (h : ∀ x ∈ s, ¬ bad x) : fin s = [] := by
  have := fin_app s [] h
  rw [List.append_nil] at this
  exact this
def psi (b : Nat) : List Nat := if b = 0 then [] else fin (numS b)
def bl : List Nat := [1, 2, 3, 4, 5, 6, 8, 9, 11, 12, 13, 14, 15, 16, 18, 19, 21, 22, 23, 24, 25, 26, 28, 29]
theorem psi_ne : (bl.all fun b => (List.range b).all fun b' => decide (psi b' ≠ psi b)) = true := by decide +kernel
def cnt (j : Nat) : Nat := bl.countP fun b => decide (40 * b < j)
theorem cnt_step : ((List.range 1200).all fun j => decide (cnt (j + 1) ≤ cnt j + (if j % 40 = 0 ∧ j / 40 ∈ bl then 1 else 0))) = true := by decide +kernel
theorem cnt_end : cnt 1200 = 24 := by decide +kernel
theorem num_len : ((List.range 30).all fun b => decide ((numS b).length ≤ 2)) = true := by decide +kernel
structure CT (T : Int → List Nat) : Prop where
  len : ∀ c : Int, 0 ≤ c → (T c).length ≤ 101
  no : ∀ c : Int, 0 ≤ c → ∀ x ∈ T c, ¬ bad x
section
variable {T : Int → List Nat} (ct : CT T) (ns : List Int) (k : Nat)
include ct
theorem txt_fin  (j : Nat) : fin (txt T ns k j) = psi (j / 40) := by
  have hc := ct.no _ (cellV_lo ns ((k : Int) + (j : Int)))
  unfold txt
  by_cases hj : 39 < j
  · rw [if_pos hj, fin_app _ _ fun x hx => hc x (List.mem_of_mem_take hx)]
    unfold psi
    rw [if_neg (by omega)]
  · rw [if_neg hj, fin_no _ hc]
    unfold psi
    rw [if_pos (by omega)]
theorem txt_new  {j i : Nat} (hb : j % 40 = 0 ∧ j / 40 ∈ bl) (hi : i < j) : txt T ns k i ≠ txt T ns k j := fun e => by
  have h1 := txt_fin ct ns k i
  rw [e, txt_fin ct ns k j] at h1
  have h2 := List.all_eq_true.mp psi_ne _ hb.2
  have h3 := List.all_eq_true.mp h2 (i / 40) (List.mem_range.mpr (by omega))
  exact of_decide_eq_true h3 h1.symm
theorem txt_len  {j : Nat} (h : j < 1200) : (txt T ns k j).length ≤ 105 := by
  have hc := ct.len _ (cellV_lo ns ((k : Int) + (j : Int)))
  unfold txt
  split
  · have := List.all_eq_true.mp num_len (j / 40) (List.mem_range.mpr (by omega))
    have := of_decide_eq_true this
    rw [List.length_append, List.length_take]
    omega
  · omega
end
theorem str_j (j : Nat) (h : j ≤ 1200) : biD .str [.int ((j : Int) / 40)] = some (.str (numS (j / 40))) := str_n (by omega) (Int.lt_of_lt_of_le (b := 1000) (by omega) (by decide))
theorem turn_gen (cf : Cfg) (kc kt k : Nat) (scr : D) (cv : Int) (s t : List Nat) {many : Int} {j : Nat} (hj8 : j < 1200) (ecell : cf.call kc [scr, .int ((k : Int) + (j : Int))] [] = .ok (.int cv) []) (ecode : cf.call kt [.int cv] [] = .ok (.str s) []) (ht : t = if 39 < j then s.take 96 ++ numS (j / 40) else s)
    {ms : List (List Nat)} (hm : ms.length ≤ 24) (v6 : Option D) :
    evSs cf (brL kc kt) [some scr, some (.int k), some (.int many), some (.lst (ms.map D.str)), some (.int j), none, v6] [] =
      .nxt [some scr, some (.int k), some (.int many), some (.lst ((if t ∈ ms then ms else ms ++ [t]).map D.str)), some (.int ((j : Int) + 1)), none, some (.str t)] [] := by
  have s1 : evS cf (.asg (.one 6) (.call kt (.cons (.call kc (.cons (.var 0) (.cons (.bin .add (.var 1) (.var 4)) .nil))) .nil))) [some scr, some (.int k), some (.int many), some (.lst (ms.map D.str)), some (.int j), none, v6] [] = .nxt [some scr, some (.int k), some (.int many), some (.lst (ms.map D.str)), some (.int j), none, some (.str s)] [] := by
    simp only [evSs, evS, evE, evEs, evK, evP, evI, evT, Res.bind_ok, Res.fl_ok, Res.opt_some, Res.calm_ok, bindT, List.set_cons_zero, List.set_cons_succ, List.getElem?_cons_zero, List.getElem?_cons_succ, b_add, b_sub, Option.map_some, t_bl, len_l, len_t, len_s, c_lt, c_le, c_gt, c_ge, c_eqI, c_eqS, ecell, ecode]
  have s2 : evS cf (.ifs (.cmp .gt (.var 4) (.lit (.int 39))) (.cons (.asg (.one 6) (.bin .add (.sl (.var 6) .no (.yes (.lit (.int 96)))) (.bi .str (.cons (.bin .fdiv (.var 4) (.lit (.int 40))) .nil)))) .nil) .nil) [some scr, some (.int k), some (.int many), some (.lst (ms.map D.str)), some (.int j), none, some (.str s)] [] = .nxt [some scr, some (.int k), some (.int many), some (.lst (ms.map D.str)), some (.int j), none, some (.str t)] [] := by
    have hc : evT cf (.cmp .gt (.var 4) (.lit (.int 39))) [some scr, some (.int k), some (.int many), some (.lst (ms.map D.str)), some (.int j), none, some (.str s)] [] = .ok (decide ((39 : Int) < (j : Int))) [] := by simp only [evSs, evS, evE, evEs, evK, evP, evI, evT, Res.bind_ok, Res.fl_ok, Res.opt_some, Res.calm_ok, bindT, List.set_cons_zero, List.set_cons_succ, List.getElem?_cons_zero, List.getElem?_cons_succ, b_add, b_sub, Option.map_some, t_bl, len_l, len_t, len_s, c_lt, c_le, c_gt, c_ge, c_eqI, c_eqS]
    refine s_if hc ?_
    by_cases h39 : 39 < j
    · have hn : (39 : Int) < (j : Int) := by omega
      have estr := str_j j (by omega)
      have d40 : ∀ i : Int, binD .fdiv (.int i) (.int 40) = some (.int (i / 40)) := fun i => b_div (by decide) (by decide)
      rw [if_pos h39] at ht
      have eadd : binD .add (.str (s.take 96)) (.str (numS (j / 40))) = some (.str t) := by
        rw [ht]
        refine b_addS ?_
        have := of_decide_eq_true (List.all_eq_true.mp num_len (j / 40) (List.mem_range.mpr (by omega)))
        rw [List.length_take]
        exact Nat.le_trans (by omega) szD
      have esl : slD (.str s) none (some 96) = some (.str (s.take 96)) := sl_take _ 96
      rw [decide_eq_true hn, if_pos rfl]
      refine ss_cons (ρ1 := [some scr, some (.int k), some (.int many), some (.lst (ms.map D.str)), some (.int j), none, some (.str t)]) (m1 := []) ?_ ss_nil
      exact st_asg1 (e_bin (x := .str (s.take 96)) (m1 := []) (by simp only [evSs, evS, evE, evEs, evK, evP, evI, evT, Res.bind_ok, Res.fl_ok, Res.opt_some, Res.calm_ok, bindT, List.set_cons_zero, List.set_cons_succ, List.getElem?_cons_zero, List.getElem?_cons_succ, b_add, b_sub, Option.map_some, t_bl, len_l, len_t, len_s, c_lt, c_le, c_gt, c_ge, c_eqI, c_eqS, esl]) (e_bi (ds := [.int ((j : Int) / 40)]) (m1 := []) (by simp only [evSs, evS, evE, evEs, evK, evP, evI, evT, Res.bind_ok, Res.fl_ok, Res.opt_some, Res.calm_ok, bindT, List.set_cons_zero, List.set_cons_succ, List.getElem?_cons_zero, List.getElem?_cons_succ, b_add, b_sub, Option.map_some, t_bl, len_l, len_t, len_s, c_lt, c_le, c_gt, c_ge, c_eqI, c_eqS, d40]) estr) eadd)
    · have hn : ¬ (39 : Int) < (j : Int) := by omega
      rw [if_neg h39] at ht
      subst ht
      rw [decide_eq_false hn, if_neg Bool.false_ne_true]
      exact ss_nil
  have s3 : evS cf (.ifs (.cmp .notin (.var 6) (.var 3)) (.cons (.app 3 (.var 6)) .nil) .nil) [some scr, some (.int k), some (.int many), some (.lst (ms.map D.str)), some (.int j), none, some (.str t)] [] = .nxt [some scr, some (.int k), some (.int many), some (.lst ((if t ∈ ms then ms else ms ++ [t]).map D.str)), some (.int j), none, some (.str t)] [] := by
    have hc : evT cf (.cmp .notin (.var 6) (.var 3)) [some scr, some (.int k), some (.int many), some (.lst (ms.map D.str)), some (.int j), none, some (.str t)] [] = .ok (!decide (t ∈ ms)) [] := by simp only [evSs, evS, evE, evEs, evK, evP, evI, evT, Res.bind_ok, Res.fl_ok, Res.opt_some, Res.calm_ok, bindT, List.set_cons_zero, List.set_cons_succ, List.getElem?_cons_zero, List.getElem?_cons_succ, b_add, b_sub, Option.map_some, t_bl, len_l, len_t, len_s, c_lt, c_le, c_gt, c_ge, c_eqI, c_eqS, ni_strs]
    refine s_if hc ?_
    by_cases hin : t ∈ ms
    · rw [decide_eq_true hin, Bool.not_true, if_neg Bool.false_ne_true, if_pos hin]
      exact ss_nil
    · rw [decide_eq_false hin, Bool.not_false, if_pos rfl, if_neg hin]
      have hsz : (ms.map D.str).length < sizeD := by rw [List.length_map]; exact Nat.lt_of_lt_of_le (by omega) szD
      refine ss_cons (m1 := []) ?_ ss_nil
      simp only [evSs, evS, evE, evEs, evK, evP, evI, evT, Res.bind_ok, Res.fl_ok, Res.opt_some, Res.calm_ok, bindT, List.set_cons_zero, List.set_cons_succ, List.getElem?_cons_zero, List.getElem?_cons_succ, b_add, b_sub, Option.map_some, t_bl, len_l, len_t, len_s, c_lt, c_le, c_gt, c_ge, c_eqI, c_eqS, if_pos hsz, List.map_append, List.map_cons, List.map_nil]
  have s4 : evS cf (.asg (.one 4) (.bin .add (.var 4) (.lit (.int 1)))) [some scr, some (.int k), some (.int many), some (.lst ((if t ∈ ms then ms else ms ++ [t]).map D.str)), some (.int j), none, some (.str t)] [] = .nxt [some scr, some (.int k), some (.int many), some (.lst ((if t ∈ ms then ms else ms ++ [t]).map D.str)), some (.int ((j : Int) + 1)), none, some (.str t)] [] := by
    simp only [evSs, evS, evE, evEs, evK, evP, evI, evT, Res.bind_ok, Res.fl_ok, Res.opt_some, Res.calm_ok, bindT, List.set_cons_zero, List.set_cons_succ, List.getElem?_cons_zero, List.getElem?_cons_succ, b_add, b_sub, Option.map_some, t_bl, len_l, len_t, len_s, c_lt, c_le, c_gt, c_ge, c_eqI, c_eqS]
  exact ss_cons s1 (ss_cons s2 (ss_cons s3 (ss_cons s4 ss_nil)))
theorem branch_ok (cf : Cfg) (kc kt k : Nat) {T : Int → List Nat} (ct : CT T) (hk : k ≤ 10 ^ 8) {ns : List Int} (cc : ∀ {k : Int}, 0 ≤ k → k ≤ 10 ^ 9 → cf.call kc [.lst (ns.map D.int), .int k] [] = .ok (.int (cellV ns k)) []) (cd : ∀ c : Int, 0 ≤ c → cf.call kt [.int c] [] = .ok (.str (T c)) [])
    {many : Int} (h1 : 1 ≤ many) (h2 : many ≤ 25) : ∃ (ms : List (List Nat)) (ks : List (Int × Int)),
    evSs cf (brB kc kt) [some (.lst (ns.map D.int)), some (.int k), some (.int many), none, none, none, none] [] = .ret (.tup [.str [98, 114, 97, 110, 99, 104], .tup (ms.map D.str), .tup (ks.map fun p => D.tup [.int p.1, .int p.2])]) [] ∧ (ms.length : Int) = many - 1 ∧ (∀ s ∈ ms, s.length ≤ 105) ∧ (ks.length : Int) = many := by
  have d40 : ∀ i : Int, binD .fdiv (.int i) (.int 40) = some (.int (i / 40)) := fun i => b_div (by decide) (by decide)
  -- the loop
  obtain ⟨ρ', e1, ms, j, v5, v6, e2, hms, hlen⟩ := while_ind (c := fun ρ m => evT cf brC ρ m) (b := fun ρ m => evSs cf (brL kc kt) ρ m)
    (fun r ρ => ∃ (j : Nat) (ms : List (List Nat)) (v6 : Option D), ρ = [some (.lst (ns.map D.int)), some (.int k), some (.int many), some (.lst (ms.map D.str)), some (.int j), none, v6] ∧ j ≤ 1200 ∧ r = 1200 - j ∧ cnt j ≤ ms.length ∧ (ms.length : Int) ≤ many - 1 ∧ ∀ t ∈ ms, ∃ i, i < j ∧ t = txt T ns k i)
    (fun ρ => ∃ (ms : List (List Nat)) (j : Nat) (v5 v6 : Option D), ρ = [some (.lst (ns.map D.int)), some (.int k), some (.int many), some (.lst (ms.map D.str)), some (.int j), none, v6] ∧ (ms.length : Int) = many - 1 ∧ ∀ t ∈ ms, t.length ≤ 105)
    (fun r ρ ⟨j, ms, v6, e, hj, hr, hcn, hml, hall⟩ => by
      subst e
      have hc : evT cf brC [some (.lst (ns.map D.int)), some (.int k), some (.int many), some (.lst (ms.map D.str)), some (.int j), none, v6] [] = .ok (decide ((ms.length : Int) < many - 1)) [] := by
        simp only [brC, evSs, evS, evE, evEs, evK, evP, evI, evT, Res.bind_ok, Res.fl_ok, Res.opt_some, Res.calm_ok, bindT, List.set_cons_zero, List.set_cons_succ, List.getElem?_cons_zero, List.getElem?_cons_succ, b_add, b_sub, Option.map_some, t_bl, len_l, len_t, len_s, c_lt, c_le, c_gt, c_ge, c_eqI, c_eqS, List.length_map]
      by_cases hlt : (ms.length : Int) < many - 1
      · right
        rw [decide_eq_true hlt] at hc
        refine ⟨hc, ?_⟩
        have hj8 : j < 1200 := by
          by_cases q : j = 1200
          · subst q
            rw [cnt_end] at hcn
            omega
          · omega
        have ecell := cc (k := (k : Int) + (j : Int)) (by omega) (by omega)
        have ecode := cd (cellV ns ((k : Int) + (j : Int))) (cellV_lo _ _)
        have hstep := of_decide_eq_true (List.all_eq_true.mp cnt_step j (List.mem_range.mpr hj8))
        have hT : ∀ t, t ∈ ms ++ [txt T ns k j] → ∃ i, i < j + 1 ∧ t = txt T ns k i := fun t ht => by
          rcases List.mem_append.mp ht with ht | ht
          · obtain ⟨i, h1, h2⟩ := hall t ht
            exact ⟨i, by omega, h2⟩
          · exact ⟨j, by omega, by simpa using ht⟩
        -- the tail of the turn
        have go := turn_gen cf kc kt k _ _ _ (txt T ns k j) (many := many) hj8 ecell ecode rfl (ms := ms) (by omega) v6
        refine ⟨_, go, 1200 - (j + 1), by omega, j + 1, _, _, rfl, by omega, rfl, ?_, ?_, ?_⟩
        · by_cases hin : txt T ns k j ∈ ms
          · rw [if_pos hin]
            by_cases hb : j % 40 = 0 ∧ j / 40 ∈ bl
            · obtain ⟨i, hi, e⟩ := hall _ hin
              exact absurd e.symm (txt_new ct ns k hb hi)
            · rw [if_neg hb] at hstep
              omega
          · rw [if_neg hin, List.length_append, List.length_singleton]
            split at hstep <;> omega
        · by_cases hin : txt T ns k j ∈ ms
          · rw [if_pos hin]
            exact hml
          · rw [if_neg hin, List.length_append, List.length_singleton]
            omega
        · by_cases hin : txt T ns k j ∈ ms
          · rw [if_pos hin]
            exact fun t ht => hT t (List.mem_append_left _ ht)
          · rw [if_neg hin]
            exact hT
      · left
        rw [decide_eq_false hlt] at hc
        refine ⟨hc, ms, j, none, v6, rfl, by omega, fun t ht => ?_⟩
        obtain ⟨i, hi, e⟩ := hall t ht
        rw [e]
        exact txt_len ct ns k (by omega)) 1200 100000 [some (.lst (ns.map D.int)), some (.int k), some (.int many), some (.lst []), some (.int 0), none, none] ⟨0, [], none, rfl, by decide, rfl, by decide, by simp; omega, fun t ht => by cases ht⟩ (by decide)
  subst e2
  -- the kids
  have er : evI cf (.rng1 (.var 2)) [some (.lst (ns.map D.int)), some (.int k), some (.int many), some (.lst (ms.map D.str)), some (.int j), none, v6] [] = .ok (rngL 0 many.toNat) [] := by
    simp only [evSs, evS, evE, evEs, evK, evP, evI, evT, Res.bind_ok, Res.fl_ok, Res.opt_some, Res.calm_ok, bindT, List.set_cons_zero, List.set_cons_succ, List.getElem?_cons_zero, List.getElem?_cons_succ, b_add, b_sub, Option.map_some, t_bl, len_l, len_t, len_s, c_lt, c_le, c_gt, c_ge, c_eqI, c_eqS, rng1_ok (show 0 ≤ many by omega) (show many ≤ 100000 by omega)]
  obtain ⟨ys, ec, hyl, hys⟩ := comp_all (C := cf) (tg := .one 4) (e := (brE kc)) (P := fun y => ∃ a b : Int, y = .tup [.int a, .int b]) er fun x hx => by
    obtain ⟨i, rfl, hi⟩ := rng_mem hx
    have q1 := cc (k := (k : Int) + 500 + (i : Int)) (by omega) (by omega)
    have q2 := cc (k := (k : Int) + 600 + (i : Int)) (by omega) (by omega)
    have p9 : binD .pow (.int 10) (.int 9) = some (.int (10 ^ 9)) := b_pow 10 9 (by decide) (by decide)
    refine ⟨[some (.lst (ns.map D.int)), some (.int k), some (.int many), some (.lst (ms.map D.str)), some (.int i), none, v6], rfl, .tup [.int (cellV ns ((k : Int) + 500 + (i : Int)) % 1000), .int (cellV ns ((k : Int) + 600 + (i : Int)) % 10 ^ 9)], ?_, _, _, rfl⟩
    simp only [brE, evSs, evS, evE, evEs, evK, evP, evI, evT, Res.bind_ok, Res.fl_ok, Res.opt_some, Res.calm_ok, bindT, List.set_cons_zero, List.set_cons_succ, List.getElem?_cons_zero, List.getElem?_cons_succ, b_add, b_sub, Option.map_some, t_bl, len_l, len_t, len_s, c_lt, c_le, c_gt, c_ge, c_eqI, c_eqS, q1, q2, p9, b_mod (show (0 : Int) < 1000 by decide), b_mod (show (0 : Int) < 10 ^ 9 by decide)]
  obtain ⟨ks, eks⟩ := pair_all hys
  subst eks
  rw [List.length_map, rngL_len] at hyl
  refine ⟨sortL leS ms, ks, ?_, by rw [sortL_len]; exact hms, fun s hs => hlen s (sortL_mem leS s ms hs), by omega⟩
  have hso := sort_strs2 (l := ms) (by omega)
  have tl1 : ∀ l : List D, biD .tuple [.lst l] = some (.tup l) := fun _ => rfl
  have z1 : evS cf (.own 3 (.lst .nil)) [some (.lst (ns.map D.int)), some (.int k), some (.int many), none, none, none, none] [] = .nxt [some (.lst (ns.map D.int)), some (.int k), some (.int many), some (.lst []), none, none, none] [] := by
    simp [evS, evE, evEs]
  have z2 : evS cf (.asg (.one 4) (.lit (.int 0))) [some (.lst (ns.map D.int)), some (.int k), some (.int many), some (.lst []), none, none, none] [] = .nxt [some (.lst (ns.map D.int)), some (.int k), some (.int many), some (.lst []), some (.int 0), none, none] [] := by
    simp only [evSs, evS, evE, evEs, evK, evP, evI, evT, Res.bind_ok, Res.fl_ok, Res.opt_some, Res.calm_ok, bindT, List.set_cons_zero, List.set_cons_succ, List.getElem?_cons_zero, List.getElem?_cons_succ, b_add, b_sub, Option.map_some, t_bl, len_l, len_t, len_s, c_lt, c_le, c_gt, c_ge, c_eqI, c_eqS]
  have z4 : evS cf (.asg (.one 5) (.comp (.one 4) (.rng1 (.var 2)) .no (brE kc))) [some (.lst (ns.map D.int)), some (.int k), some (.int many), some (.lst (ms.map D.str)), some (.int j), none, v6] [] = .nxt [some (.lst (ns.map D.int)), some (.int k), some (.int many), some (.lst (ms.map D.str)), some (.int j), some (.lst (ks.map fun p => .tup [.int p.1, .int p.2])), v6] [] := st_asg1 ec
  have z5 : evE cf (.tup (.cons (.lit (.str [98, 114, 97, 110, 99, 104])) (.cons (.bi .tuple (.cons (.bi .sorted (.cons (.var 3) .nil)) .nil)) (.cons (.bi .tuple (.cons (.var 5) .nil)) .nil)))) [some (.lst (ns.map D.int)), some (.int k), some (.int many), some (.lst (ms.map D.str)), some (.int j), some (.lst (ks.map fun p => .tup [.int p.1, .int p.2])), v6] [] =
      .ok (.tup [.str [98, 114, 97, 110, 99, 104], .tup ((sortL leS ms).map D.str), .tup (ks.map fun p => D.tup [.int p.1, .int p.2])]) [] := by
    simp only [evE, evEs, Res.bind_ok, Res.opt_some, List.getElem?_cons_zero, List.getElem?_cons_succ, hso, tl1]
  exact ss_cons z1 (ss_cons z2 (ss_cons (st_whl e1) (ss_cons z4 (ss_end (st_ret z5)))))
end MP

set_option maxRecDepth 100000
set_option maxHeartbeats 8000000
set_option autoImplicit false
namespace MP
open PySem L2

/-! ### alike: as k32, k33 have it -/
def alikeE (ka : Nat) : E := (.call ka (.cons (.idx (.var 0) (.var 2)) (.cons (.idx (.var 1) (.var 2)) .nil)))
def alikeR (ka : Nat) : E := (.and2 (.cmp .eq (.bi .len (.cons (.var 0) .nil)) (.bi .len (.cons (.var 1) .nil))) (.bi .all (.cons (.comp (.one 2) (.rng1 (.bi .len (.cons (.var 1) .nil))) .no (alikeE ka)) .nil)))
def alikeB (ka : Nat) : Sts :=
  (.cons (.ifs (.isi [.tuple, .list] (.var 1)) (.cons (.ifs (.or2 (.cmp .ne (.isi [.tuple] (.var 0)) (.isi [.tuple] (.var 1))) (.cmp .ne (.isi [.list] (.var 0)) (.isi [.list] (.var 1)))) (.cons (.ret (.lit (.bl false))) .nil) .nil) (.cons (.ret (alikeR ka)) .nil)) .nil)
  (.cons (.ret (.and2 (.cmp .eq (.isi [.bool] (.var 0)) (.isi [.bool] (.var 1))) (.cmp .eq (.var 0) (.var 1))))
  .nil))
def leaf : D → Bool
  | .int _ | .str _ | .bl _ | .non => true
  | _ => false
/-- data that alike walks through, so deep -/
inductive Nice : Nat → D → Prop
  | leaf (n : Nat) {d : D} : leaf d = true → Nice n d
  | tup {n : Nat} {l : List D} : l.length ≤ 1000 → (∀ d ∈ l, Nice n d) → Nice (n + 1) (.tup l)
  | lst {n : Nat} {l : List D} : l.length ≤ 1000 → (∀ d ∈ l, Nice n d) → Nice (n + 1) (.lst l)
theorem c_eqB (a b : Bool) : cmpD .eq (.bl a) (.bl b) = some (decide (a = b)) := by
  show eqD (.bl a) (.bl b) = _
  unfold eqD
  rw [if_pos ⟨rfl, rfl, .inl (by simp [D.dep])⟩]
  cases a <;> cases b <;> rfl
theorem c_neB (a b : Bool) : cmpD .ne (.bl a) (.bl b) = some (!decide (a = b)) := by
  show (cmpD .eq (.bl a) (.bl b)).map (!·) = _
  rw [c_eqB]
  rfl
theorem eq_leaf {d : D} (h : leaf d = true) : cmpD .eq d d = some true := by
  cases d with
  | int i => rw [c_eqI, decide_eq_true rfl]
  | str s => rw [c_eqS, decide_eq_true rfl]
  | bl b => rw [c_eqB, decide_eq_true rfl]
  | non => rfl
  | _ => cases h
theorem bls_true : ∀ n : Nat, blsOf (List.replicate n (D.bl true)) = some (List.replicate n true)
  | 0 => rfl
  | n + 1 => by
    rw [List.replicate_succ, blsOf, bls_true n]
    rfl
theorem all_true (n : Nat) : biD .all [.lst (List.replicate n (D.bl true))] = some (.bl true) := by
  show (blsOf _).map _ = _
  rw [bls_true]
  show some (D.bl ((List.replicate n true).all id)) = _
  rw [List.all_replicate]
  simp
theorem bl_reps {l : List D} (h : ∀ y ∈ l, y = D.bl true) : l = List.replicate l.length (D.bl true) := List.eq_replicate_iff.mpr ⟨rfl, h⟩
theorem alike_seq {T : Nat → Option Fn} {sub : Nat → Nat → Option Bool} {ka n : Nat} {q : D} {l : List D} (hq : q = .tup l ∨ q = .lst l) (hz : l.length ≤ 1000) (ih : ∀ d ∈ l, callF T sub n ka [d, d] [] = .ok (.bl true) []) :
    evSs ⟨callF T sub n, sub⟩ (alikeB ka) [some q, some q, none] [] = .ret (.bl true) [] := by
  let cf : Cfg := ⟨callF T sub n, sub⟩
  have hlen : biD .len [q] = some (.int l.length) := by rcases hq with rfl | rfl <;> rfl
  have hcls : ∃ s, clsD q = some s := by rcases hq with rfl | rfl <;> exact ⟨_, rfl⟩
  obtain ⟨s, hcls⟩ := hcls
  have hty : ([Ty.tuple, Ty.list].any fun t => tyD t q) = true := by rcases hq with rfl | rfl <;> rfl
  have el1 : evE cf (.bi .len (.cons (.var 1) .nil)) [some q, some q, none] [] = .ok (.int l.length) [] := e_bi (ds := [q]) (by simp only [evEs, evE, Res.bind_ok, List.getElem?_cons_zero, List.getElem?_cons_succ]) hlen
  have el0 : evE cf (.bi .len (.cons (.var 0) .nil)) [some q, some q, none] [] = .ok (.int l.length) [] := e_bi (ds := [q]) (by simp only [evEs, evE, Res.bind_ok, List.getElem?_cons_zero, List.getElem?_cons_succ]) hlen
  have hI : evI cf (.rng1 (.bi .len (.cons (.var 1) .nil))) [some q, some q, none] [] = .ok (rngL 0 l.length) [] := by
    rw [evI, el1, Res.bind_ok, rng1_ok (show (0 : Int) ≤ (l.length : Int) by omega) (show (l.length : Int) ≤ 100000 by omega), Res.opt_some, Int.toNat_natCast]
  obtain ⟨ys, ec, _, hys⟩ := comp_all (C := cf) (tg := .one 2) (e := alikeE ka) (P := fun y => y = .bl true) hI fun x hx => by
    obtain ⟨i, rfl, hi⟩ := rng_mem hx
    have hix : idxD q (.int (i : Int)) = some l[i] := by
      rcases hq with rfl | rfl
      · exact i_tup (by omega) (by simpa using hi)
      · exact i_lst (by omega) (by simpa using hi)
    have hcall : cf.call ka [l[i], l[i]] [] = .ok (.bl true) [] := ih _ (List.getElem_mem hi)
    refine ⟨[some q, some q, some (.int i)], rfl, .bl true, ?_, rfl⟩
    have v0 : evE cf (.idx (.var 0) (.var 2)) [some q, some q, some (.int i)] [] = .ok l[i] [] := e_idx (x := q) (y := .int i) (m1 := []) (m2 := []) (by simp only [evE, List.getElem?_cons_zero]) (by simp only [evE, List.getElem?_cons_zero, List.getElem?_cons_succ]) hix
    have v1 : evE cf (.idx (.var 1) (.var 2)) [some q, some q, some (.int i)] [] = .ok l[i] [] := e_idx (x := q) (y := .int i) (m1 := []) (m2 := []) (by simp only [evE, List.getElem?_cons_zero, List.getElem?_cons_succ]) (by simp only [evE, List.getElem?_cons_zero, List.getElem?_cons_succ]) hix
    rw [alikeE, evE, evEs, v0, Res.bind_ok, evEs, v1, Res.bind_ok, evEs, Res.bind_ok, Res.bind_ok, Res.bind_ok]
    exact hcall
  have eall : evE cf (.bi .all (.cons (.comp (.one 2) (.rng1 (.bi .len (.cons (.var 1) .nil))) .no (alikeE ka)) .nil)) [some q, some q, none] [] = .ok (.bl true) [] := by
    refine e_bi (ds := [.lst ys]) ?_ (by rw [bl_reps hys]; exact all_true _)
    rw [evEs, ec, Res.bind_ok, evEs, Res.bind_ok]
  refine ss_end (s_if (t := true) (m1 := []) ?_ (ss_cons (s_if (t := false) (m1 := []) ?_ ss_nil) (ss_end (st_ret ?_))))
  · simp only [evT, evE, Res.bind_ok, Res.opt_some, List.getElem?_cons_zero, List.getElem?_cons_succ, hcls, Option.map_some, hty, t_bl]
  · simp only [evT, evE, Res.bind_ok, Res.opt_some, List.getElem?_cons_zero, List.getElem?_cons_succ, hcls, Option.map_some, c_neB, decide_true, Bool.not_true, t_bl]
  · have e1 : evE cf (.cmp .eq (.bi .len (.cons (.var 0) .nil)) (.bi .len (.cons (.var 1) .nil))) [some q, some q, none] [] = .ok (.bl true) [] := by
      rw [evE, el0, Res.bind_ok, el1, Res.bind_ok, c_eqI, decide_eq_true rfl, Option.map_some, Res.opt_some]
    show evE cf (alikeR ka) _ _ = _
    rw [alikeR, evE, e1, Res.bind_ok]
    exact eall
theorem alike_ok {T : Nat → Option Fn} {sub : Nat → Nat → Option Bool} {ka : Nat} (h : T ka = some ⟨2, 3, alikeB ka⟩) : ∀ (n : Nat) (d : D), Nice n d → callF T sub (n + 1) ka [d, d] [] = .ok (.bl true) [] := by
  intro n
  have lf : ∀ (n : Nat) (d : D), leaf d = true → callF T sub (n + 1) ka [d, d] [] = .ok (.bl true) [] := fun n d hd => by
    refine call_ret h rfl ?_
    have hcls : ∃ s, clsD d = some s := by cases d <;> first | exact ⟨_, rfl⟩ | cases hd
    obtain ⟨s, hcls⟩ := hcls
    have hty : ([Ty.tuple, Ty.list].any fun t => tyD t d) = false := by cases d <;> first | rfl | cases hd
    refine ss_cons (ρ1 := [some d, some d, none]) (m1 := []) (s_if (t := false) (m1 := []) ?_ ss_nil) (ss_end (st_ret ?_))
    · show evT _ _ [some d, some d, none] [] = _
      simp only [evT, evE, Res.bind_ok, Res.opt_some, List.getElem?_cons_zero, List.getElem?_cons_succ, hcls, Option.map_some, hty, t_bl]
    · simp only [evE, Res.bind_ok, Res.opt_some, List.getElem?_cons_zero, List.getElem?_cons_succ, hcls, Option.map_some, c_eqB, decide_true, t_bl, eq_leaf hd]
  induction n with
  | zero =>
    intro d hd
    cases hd with
    | leaf _ hl => exact lf 0 d hl
  | succ n ih =>
    intro d hd
    cases hd with
    | leaf _ hl => exact lf (n + 1) d hl
    | tup hz ha => exact call_ret h rfl (alike_seq (.inl rfl) hz fun x hx => ih x (ha x hx))
    | lst hz ha => exact call_ret h rfl (alike_seq (.inr rfl) hz fun x hx => ih x (ha x hx))
end MP

set_option maxRecDepth 100000
set_option maxHeartbeats 8000000
set_option autoImplicit false
namespace MP
open PySem L2

/-! ### slices by natural ends; data equal themselves -/
theorem cut_nat {α : Type} (l : List α) (a b : Nat) : cutL l (min a l.length) (min b l.length) = (l.drop a).take (b - a) := by
  unfold cutL
  by_cases h : a ≤ l.length
  · rw [Nat.min_eq_left h]
    by_cases h2 : b ≤ l.length
    · rw [Nat.min_eq_left h2]
    · rw [Nat.min_eq_right (by omega), List.take_of_length_le (by rw [List.length_drop]; exact Nat.le_refl _), List.take_of_length_le (by rw [List.length_drop]; omega)]
  · have e : min a l.length = l.length := by omega
    rw [e, List.drop_of_length_le (Nat.le_refl l.length), List.drop_of_length_le (show l.length ≤ a by omega), List.take_nil, List.take_nil]
theorem cut_to {α : Type} (l : List α) (b : Nat) : cutL l 0 (min b l.length) = l.take b := by
  have := cut_nat l 0 b
  rw [Nat.zero_min, List.drop_zero, Nat.sub_zero] at this
  exact this
theorem cut_from {α : Type} (l : List α) (a : Nat) : cutL l (min a l.length) l.length = l.drop a := by
  have := cut_nat l a l.length
  rw [Nat.min_self] at this
  rw [this, List.take_of_length_le (by rw [List.length_drop]; exact Nat.le_refl _)]
theorem slL (l : List D) (a b : Nat) : slD (.lst l) (some (a : Int)) (some (b : Int)) = some (.lst ((l.drop a).take (b - a))) := by
  show some (D.lst (cutL l (endD l.length 0 (some (a : Int))) (endD l.length l.length (some (b : Int))))) = _
  rw [endD_nat, endD_nat, cut_nat]
theorem slLt (l : List D) (b : Nat) : slD (.lst l) none (some (b : Int)) = some (.lst (l.take b)) := by
  show some (D.lst (cutL l 0 (endD l.length l.length (some (b : Int))))) = _
  rw [endD_nat, cut_to]
theorem slLf (l : List D) (a : Nat) : slD (.lst l) (some (a : Int)) none = some (.lst (l.drop a)) := by
  show some (D.lst (cutL l (endD l.length 0 (some (a : Int))) l.length)) = _
  rw [endD_nat, cut_from]
theorem slT (l : List D) (a b : Nat) : slD (.tup l) (some (a : Int)) (some (b : Int)) = some (.tup ((l.drop a).take (b - a))) := by
  show some (D.tup (cutL l (endD l.length 0 (some (a : Int))) (endD l.length l.length (some (b : Int))))) = _
  rw [endD_nat, endD_nat, cut_nat]
theorem slTt (l : List D) (b : Nat) : slD (.tup l) none (some (b : Int)) = some (.tup (l.take b)) := by
  show some (D.tup (cutL l 0 (endD l.length l.length (some (b : Int))))) = _
  rw [endD_nat, cut_to]
theorem slTf (l : List D) (a : Nat) : slD (.tup l) (some (a : Int)) none = some (.tup (l.drop a)) := by
  show some (D.tup (cutL l (endD l.length 0 (some (a : Int))) l.length)) = _
  rw [endD_nat, cut_from]
theorem b_addT {a b : List D} (h : a.length + b.length ≤ sizeD) : binD .add (.tup a) (.tup b) = some (.tup (a ++ b)) := by
  show (if _ then _ else _) = _
  rw [if_pos h]
mutual
theorem eqv_me : ∀ d : D, d.flat = true → PyData.eqv d.toPy d.toPy = true
  | .non, _ => rfl
  | .bl b, _ => by cases b <;> rfl
  | .int i, _ => by show (i == i) = true; exact beq_self_eq_true i
  | .str s, _ => by rw [eqv_str, decide_eq_true rfl]
  | .tup l, h => eqv_mes l (by simpa [D.flat] using h)
  | .lst l, h => eqv_mes l (by simpa [D.flat] using h)
  | .dic _, h => by simp [D.flat] at h
  | .obj _, h => by simp [D.flat] at h
  | .exc _, h => by simp [D.flat] at h
theorem eqv_mes : ∀ l : List D, D.flats l = true → PyData.eqvAll (D.toPys l) (D.toPys l) = true
  | [], _ => rfl
  | d :: r, h => by
    simp only [D.flats, Bool.and_eq_true] at h
    show (PyData.eqv d.toPy d.toPy && PyData.eqvAll (D.toPys r) (D.toPys r)) = true
    rw [eqv_me d h.1, eqv_mes r h.2]
    rfl
end
theorem eq_me {d : D} (h : d.flat = true) (h2 : d.dep ≤ 64) : cmpD .eq d d = some true := by
  show eqD d d = _
  unfold eqD
  rw [if_pos ⟨h, h, .inl h2⟩, eqv_me d h]
theorem ne_me {d : D} (h : d.flat = true) (h2 : d.dep ≤ 64) : cmpD .ne d d = some false := by
  show (cmpD .eq d d).map (!·) = _
  rw [eq_me h h2]
  rfl
end MP

set_option maxRecDepth 100000
set_option maxHeartbeats 8000000
set_option autoImplicit false
namespace MP
open PySem L2

/-! ### going by simp, from without to within -/
/-- what simp shall leave alone -/
inductive Lz {α : Type} (a : α) : Type where | mk
/-- a case by a truth; s where there is none -/
def bC {α : Type} (s : α) (o : Option Bool) (t e : α) (_ : Lz t) (_ : Lz e) : α := match o with
  | some true => t
  | some false => e
  | none => s
theorem bC_t {α : Type} {s t e : α} {z : Lz t} {y : Lz e} : bC s (some true) t e z y = t := rfl
theorem bC_f {α : Type} {s t e : α} {z : Lz t} {y : Lz e} : bC s (some false) t e z y = e := rfl
def bnd {α β : Type} (r : Res α) (f : α → Mu → Res β) (_ : Lz f) : Res β := r.bind f
theorem bnd_o {α β : Type} {a : α} {m : Mu} {f : α → Mu → Res β} {z : Lz f} : bnd (.ok a m) f z = f a m := rfl
theorem bnd_e {α β : Type} {c : Nat} {m : Mu} {f : α → Mu → Res β} {z : Lz f} : bnd (.err c m) f z = .err c m := rfl
def bfl {α : Type} (r : Res α) (ρ : Env') (f : α → Mu → Fl) (_ : Lz f) (_ : Lz ρ) : Fl := r.fl ρ f
theorem bfl_o {α : Type} {a : α} {m : Mu} {ρ : Env'} {f : α → Mu → Fl} {z : Lz f} {y : Lz ρ} : bfl (.ok a m) ρ f z y = f a m := rfl
theorem bfl_e {α : Type} {c : Nat} {m : Mu} {ρ : Env'} {f : α → Mu → Fl} {z : Lz f} {y : Lz ρ} : bfl (.err c m) ρ f z y = .err c ρ m := rfl
def sq (r : Fl) (f : Env' → Mu → Fl) (_ : Lz f) : Fl := match r with
  | .nxt ρ m => f ρ m
  | r => r
theorem sq_n {ρ : Env'} {m : Mu} {f : Env' → Mu → Fl} {z : Lz f} : sq (.nxt ρ m) f z = f ρ m := rfl
theorem sq_r {d : D} {m : Mu} {f : Env' → Mu → Fl} {z : Lz f} : sq (.ret d m) f z = .ret d m := rfl
theorem sq_e {c : Nat} {ρ : Env'} {m : Mu} {f : Env' → Mu → Fl} {z : Lz f} : sq (.err c ρ m) f z = .err c ρ m := rfl
theorem res_r {d : D} {m : Mu} : (Fl.ret d m).res = .ok d m := rfl
theorem res_n {ρ : Env'} {m : Mu} : (Fl.nxt ρ m).res = .ok .non m := rfl
theorem res_e {c : Nat} {ρ : Env'} {m : Mu} : (Fl.err c ρ m).res = .err c m := rfl
def forL (tg : Tgt) (b : Env' → Mu → Fl) (xs : List D) (ρ : Env') (m : Mu) (_ : Lz b) : Fl := forGo tg b xs ρ m
def whlL (c : Env' → Mu → Res Bool) (b : Env' → Mu → Fl) (n : Nat) (ρ : Env') (m : Mu) (_ : Lz b) (_ : Lz c) : Fl := whileGo c b n ρ m
def trnL (f : D → Mu → Res (Option D)) (xs : List D) (m : Mu) (_ : Lz f) : Res (List D) := turns f xs m
/-- a slot's value -/
def getS (o : Option (Option D)) (m : Mu) : Res D := match o with
  | some (some d) => .ok d m
  | _ => .stuck
theorem getS_s {d : D} {m : Mu} : getS (some (some d)) m = .ok d m := rfl
section
variable {C : Cfg} {ρ : Env'} {m : Mu}
theorem v_var {i : Nat} : evE C (.var i) ρ m = getS ρ[i]? m := by rw [evE]; rfl
theorem v_lit {d : D} : evE C (.lit d) ρ m = .ok d m := by rw [evE]
theorem v_glob {x : Str} {d : D} : evE C (.glob x d) ρ m = .ok d m := by rw [evE]
theorem v_bin {o : BOp} {a b : E} : evE C (.bin o a b) ρ m = bnd (evE C a ρ m) (fun x m1 => bnd (evE C b ρ m1) (fun y m2 => .opt (binD o x y) m2) .mk) .mk := by rw [evE]; rfl
theorem v_cmp {o : COp} {a b : E} : evE C (.cmp o a b) ρ m = bnd (evE C a ρ m) (fun x m1 => bnd (evE C b ρ m1) (fun y m2 => .opt ((cmpD o x y).map D.bl) m2) .mk) .mk := by rw [evE]; rfl
def isNon : D → Bool
  | .non => true
  | _ => false
theorem v_isN {n : Bool} {a : E} : evE C (.isN n a) ρ m = bnd (evE C a ρ m) (fun x m1 => .ok (.bl (isNon x != n)) m1) .mk := by
  rw [evE]
  show Res.bind _ _ = Res.bind _ _
  refine congrArg _ (funext fun x => funext fun m1 => ?_)
  cases x <;> cases n <;> rfl
theorem bc_of {α : Type} {o : Option Bool} {s t e : α} : bC s o t e .mk .mk = (match o with | some true => t | some false => e | none => s) := rfl
theorem v_chain {o1 o2 : COp} {a b c : E} : evE C (.chain o1 o2 a b c) ρ m = bnd (evE C a ρ m) (fun x m1 => bnd (evE C b ρ m1) (fun y m2 => bC .stuck (cmpD o1 x y) (bnd (evE C c ρ m2) (fun z m3 => .opt ((cmpD o2 y z).map D.bl) m3) .mk) (.ok (.bl false) m2) .mk .mk) .mk) .mk := by
  rw [evE]
  show Res.bind _ _ = Res.bind _ _
  refine congrArg _ (funext fun x => funext fun m1 => ?_)
  show Res.bind _ _ = Res.bind _ _
  refine congrArg _ (funext fun y => funext fun m2 => ?_)
  cases cmpD o1 x y with
  | none => rfl
  | some b => cases b <;> rfl
theorem v_and {a b : E} : evE C (.and2 a b) ρ m = bnd (evE C a ρ m) (fun x m1 => bC .stuck (truth x) (evE C b ρ m1) (.ok x m1) .mk .mk) .mk := by
  rw [evE]
  show Res.bind _ _ = Res.bind _ _
  refine congrArg _ (funext fun x => funext fun m1 => ?_)
  cases truth x with
  | none => rfl
  | some b => cases b <;> rfl
theorem v_or {a b : E} : evE C (.or2 a b) ρ m = bnd (evE C a ρ m) (fun x m1 => bC .stuck (truth x) (.ok x m1) (evE C b ρ m1) .mk .mk) .mk := by
  rw [evE]
  show Res.bind _ _ = Res.bind _ _
  refine congrArg _ (funext fun x => funext fun m1 => ?_)
  cases truth x with
  | none => rfl
  | some b => cases b <;> rfl
theorem v_not {a : E} : evE C (.not1 a) ρ m = bnd (evE C a ρ m) (fun x m1 => .opt ((truth x).map fun b => .bl (!b)) m1) .mk := by rw [evE]; rfl
theorem v_ifx {c a b : E} : evE C (.ifx c a b) ρ m = bnd (evE C c ρ m) (fun x m1 => bC .stuck (truth x) (evE C a ρ m1) (evE C b ρ m1) .mk .mk) .mk := by
  rw [evE]
  show Res.bind _ _ = Res.bind _ _
  refine congrArg _ (funext fun x => funext fun m1 => ?_)
  cases truth x with
  | none => rfl
  | some b => cases b <;> rfl
theorem v_idx {a b : E} : evE C (.idx a b) ρ m = bnd (evE C a ρ m) (fun x m1 => bnd (evE C b ρ m1) (fun y m2 => .opt (idxD x y) m2) .mk) .mk := by rw [evE]; rfl
theorem v_sl {a : E} {lo hi : OE} : evE C (.sl a lo hi) ρ m = bnd (evE C a ρ m) (fun x m1 => bnd (evP C lo ρ m1) (fun y m2 => bnd (evP C hi ρ m2) (fun z m3 => .opt (slD x y z) m3) .mk) .mk) .mk := by rw [evE]; rfl
theorem v_slS {a : E} {lo : OE} {st : Int} : evE C (.slS a lo st) ρ m = bnd (evE C a ρ m) (fun x m1 => bnd (evP C lo ρ m1) (fun y m2 => .opt (slSD x y st) m2) .mk) .mk := by rw [evE]; rfl
theorem v_tup {l : Es} : evE C (.tup l) ρ m = bnd (evEs C l ρ m) (fun ds m1 => .ok (.tup ds) m1) .mk := by rw [evE]; rfl
theorem v_lst {l : Es} : evE C (.lst l) ρ m = bnd (evEs C l ρ m) (fun ds m1 => .ok (.lst ds) m1) .mk := by rw [evE]; rfl
theorem v_dic0 : evE C .dic0 ρ m = .ok (.dic []) m := by rw [evE]
/-- one turn of a comprehension -/
def cT (C : Cfg) (tg : Tgt) (c : OE) (e : E) (ρ : Env') (x : D) (m2 : Mu) : Res (Option D) := match bindT tg x (wipeE ρ tg.slots) with
    | some ρ' => (evK C c ρ' m2).bind fun t m3 => if t = true then (evE C e ρ' m3).bind fun y m4 => .ok (some y) m4 else .ok none m3
    | none => .stuck
/-- its value at a state -/
def cV (C : Cfg) (c : OE) (e : E) (o : Option Env') (m2 : Mu) : Res (Option D) := match o with
    | some ρ' => (evK C c ρ' m2).bind fun t m3 => if t = true then (evE C e ρ' m3).bind fun y m4 => .ok (some y) m4 else .ok none m3
    | none => .stuck
theorem v_comp {tg : Tgt} {it : I} {c : OE} {e : E} : evE C (.comp tg it c e) ρ m = bnd (evI C it ρ m) (fun xs m1 => bnd (trnL (cT C tg c e ρ) xs m1 .mk).calm (fun ys m5 => .ok (.lst ys) m5) .mk) .mk := by rw [evE]; rfl
theorem v_cT {tg : Tgt} {c : OE} {e : E} {x : D} {m2 : Mu} : cT C tg c e ρ x m2 = cV C c e (bindT tg x (wipeE ρ tg.slots)) m2 := rfl
theorem v_cV {c : OE} {e : E} {m2 : Mu} : cV C c e (some ρ) m2 = bnd (evK C c ρ m2) (fun t m3 => bC .stuck (some t) (bnd (evE C e ρ m3) (fun y m4 => .ok (some y) m4) .mk) (.ok none m3) .mk .mk) .mk := by
  show Res.bind _ _ = Res.bind _ _
  refine congrArg _ (funext fun t => funext fun m3 => ?_)
  cases t <;> rfl
theorem v_call {k : Nat} {l : Es} : evE C (.call k l) ρ m = bnd (evEs C l ρ m) (fun ds m1 => C.call k ds m1) .mk := by rw [evE]; rfl
theorem v_bi {b : BI} {l : Es} : evE C (.bi b l) ρ m = bnd (evEs C l ρ m) (fun ds m1 => .opt (biD b ds) m1) .mk := by rw [evE]; rfl
theorem v_mth {o : MT} {r : E} {l : Es} : evE C (.mth o r l) ρ m = bnd (evE C r ρ m) (fun x m1 => bC .stuck (some (mtOn o x)) (bnd (evEs C l ρ m1) (fun ds m2 => .opt (mtD o x ds) m2) .mk) .stuck .mk .mk) .mk := by
  rw [evE]
  show Res.bind _ _ = Res.bind _ _
  refine congrArg _ (funext fun x => funext fun m1 => ?_)
  cases mtOn o x <;> rfl
theorem v_isi {ts : List Ty} {e : E} : evE C (.isi ts e) ρ m = bnd (evE C e ρ m) (fun x m1 => .opt ((clsD x).map fun _ => .bl (ts.any fun t => tyD t x)) m1) .mk := by rw [evE]; rfl
theorem v_nil : evEs C .nil ρ m = .ok [] m := by rw [evEs]
theorem v_cons {a : E} {l : Es} : evEs C (.cons a l) ρ m = bnd (evE C a ρ m) (fun x m1 => bnd (evEs C l ρ m1) (fun xs m2 => .ok (x :: xs) m2) .mk) .mk := by rw [evEs]; rfl
theorem v_kno : evK C .no ρ m = .ok true m := by rw [evK]
theorem v_kyes {a : E} : evK C (.yes a) ρ m = bnd (evE C a ρ m) (fun x m1 => .opt (truth x) m1) .mk := by rw [evK]; rfl
def intP (x : D) (m : Mu) : Res (Option Int) := match x with
  | .int i => .ok (some i) m
  | _ => .stuck
theorem intP_i {i : Int} {m : Mu} : intP (.int i) m = .ok (some i) m := rfl
theorem v_pno : evP C .no ρ m = .ok none m := by rw [evP]
theorem v_pyes {a : E} : evP C (.yes a) ρ m = bnd (evE C a ρ m) (fun x m1 => intP x m1) .mk := by
  rw [evP]
  show Res.bind _ _ = Res.bind _ _
  refine congrArg _ (funext fun x => funext fun m1 => ?_); cases x <;> rfl
theorem v_ie {a : E} : evI C (.e a) ρ m = bnd (evE C a ρ m) (fun x m1 => .opt (iterD x) m1) .mk := by rw [evI]; rfl
theorem v_r1 {a : E} : evI C (.rng1 a) ρ m = bnd (evE C a ρ m) (fun x m1 => .opt (rng1D x) m1) .mk := by rw [evI]; rfl
theorem v_r2 {a b : E} : evI C (.rng2 a b) ρ m = bnd (evE C a ρ m) (fun x m1 => bnd (evE C b ρ m1) (fun y m2 => .opt (rng2D x y) m2) .mk) .mk := by rw [evI]; rfl
theorem v_rev {a : E} : evI C (.rev a) ρ m = bnd (evE C a ρ m) (fun x m1 => .opt (revD x) m1) .mk := by rw [evI]; rfl
theorem v_zip {a b : E} : evI C (.zip a b) ρ m = bnd (evE C a ρ m) (fun x m1 => bnd (evE C b ρ m1) (fun y m2 => .opt (zipD x y) m2) .mk) .mk := by rw [evI]; rfl
theorem v_enum {a : E} : evI C (.enum a) ρ m = bnd (evE C a ρ m) (fun x m1 => .opt (enumD x) m1) .mk := by rw [evI]; rfl
theorem v_T {e : E} : evT C e ρ m = bnd (evE C e ρ m) (fun x m1 => .opt (truth x) m1) .mk := rfl
/-- a store -/
def stO (o : Option Env') (m : Mu) : Fl := match o with
  | some ρ => .nxt ρ m
  | none => .stuck
theorem stO_s {ρ : Env'} {m : Mu} : stO (some ρ) m = .nxt ρ m := rfl
theorem w_asg {tg : Tgt} {e : E} : evS C (.asg tg e) ρ m = bfl (evE C e ρ m) ρ (fun x m1 => stO (bindT tg x ρ) m1) .mk .mk := by
  rw [evS]
  show Res.fl _ _ _ = Res.fl _ _ _
  refine congrArg _ (funext fun x => funext fun m1 => ?_)
  cases bindT tg x ρ <;> rfl
theorem w_own {i : Nat} {e : E} : evS C (.own i e) ρ m = bfl (evE C e ρ m) ρ (fun x m1 => bC .stuck (some (decide (i < ρ.length))) (.nxt (ρ.set i (some x)) m1) .stuck .mk .mk) .mk .mk := by
  rw [evS]
  show Res.fl _ _ _ = Res.fl _ _ _
  refine congrArg _ (funext fun x => funext fun m1 => ?_)
  by_cases h : i < ρ.length
  · rw [if_pos h, decide_eq_true h]; rfl
  · rw [if_neg h, decide_eq_false h]; rfl
def augS (C : Cfg) (i : Nat) (o : BOp) (e : E) (ρ : Env') (m : Mu) (x : D) : Fl := (evE C e ρ m).fl ρ fun y m1 => stO ((augD o x y).map fun z => ρ.set i (some z)) m1
theorem w_aug {i : Nat} {o : BOp} {e : E} : evS C (.aug i o e) ρ m = bfl (getS ρ[i]? m) ρ (fun x m1 => augS C i o e ρ m1 x) .mk .mk := by
  rw [evS]
  unfold getS
  cases h : ρ[i]? with
  | none => rfl
  | some d =>
    cases d with
    | none => rfl
    | some d =>
      show (evE C e ρ m).fl ρ _ = (evE C e ρ m).fl ρ fun y m1 => stO ((augD o d y).map fun z => ρ.set i (some z)) m1
      refine congrArg _ (funext fun y => funext fun m1 => ?_)
      cases augD o d y <;> rfl
theorem w_augS {i : Nat} {o : BOp} {e : E} {x : D} : augS C i o e ρ m x = bfl (evE C e ρ m) ρ (fun y m1 => stO ((augD o x y).map fun z => ρ.set i (some z)) m1) .mk .mk := rfl
def appS (C : Cfg) (i : Nat) (e : E) (ρ : Env') (m : Mu) (x : D) : Fl := match x with
  | .lst l => (evE C e ρ m).fl ρ fun x m1 => if l.length < sizeD then .nxt (ρ.set i (some (.lst (l ++ [x])))) m1 else .stuck
  | _ => .stuck
theorem w_app {i : Nat} {e : E} : evS C (.app i e) ρ m = bfl (getS ρ[i]? m) ρ (fun x m1 => appS C i e ρ m1 x) .mk .mk := by
  rw [evS]
  unfold getS
  cases h : ρ[i]? with
  | none => rfl
  | some d =>
    cases d with
    | none => rfl
    | some d => cases d <;> rfl
theorem w_appS {i : Nat} {e : E} {l : List D} : appS C i e ρ m (.lst l) = bfl (evE C e ρ m) ρ (fun x m1 => bC .stuck (some (decide (l.length < sizeD))) (.nxt (ρ.set i (some (.lst (l ++ [x])))) m1) .stuck .mk .mk) .mk .mk := by
  show Res.fl _ _ _ = Res.fl _ _ _
  refine congrArg _ (funext fun x => funext fun m1 => ?_)
  by_cases h : l.length < sizeD
  · rw [if_pos h, decide_eq_true h]; rfl
  · rw [if_neg h, decide_eq_false h]; rfl
theorem w_drop {e : E} : evS C (.drop e) ρ m = bfl (evE C e ρ m) ρ (fun _ m1 => .nxt ρ m1) .mk .mk := by rw [evS]; rfl
theorem w_ret {e : E} : evS C (.ret e) ρ m = bfl (evE C e ρ m) ρ (fun x m1 => .ret x m1) .mk .mk := by rw [evS]; rfl
theorem w_retN : evS C .retN ρ m = .ret .non m := by rw [evS]
theorem w_ifs {c : E} {a b : Sts} : evS C (.ifs c a b) ρ m = bfl (evT C c ρ m) ρ (fun t m1 => bC .stuck (some t) (evSs C a ρ m1) (evSs C b ρ m1) .mk .mk) .mk .mk := by
  rw [evS]
  show Res.fl _ _ _ = Res.fl _ _ _
  refine congrArg _ (funext fun t => funext fun m1 => ?_)
  cases t <;> rfl
theorem w_whl {c : E} {b : Sts} : evS C (.whl c b) ρ m = whlL (fun ρ m => evT C c ρ m) (fun ρ m => evSs C b ρ m) 100000 ρ m .mk .mk := by rw [evS]; rfl
theorem w_for {tg : Tgt} {it : I} {b : Sts} : evS C (.fors tg it b) ρ m = bfl (evI C it ρ m) ρ (fun xs m1 => forL tg (fun ρ m => evSs C b ρ m) xs ρ m1 .mk) .mk .mk := by rw [evS]; rfl
theorem w_rais {c : Nat} : evS C (.rais c) ρ m = .err c ρ m := by rw [evS]
theorem w_pas : evS C .pas ρ m = .nxt ρ m := by rw [evS]
theorem w_fgt {l : List Nat} : evS C (.fgt l) ρ m = .nxt (wipeE ρ l) m := by rw [evS]
theorem w_nil : evSs C .nil ρ m = .nxt ρ m := by rw [evSs]
theorem w_cons {a : St} {l : Sts} : evSs C (.cons a l) ρ m = sq (evS C a ρ m) (fun ρ1 m1 => evSs C l ρ1 m1) .mk := by
  rw [evSs]
  cases evS C a ρ m <;> rfl
end
theorem b_one {i : Nat} {d : D} {ρ : Env'} : bindT (.one i) d ρ = some (ρ.set i (some d)) := rfl
theorem b_two {i j : Nat} {a b : D} {ρ : Env'} : bindT (.many [i, j]) (.tup [a, b]) ρ = some ((ρ.set i (some a)).set j (some b)) := rfl
theorem b_three {i j k : Nat} {a b c : D} {ρ : Env'} : bindT (.many [i, j, k]) (.tup [a, b, c]) ρ = some (((ρ.set i (some a)).set j (some b)).set k (some c)) := rfl
theorem wp_one {i : Nat} {ρ : Env'} : wipeE ρ (Tgt.one i).slots = ρ.set i none := rfl
theorem wp_two {i j : Nat} {ρ : Env'} : wipeE ρ (Tgt.many [i, j]).slots = (ρ.set j none).set i none := rfl
theorem wp_three {i j k : Nat} {ρ : Env'} : wipeE ρ (Tgt.many [i, j, k]).slots = ((ρ.set k none).set j none).set i none := rfl
theorem mtOn_s {o : MT} {a : List Nat} : mtOn o (.str a) = mtTxt o := rfl
theorem wipe_n {ρ : Env'} : wipeE ρ [] = ρ := rfl
theorem wipe_c {ρ : Env'} {v : Nat} {vs : List Nat} : wipeE ρ (v :: vs) = (wipeE ρ vs).set v none := rfl
theorem isNon_i {i : Int} : isNon (.int i) = false := rfl
theorem isNon_n : isNon .non = true := rfl
theorem isNon_t {l : List D} : isNon (.tup l) = false := rfl
theorem isNon_s {l : List Nat} : isNon (.str l) = false := rfl
theorem isNon_x {c : Nat} : isNon (.exc c) = false := rfl
/-! ### exceptions -/
theorem v_isx {C : Cfg} {ρ : Env'} {m : Mu} {k : Nat} {e : E} : evE C (.isx k e) ρ m = bnd (evE C e ρ m) (fun x m1 => .opt (isxD C.sub k x) m1) .mk := by rw [evE]; rfl
theorem isx_n {f : Nat → Nat → Option Bool} {k : Nat} : isxD f k .non = some (.bl false) := rfl
theorem isx_x {f : Nat → Nat → Option Bool} {k c : Nat} : isxD f k (.exc c) = (f c k).map D.bl := rfl
def triE (i : Nat) (r : Fl) : Fl := match r with
  | .nxt ρ2 m2 => .nxt (ρ2.set i none) m2
  | r => r
theorem triE_n {i : Nat} {ρ : Env'} {m : Mu} : triE i (.nxt ρ m) = .nxt (ρ.set i none) m := rfl
def triF (C : Cfg) (k i : Nat) (s : Sts) (r : Fl) : Fl := match r with
  | .err c ρ1 m1 => bC .stuck (C.sub c k) (triE i (evSs C s (ρ1.set i (some (.exc c))) m1)) (.err c ρ1 m1) .mk .mk
  | r => r
theorem triF_n {C : Cfg} {k i : Nat} {s : Sts} {ρ : Env'} {m : Mu} : triF C k i s (.nxt ρ m) = .nxt ρ m := rfl
theorem triF_r {C : Cfg} {k i : Nat} {s : Sts} {d : D} {m : Mu} : triF C k i s (.ret d m) = .ret d m := rfl
theorem triF_e {C : Cfg} {k i : Nat} {s : Sts} {c : Nat} {ρ1 : Env'} {m1 : Mu} : triF C k i s (.err c ρ1 m1) = bC .stuck (C.sub c k) (triE i (evSs C s (ρ1.set i (some (.exc c))) m1)) (.err c ρ1 m1) .mk .mk := rfl
theorem w_tri {C : Cfg} {ρ : Env'} {m : Mu} {b s : Sts} {k i : Nat} : evS C (.tri b k (some i) s) ρ m = triF C k i s (evSs C b ρ m) := by
  rw [evS]
  cases evSs C b ρ m with
  | err c ρ1 m1 =>
    rw [triF_e, bc_of]
    dsimp only
    cases C.sub c k with
    | none => rfl
    | some b =>
      cases b with
      | true =>
        dsimp only
        cases evSs C s (ρ1.set i (some (.exc c))) m1 <;> rfl
      | false => rfl
  | _ => rfl
/-! ### comprehensions whose step raises, tuple(zip) -/
def trX (C : Cfg) (tg : Tgt) (e : E) (ρ : Env') (xs : List D) (m : Mu) : Res (List D) := turnsX (stepX C tg e ρ) xs m
theorem w_asgX {C : Cfg} {ρ : Env'} {m : Mu} {i : Nat} {tg : Tgt} {it : I} {e : E} : evS C (.asgX i tg it e) ρ m = bfl (evI C it ρ m) ρ (fun xs m1 => bfl (trX C tg e ρ xs m1) ρ (fun ys m2 => bC .stuck (some (decide (i < ρ.length))) (.nxt (ρ.set i (some (.lst ys))) m2) .stuck .mk .mk) .mk .mk) .mk .mk := by
  rw [evS]
  show Res.fl _ _ _ = Res.fl _ _ _
  refine congrArg _ (funext fun xs => funext fun m1 => ?_)
  show Res.fl _ _ _ = Res.fl _ _ _
  refine congrArg _ (funext fun ys => funext fun m2 => ?_)
  by_cases h : i < ρ.length
  · rw [if_pos h, decide_eq_true h]; rfl
  · rw [if_neg h, decide_eq_false h]; rfl
/-- each step tells, or raises c -/
theorem trX_all {α : Type} {C : Cfg} {tg : Tgt} {e : E} {ρ : Env'} (f h : α → D) (p : α → Bool) (c : Nat) (l : List α) (hs : ∀ x ∈ l, ∀ m, stepX C tg e ρ (f x) m = if p x = true then .ok (h x) m else .err c m) (m : Mu) : trX C tg e ρ (l.map f) m = if l.all p = true then .ok (l.map h) m else .err c m := by
  unfold trX
  induction l with
  | nil => rfl
  | cons x l ih =>
    rw [List.map_cons, turnsX, hs x List.mem_cons_self m]
    by_cases hp : p x = true
    · rw [if_pos hp, Res.bind_ok, ih fun y hy => hs y (List.mem_cons_of_mem _ hy)]
      by_cases hl : l.all p = true
      · rw [if_pos hl, Res.bind_ok, if_pos (by rw [List.all_cons, hp, hl]; rfl)]; rfl
      · rw [if_neg hl, Res.bind_err, if_neg (by rw [List.all_cons, hp, Bool.true_and]; exact hl)]
    · rw [if_neg hp, Res.bind_err, if_neg]
      rw [List.all_cons, Bool.eq_false_iff.mpr hp]
      exact Bool.false_ne_true
theorem v_tzip {C : Cfg} {ρ : Env'} {m : Mu} {a b : E} : evE C (.tzip a b) ρ m = bnd (evE C a ρ m) (fun x m1 => bnd (evE C b ρ m1) (fun y m2 => .opt (tzD x y) m2) .mk) .mk := by rw [evE]; rfl
theorem tz_ll {a b : List D} : tzD (.lst a) (.lst b) = some (.tup (List.zipWith (fun x y => .tup [x, y]) a b)) := rfl
theorem v_rep {C : Cfg} {ρ : Env'} {m : Mu} {y z : List Nat} {e : E} : evE C (.rep y z e) ρ m = bnd (evE C e ρ m) (fun x m1 => .opt (repD y z x) m1) .mk := by rw [evE]; rfl
end MP

set_option maxRecDepth 100000
set_option maxHeartbeats 8000000
set_option autoImplicit false
namespace MP
open PySem L2
/-! ### the defs -/
def B_0 : Sts := (.cons (.ret (.and2 (.isi [.int] (.var 0)) (.and2 (.not1 (.isi [.bool] (.var 0))) (.chain .le .le (.var 1) (.var 0) (.var 2))))) .nil)
def F_0 : Fn := ⟨3, 3, B_0⟩
def B_1 : Sts := (.cons (.ifs (.or2 (.not1 (.isi [.str] (.var 0))) (.cmp .gt (.bi .len (.cons (.var 0) .nil)) (.glob "MOST_LETTERS" (.int 8)))) (.cons (.ret (.lit (.bl false))) .nil) .nil) (.cons (.ret (.bi .all (.cons (.comp (.one 1) (.e (.var 0)) .no (.cmp .isin (.var 1) (.glob "LETTERS" (.str [97, 98, 99, 100, 101, 102, 103, 104, 105, 106, 107, 108, 109, 110, 111, 112, 113, 114, 115, 116, 117, 118, 119, 120, 121, 122])))) .nil))) .nil))
def F_1 : Fn := ⟨1, 2, B_1⟩
def B_2 : Sts := (.cons (.ret (.or2 (.call 0 (.cons (.var 0) (.cons (.lit (.int 0)) (.cons (.glob "MOST_NUMBER" (.int 999999999999)) .nil)))) (.call 1 (.cons (.var 0) .nil)))) .nil)
def F_2 : Fn := ⟨1, 1, B_2⟩
def B_3 : Sts := (.cons (.ifs (.or2 (.not1 (.isi [.tuple] (.var 0))) (.not1 (.chain .le .le (.lit (.int 1)) (.bi .len (.cons (.var 0) .nil)) (.glob "MOST_PARTS" (.int 4))))) (.cons (.ret (.lit (.bl false))) .nil) .nil) (.cons (.ret (.bi .all (.cons (.comp (.one 1) (.e (.var 0)) .no (.call 2 (.cons (.var 1) .nil))) .nil))) .nil))
def F_3 : Fn := ⟨1, 2, B_3⟩
def B_7 : Sts := (.cons (.asg (.one 2) (.bin .add (.bin .mul (.lit (.int 7919)) (.var 1)) (.lit (.int 11)))) (.cons (.asg (.one 3) (.lit (.int 0))) (.cons (.ifs (.cmp .ne (.var 0) (.lst .nil)) (.cons (.asg (.one 5) (.bin .fdiv (.var 1) (.bi .len (.cons (.var 0) .nil)))) (.cons (.asg (.one 2) (.bin .add (.bin .add (.bin .mul (.idx (.var 0) (.bin .mod (.var 1) (.bi .len (.cons (.var 0) .nil)))) (.lit (.int 48271))) (.bin .mul (.lit (.int 104729)) (.var 1))) (.bin .mul (.var 5) (.lit (.int 7919))))) (.cons (.ifs (.cmp .ge (.idx (.var 0) (.bin .mod (.var 1) (.bi .len (.cons (.var 0) .nil)))) (.bin .pow (.lit (.int 10)) (.lit (.int 18)))) (.cons (.asg (.one 6) (.bin .add (.lit (.int 1)) (.bin .mul (.bin .add (.var 5) (.lit (.int 1))) (.lit (.int 4014476939333036189094441199026045136645885247730))))) (.cons (.asg (.one 3) (.bin .mod (.bin .fdiv (.idx (.var 0) (.bin .mod (.var 1) (.bi .len (.cons (.var 0) .nil)))) (.bin .pow (.lit (.int 10)) (.lit (.int 18)))) (.var 6))) .nil)) .nil) (.cons (.fgt [6]) .nil)))) .nil) (.cons (.fgt [5, 6]) (.cons (.asg (.one 4) (.bin .mod (.var 2) (.lit (.int 2147483647)))) (.cons (.asg (.one 4) (.bin .mod (.bin .mul (.var 4) (.var 4)) (.lit (.int 2147483629)))) (.cons (.ret (.bin .mod (.bin .add (.bin .add (.bin .add (.bin .mul (.var 4) (.var 4)) (.bin .mul (.lit (.int 69621)) (.var 4))) (.var 1)) (.var 3)) (.lit (.int 2147483587)))) .nil)))))))
def F_7 : Fn := ⟨2, 7, B_7⟩
def B_14 : Sts := (.cons (.own 1 (.lst .nil)) (.cons (.ifs (.isN false (.var 0)) (.cons (.ret (.lit (.str []))) .nil) .nil) (.cons (.ifs (.isx 1 (.var 0)) (.cons (.app 1 (.lit (.str [78, 111, 75, 101, 121]))) .nil) .nil) (.cons (.ifs (.isx 2 (.var 0)) (.cons (.app 1 (.lit (.str [78, 111, 86, 97, 108, 117, 101]))) .nil) .nil) (.cons (.ifs (.isx 3 (.var 0)) (.cons (.app 1 (.lit (.str [78, 111, 67, 111, 100, 101]))) .nil) .nil) (.cons (.ifs (.isx 4 (.var 0)) (.cons (.app 1 (.lit (.str [78, 111, 82, 111, 111, 109]))) .nil) .nil) (.cons (.ifs (.isx 5 (.var 0)) (.cons (.app 1 (.lit (.str [78, 111, 80, 97, 103, 101]))) .nil) .nil) (.cons (.ifs (.isx 6 (.var 0)) (.cons (.app 1 (.lit (.str [78, 111, 80, 108, 97, 99, 101]))) .nil) .nil) (.cons (.ifs (.isx 7 (.var 0)) (.cons (.app 1 (.lit (.str [78, 111, 86, 101, 114, 115, 105, 111, 110]))) .nil) .nil) (.cons (.ifs (.isx 8 (.var 0)) (.cons (.app 1 (.lit (.str [78, 111, 77, 97, 114, 107]))) .nil) .nil) (.cons (.ifs (.isx 9 (.var 0)) (.cons (.app 1 (.lit (.str [78, 111, 78, 111, 100, 101]))) .nil) .nil) (.cons (.ifs (.isx 10 (.var 0)) (.cons (.app 1 (.lit (.str [78, 111, 82, 111, 119]))) .nil) .nil) (.cons (.ifs (.and2 (.cmp .eq (.bi .len (.cons (.var 1) .nil)) (.lit (.int 1))) (.isx 11 (.var 0))) (.cons (.ret (.idx (.var 1) (.lit (.int 0)))) .nil) .nil) (.cons (.ret (.lit (.str [111, 116, 104, 101, 114]))) .nil))))))))))))))
def F_14 : Fn := ⟨1, 2, B_14⟩
def B_29 : Sts := (.cons (.ifs (.isi [.list, .tuple] (.var 1)) (.cons (.ifs (.or2 (.cmp .ne (.isi [.list] (.var 0)) (.isi [.list] (.var 1))) (.not1 (.isi [.list, .tuple] (.var 0)))) (.cons (.ret (.lit (.bl false))) .nil) .nil) (.cons (.ifs (.cmp .ne (.bi .len (.cons (.var 0) .nil)) (.bi .len (.cons (.var 1) .nil))) (.cons (.ret (.lit (.bl false))) .nil) .nil) (.cons (.ret (.cmp .eq (.comp (.one 2) (.rng1 (.bi .len (.cons (.var 1) .nil))) (.yes (.not1 (.call 29 (.cons (.idx (.var 0) (.var 2)) (.cons (.idx (.var 1) (.var 2)) .nil))))) (.var 2)) (.lst .nil))) .nil))) .nil) (.cons (.ifs (.or2 (.isN false (.var 0)) (.isN false (.var 1))) (.cons (.ret (.and2 (.isN false (.var 0)) (.isN false (.var 1)))) .nil) .nil) (.cons (.ifs (.or2 (.cmp .ne (.isi [.bool] (.var 0)) (.isi [.bool] (.var 1))) (.cmp .ne (.isi [.str] (.var 0)) (.isi [.str] (.var 1)))) (.cons (.ret (.lit (.bl false))) .nil) .nil) (.cons (.ret (.cmp .eq (.var 0) (.var 1))) .nil))))
def F_29 : Fn := ⟨2, 3, B_29⟩
def B_35_c0 : E := (.and2 (.cmp .lt (.var 3) (.bi .len (.cons (.var 1) .nil))) (.and2 (.cmp .lt (.var 3) (.bi .len (.cons (.var 2) .nil))) (.cmp .eq (.idx (.var 1) (.var 3)) (.idx (.var 2) (.var 3)))))
def B_35_b1 : Sts := (.cons (.asg (.one 3) (.bin .add (.var 3) (.lit (.int 1)))) .nil)
def B_35 : Sts := (.cons (.ifs (.not1 (.var 0)) (.cons (.ret (.lit (.str []))) .nil) .nil) (.cons (.asg (.one 1) (.bi .min (.cons (.var 0) .nil))) (.cons (.asg (.one 2) (.bi .max (.cons (.var 0) .nil))) (.cons (.asg (.one 3) (.lit (.int 0))) (.cons (.fgt [0]) (.cons (.whl B_35_c0 B_35_b1) (.cons (.ret (.sl (.var 1) .no (.yes (.var 3)))) .nil)))))))
def F_35 : Fn := ⟨1, 4, B_35⟩
def B_37_b0 : Sts := (.cons (.asg (.one 2) (.bin .add (.var 2) (.idx (.var 1) (.bin .mod (.bin .fdiv (.bin .fdiv (.var 0) (.lit (.int 5))) (.bin .add (.lit (.int 1)) (.bin .mul (.bin .mul (.lit (.int 14)) (.var 3)) (.var 3)))) (.idx (.lst (.cons (.lit (.int 3)) (.cons (.lit (.int 14)) .nil))) (.bin .mod (.bin .fdiv (.var 0) (.lit (.int 7))) (.lit (.int 2)))))))) (.cons (.fgt [3]) .nil))
def B_37 : Sts := (.cons (.asg (.one 1) (.lst (.cons (.lit (.str [])) (.cons (.lit (.str [97])) (.cons (.lit (.str [97, 98])) (.cons (.lit (.str [65, 49])) (.cons (.lit (.str [65, 49, 50])) (.cons (.lit (.str [116, 97, 98, 46])) (.cons (.lit (.str [116, 46])) (.cons (.lit (.str [98])) (.cons (.lit (.str [66, 49, 48])) (.cons (.lit (.str [97, 97])) (.cons (.lit (.str [122])) (.cons (.lit (.str [32])) (.cons (.lit (.str [126])) (.cons (.lit (.str [97, 98, 99])) .nil)))))))))))))))) (.cons (.asg (.one 2) (.lit (.str []))) (.cons (.fors (.one 3) (.rng1 (.bin .mod (.var 0) (.lit (.int 5)))) B_37_b0) (.cons (.ret (.var 2)) .nil))))
def F_37 : Fn := ⟨1, 4, B_37⟩
def B_38_b0 : Sts := (.cons (.ifs (.cmp .ne (.comp (.one 3) (.e (.var 0)) (.yes (.cmp .ne (.sl (.var 3) .no (.yes (.bin .add (.var 2) (.lit (.int 1))))) (.sl (.idx (.var 0) (.lit (.int 0))) .no (.yes (.bin .add (.var 2) (.lit (.int 1))))))) (.var 3)) (.lst .nil)) (.cons (.ret (.var 1)) .nil) .nil) (.cons (.asg (.one 1) (.sl (.idx (.var 0) (.lit (.int 0))) .no (.yes (.bin .add (.var 2) (.lit (.int 1)))))) (.cons (.fgt [2]) .nil)))
def B_38 : Sts := (.cons (.ifs (.cmp .eq (.var 0) (.lst .nil)) (.cons (.ret (.lit (.str []))) .nil) .nil) (.cons (.asg (.one 1) (.lit (.str []))) (.cons (.fors (.one 2) (.rng1 (.bi .len (.cons (.idx (.var 0) (.lit (.int 0))) .nil))) B_38_b0) (.cons (.ret (.var 1)) .nil))))
def F_38 : Fn := ⟨1, 4, B_38⟩
def B_53_b0 : Sts := (.cons (.asg (.one 2) (.bin .add (.var 2) (.idx (.var 1) (.bin .mod (.bin .fdiv (.var 3) (.var 5)) (.var 4))))) (.cons (.asg (.one 5) (.bin .mul (.var 5) (.lit (.int 8)))) (.cons (.fgt [6]) .nil)))
def B_53 : Sts := (.cons (.asg (.one 1) (.lit (.str [97, 98, 65, 46, 48, 126, 32, 55]))) (.cons (.asg (.one 2) (.idx (.lst (.cons (.lit (.str [])) (.cons (.lit (.str [97])) (.cons (.lit (.str [97, 98])) (.cons (.lit (.str [65, 55, 116])) (.cons (.bin .mul (.lit (.str [97])) (.bin .mod (.bin .fdiv (.var 0) (.lit (.int 7))) (.lit (.int 40)))) (.cons (.bin .mul (.lit (.str [107])) (.bin .mod (.bin .fdiv (.var 0) (.lit (.int 7))) (.lit (.int 93)))) .nil))))))) (.bin .mod (.bin .mod (.var 0) (.lit (.int 7))) (.lit (.int 6))))) (.cons (.asg (.one 3) (.bin .fdiv (.var 0) (.lit (.int 300)))) (.cons (.asg (.one 4) (.idx (.lst (.cons (.lit (.int 2)) (.cons (.lit (.int 8)) .nil))) (.bin .mod (.bin .fdiv (.var 3) (.lit (.int 11))) (.lit (.int 2))))) (.cons (.asg (.one 5) (.lit (.int 16))) (.cons (.fgt [0]) (.cons (.fors (.one 6) (.rng1 (.bin .mod (.var 3) (.idx (.lst (.cons (.lit (.int 3)) (.cons (.lit (.int 8)) .nil))) (.bin .mod (.bin .fdiv (.var 3) (.lit (.int 8))) (.lit (.int 2)))))) B_53_b0) (.cons (.ret (.var 2)) .nil))))))))
def F_53 : Fn := ⟨1, 7, B_53⟩
def B_141_b0 : Sts := (.cons (.asg (.one 1) (.bin .mod (.bin .mul (.var 1) (.bin .add (.var 0) (.var 2))) (.bin .pow (.lit (.int 10)) (.lit (.int 60))))) (.cons (.fgt [2]) .nil))
def B_141 : Sts := (.cons (.asg (.one 1) (.lit (.int 1))) (.cons (.fors (.one 2) (.rng1 (.lit (.int 7))) B_141_b0) (.cons (.ret (.idx (.lst (.cons (.bin .mod (.var 0) (.lit (.int 10))) (.cons (.var 1) .nil))) (.bin .mod (.bin .fdiv (.var 0) (.lit (.int 10))) (.lit (.int 2))))) .nil)))
def F_141 : Fn := ⟨1, 3, B_141⟩
def B_347_b0 : Sts := (.cons (.asg (.one 1) (.bin .add (.var 1) (.lst (.cons (.bin .add (.lit (.str [61])) (.var 2)) (.cons (.bi .str (.cons (.var 3) .nil)) .nil))))) (.cons (.fgt [2, 3]) .nil))
def B_347 : Sts := (.cons (.asg (.one 1) (.lst (.cons (.lit (.str [108, 101, 97, 102])) (.cons (.bin .add (.lit (.str [61])) (.idx (.var 0) (.lit (.int 1)))) .nil)))) (.cons (.fors (.many [2, 3]) (.e (.idx (.var 0) (.lit (.int 2)))) B_347_b0) (.cons (.ret (.var 1)) .nil)))
def F_347 : Fn := ⟨1, 4, B_347⟩
def B_348_b0 : Sts := (.cons (.ifs (.cmp .gt (.var 2) (.lit (.int 0))) (.cons (.app 1 (.bin .add (.lit (.str [61])) (.idx (.idx (.var 0) (.lit (.int 1))) (.bin .sub (.var 2) (.lit (.int 1)))))) .nil) .nil) (.cons (.own 1 (.bin .add (.var 1) (.lst (.cons (.bi .str (.cons (.idx (.var 3) (.lit (.int 0))) .nil)) (.cons (.bi .str (.cons (.idx (.var 3) (.lit (.int 1))) .nil)) .nil))))) (.cons (.fgt [2, 3]) .nil)))
def B_348 : Sts := (.cons (.own 1 (.lst (.cons (.lit (.str [98, 114, 97, 110, 99, 104])) .nil))) (.cons (.fors (.many [2, 3]) (.enum (.idx (.var 0) (.lit (.int 2)))) B_348_b0) (.cons (.ret (.var 1)) .nil)))
def F_348 : Fn := ⟨1, 4, B_348⟩
def B_349 : Sts := (.cons (.ifs (.cmp .eq (.idx (.var 0) (.lit (.int 0))) (.lit (.str [108, 101, 97, 102]))) (.cons (.ret (.mth .sjoin (.lit (.str [32])) (.cons (.call 347 (.cons (.var 0) .nil)) .nil))) .nil) .nil) (.cons (.ret (.mth .sjoin (.lit (.str [32])) (.cons (.call 348 (.cons (.var 0) .nil)) .nil))) .nil))
def F_349 : Fn := ⟨1, 1, B_349⟩
def B_350 : Sts := (.cons (.ifs (.or2 (.not1 (.chain .le .le (.lit (.int 1)) (.bi .len (.cons (.var 0) .nil)) (.var 1))) (.not1 (.bi .all (.cons (.comp (.one 2) (.e (.var 0)) .no (.cmp .isin (.var 2) (.glob "FIGURES" (.str [48, 49, 50, 51, 52, 53, 54, 55, 56, 57])))) .nil)))) (.cons (.rais 9) .nil) .nil) (.cons (.ifs (.and2 (.cmp .gt (.bi .len (.cons (.var 0) .nil)) (.lit (.int 1))) (.cmp .eq (.idx (.var 0) (.lit (.int 0))) (.lit (.str [48])))) (.cons (.rais 9) .nil) .nil) (.cons (.ret (.bi .int (.cons (.var 0) .nil))) .nil)))
def F_350 : Fn := ⟨2, 3, B_350⟩
def B_351 : Sts := (.cons (.ifs (.or2 (.cmp .ne (.sl (.var 0) .no (.yes (.lit (.int 1)))) (.lit (.str [61]))) (.not1 (.bi .all (.cons (.comp (.one 1) (.e (.sl (.var 0) (.yes (.lit (.int 1))) .no)) .no (.cmp .isin (.var 1) (.glob "SIGNS" (.str [65, 66, 67, 68, 69, 70, 71, 72, 73, 74, 75, 76, 97, 98, 99, 100, 101, 102, 103, 104, 105, 106, 107, 108, 109, 110, 111, 112, 113, 114, 115, 116, 117, 118, 119, 120, 121, 122, 48, 49, 50, 51, 52, 53, 54, 55, 56, 57, 46])))) .nil)))) (.cons (.rais 9) .nil) .nil) (.cons (.ret (.sl (.var 0) (.yes (.lit (.int 1))) .no)) .nil))
def F_351 : Fn := ⟨1, 2, B_351⟩
def B_352_b0 : Sts := (.cons (.ifs (.not1 (.cmp .lt (.idx (.var 0) (.bin .sub (.var 1) (.lit (.int 1)))) (.idx (.var 0) (.var 1)))) (.cons (.rais 9) .nil) .nil) (.cons (.fgt [1]) .nil))
def B_352 : Sts := (.cons (.fors (.one 1) (.rng2 (.lit (.int 1)) (.bi .len (.cons (.var 0) .nil))) B_352_b0) .nil)
def F_352 : Fn := ⟨1, 2, B_352⟩
def B_353 : Sts := (.cons (.ifs (.cmp .eq (.bin .mod (.bi .len (.cons (.var 0) .nil)) (.lit (.int 2))) (.lit (.int 1))) (.cons (.rais 9) .nil) .nil) (.cons (.asg (.one 1) (.call 351 (.cons (.idx (.var 0) (.lit (.int 1))) .nil))) (.cons (.asgX 2 (.one 4) (.e (.slS (.var 0) (.yes (.lit (.int 2))) 2)) (.call 351 (.cons (.var 4) .nil))) (.cons (.asgX 3 (.one 4) (.e (.slS (.var 0) (.yes (.lit (.int 3))) 2)) (.call 350 (.cons (.var 4) (.cons (.glob "VALUE_FIGURES" (.int 60)) .nil)))) (.cons (.drop (.call 352 (.cons (.var 2) .nil))) (.cons (.ifs (.or2 (.cmp .ne (.call 35 (.cons (.var 2) .nil)) (.lit (.str []))) (.and2 (.not1 (.var 2)) (.cmp .ne (.var 1) (.lit (.str []))))) (.cons (.rais 9) .nil) .nil) (.cons (.ret (.tup (.cons (.lit (.str [108, 101, 97, 102])) (.cons (.var 1) (.cons (.tzip (.var 2) (.var 3)) .nil))))) .nil)))))))
def F_353 : Fn := ⟨1, 5, B_353⟩
def B_354 : Sts := (.cons (.ifs (.or2 (.cmp .lt (.bi .len (.cons (.var 0) .nil)) (.lit (.int 3))) (.cmp .ne (.bin .mod (.bi .len (.cons (.var 0) .nil)) (.lit (.int 3))) (.lit (.int 0)))) (.cons (.rais 9) .nil) .nil) (.cons (.asgX 1 (.one 4) (.e (.slS (.var 0) (.yes (.lit (.int 3))) 3)) (.call 351 (.cons (.var 4) .nil))) (.cons (.asgX 2 (.one 4) (.e (.slS (.var 0) (.yes (.lit (.int 1))) 3)) (.call 350 (.cons (.var 4) (.cons (.glob "PAGE_FIGURES" (.int 6)) .nil)))) (.cons (.asgX 3 (.one 4) (.e (.slS (.var 0) (.yes (.lit (.int 2))) 3)) (.call 350 (.cons (.var 4) (.cons (.glob "PAGE_FIGURES" (.int 6)) .nil)))) (.cons (.drop (.call 352 (.cons (.var 1) .nil))) (.cons (.ret (.tup (.cons (.lit (.str [98, 114, 97, 110, 99, 104])) (.cons (.bi .tuple (.cons (.var 1) .nil)) (.cons (.tzip (.var 2) (.var 3)) .nil))))) .nil))))))
def F_354 : Fn := ⟨1, 5, B_354⟩
def B_355 : Sts := (.cons (.ifs (.not1 (.isi [.str] (.var 0))) (.cons (.rais 9) .nil) .nil) (.cons (.asg (.one 1) (.mth .ssplit (.var 0) (.cons (.lit (.str [32])) .nil))) (.cons (.ifs (.cmp .eq (.idx (.var 1) (.lit (.int 0))) (.lit (.str [108, 101, 97, 102]))) (.cons (.ret (.call 353 (.cons (.var 1) .nil))) .nil) .nil) (.cons (.ifs (.cmp .eq (.idx (.var 1) (.lit (.int 0))) (.lit (.str [98, 114, 97, 110, 99, 104]))) (.cons (.ret (.call 354 (.cons (.var 1) .nil))) .nil) .nil) (.cons (.rais 9) .nil)))))
def F_355 : Fn := ⟨1, 2, B_355⟩
def B_358_b0 : Sts := (.cons (.asg (.one 3) (.bin .add (.var 3) (.idx (.var 2) (.bin .mod (.var 0) (.lit (.int 12)))))) (.cons (.asg (.one 0) (.bin .add (.bin .fdiv (.var 0) (.lit (.int 12))) (.bin .mul (.lit (.int 7919)) (.var 4)))) (.cons (.fgt [4]) .nil)))
def B_358 : Sts := (.cons (.asg (.one 2) (.lit (.str [65, 55, 116, 46, 98, 76, 48, 57, 122, 65, 116, 49]))) (.cons (.asg (.one 3) (.lit (.str []))) (.cons (.fors (.one 4) (.rng1 (.var 1)) B_358_b0) (.cons (.ret (.var 3)) .nil))))
def F_358 : Fn := ⟨2, 5, B_358⟩
def B_359_c0 : E := (.or2 (.and2 (.cmp .eq (.bi .len (.cons (.var 5) .nil)) (.lit (.int 1))) (.cmp .ne (.idx (.var 5) (.lit (.int 0))) (.lit (.str [])))) (.and2 (.cmp .ne (.idx (.var 5) (.lit (.int 0))) (.lit (.str []))) (.cmp .eq (.idx (.idx (.var 5) (.lit (.int 0))) (.lit (.int 0))) (.idx (.idx (.var 5) (.lit (.int (-1)))) (.lit (.int 0))))))
def B_359_b1 : Sts := (.cons (.asg (.one 6) (.bin .add (.var 6) (.idx (.idx (.var 5) (.lit (.int 0))) (.lit (.int 0))))) (.cons (.asg (.one 5) (.comp (.one 9) (.e (.var 5)) .no (.sl (.var 9) (.yes (.lit (.int 1))) .no))) .nil))
def B_359 : Sts := (.cons (.asg (.one 2) (.call 7 (.cons (.var 0) (.cons (.var 1) .nil)))) (.cons (.asg (.one 3) (.bin .mod (.bin .fdiv (.var 2) (.lit (.int 4))) (.lit (.int 7)))) (.cons (.asg (.one 4) (.bi .dict (.cons (.comp (.one 8) (.rng1 (.var 3)) .no (.tup (.cons (.call 358 (.cons (.call 7 (.cons (.var 0) (.cons (.bin .add (.bin .add (.bin .mul (.lit (.int 100)) (.var 1)) (.lit (.int 700))) (.var 8)) .nil))) (.cons (.bin .mod (.bin .add (.var 8) (.bin .fdiv (.var 2) (.lit (.int 196)))) (.lit (.int 4))) .nil))) (.cons (.var 8) .nil)))) .nil))) (.cons (.asg (.one 5) (.bi .sorted (.cons (.var 4) .nil))) (.cons (.ifs (.cmp .eq (.bin .mod (.var 2) (.lit (.int 4))) (.lit (.int 0))) (.cons (.asg (.one 7) (.comp (.one 8) (.rng1 (.bin .add (.bi .len (.cons (.var 5) .nil)) (.lit (.int 1)))) .no (.tup (.cons (.bin .mod (.call 7 (.cons (.var 0) (.cons (.bin .add (.lit (.int 40)) (.var 8)) .nil))) (.bin .pow (.lit (.int 10)) (.lit (.int 6)))) (.cons (.bin .mod (.call 7 (.cons (.var 0) (.cons (.bin .add (.bin .add (.lit (.int 60)) (.var 8)) (.var 1)) .nil))) (.lit (.int 500))) .nil))))) (.cons (.ret (.tup (.cons (.lit (.str [98, 114, 97, 110, 99, 104])) (.cons (.bi .tuple (.cons (.var 5) .nil)) (.cons (.bi .tuple (.cons (.var 7) .nil)) .nil))))) .nil)) .nil) (.cons (.fgt [7]) (.cons (.asg (.one 6) (.call 358 (.cons (.bin .fdiv (.var 2) (.lit (.int 28))) (.cons (.bin .mod (.bin .fdiv (.var 2) (.lit (.int 9))) (.lit (.int 5))) .nil)))) (.cons (.ifs (.cmp .eq (.var 5) (.lst .nil)) (.cons (.ret (.tup (.cons (.lit (.str [108, 101, 97, 102])) (.cons (.lit (.str [])) (.cons (.tup .nil) .nil))))) .nil) .nil) (.cons (.fgt [2, 3, 4]) (.cons (.whl B_359_c0 B_359_b1) (.cons (.ret (.tup (.cons (.lit (.str [108, 101, 97, 102])) (.cons (.var 6) (.cons (.bi .tuple (.cons (.comp (.many [8, 9]) (.enum (.var 5)) .no (.tup (.cons (.var 9) (.cons (.call 141 (.cons (.call 7 (.cons (.var 0) (.cons (.bin .add (.var 8) (.var 1)) .nil))) .nil)) .nil)))) .nil)) .nil))))) .nil)))))))))))
def F_359 : Fn := ⟨2, 10, B_359⟩
def B_360_b0 : Sts := (.cons (.asg (.one 1) (.bin .add (.bin .add (.bin .add (.bin .add (.var 1) (.lit (.str [32, 61]))) (.var 3)) (.lit (.str [32]))) (.bi .str (.cons (.var 4) .nil)))) (.cons (.fgt [3, 4]) .nil))
def B_360_b1 : Sts := (.cons (.ifs (.cmp .gt (.var 2) (.lit (.int 0))) (.cons (.asg (.one 1) (.bin .add (.bin .add (.var 1) (.lit (.str [32, 61]))) (.idx (.idx (.var 0) (.lit (.int 1))) (.bin .sub (.var 2) (.lit (.int 1)))))) .nil) .nil) (.cons (.asg (.one 1) (.bin .add (.bin .add (.bin .add (.bin .add (.var 1) (.lit (.str [32]))) (.bi .str (.cons (.idx (.idx (.idx (.var 0) (.lit (.int 2))) (.var 2)) (.lit (.int 0))) .nil))) (.lit (.str [32]))) (.bi .str (.cons (.idx (.idx (.idx (.var 0) (.lit (.int 2))) (.var 2)) (.lit (.int 1))) .nil)))) (.cons (.fgt [2]) .nil)))
def B_360 : Sts := (.cons (.ifs (.cmp .eq (.idx (.var 0) (.lit (.int 0))) (.lit (.str [108, 101, 97, 102]))) (.cons (.asg (.one 1) (.bin .add (.lit (.str [108, 101, 97, 102, 32, 61])) (.idx (.var 0) (.lit (.int 1))))) (.cons (.fors (.many [3, 4]) (.e (.idx (.var 0) (.lit (.int 2)))) B_360_b0) (.cons (.ret (.var 1)) .nil))) .nil) (.cons (.fgt [1, 3, 4]) (.cons (.asg (.one 1) (.lit (.str [98, 114, 97, 110, 99, 104]))) (.cons (.fors (.one 2) (.rng1 (.bi .len (.cons (.idx (.var 0) (.lit (.int 2))) .nil))) B_360_b1) (.cons (.ret (.var 1)) .nil)))))
def F_360 : Fn := ⟨1, 5, B_360⟩
def B_361 : Sts := (.cons (.ifs (.or2 (.cmp .eq (.var 0) (.lit (.str []))) (.or2 (.cmp .gt (.bi .len (.cons (.var 0) .nil)) (.var 1)) (.and2 (.cmp .gt (.bi .len (.cons (.var 0) .nil)) (.lit (.int 1))) (.cmp .eq (.idx (.var 0) (.lit (.int 0))) (.lit (.str [48])))))) (.cons (.ret (.lit .non)) .nil) .nil) (.cons (.ifs (.cmp .ne (.comp (.one 2) (.e (.var 0)) (.yes (.cmp .notin (.var 2) (.lit (.str [48, 49, 50, 51, 52, 53, 54, 55, 56, 57])))) (.var 2)) (.lst .nil)) (.cons (.ret (.lit .non)) .nil) .nil) (.cons (.ret (.bi .int (.cons (.var 0) .nil))) .nil)))
def F_361 : Fn := ⟨2, 3, B_361⟩
def B_362 : Sts := (.cons (.ifs (.cmp .ne (.sl (.var 0) .no (.yes (.lit (.int 1)))) (.lit (.str [61]))) (.cons (.ret (.lit .non)) .nil) .nil) (.cons (.ifs (.cmp .ne (.comp (.one 1) (.e (.sl (.var 0) (.yes (.lit (.int 1))) .no)) (.yes (.cmp .notin (.var 1) (.lit (.str [65, 66, 67, 68, 69, 70, 71, 72, 73, 74, 75, 76, 97, 98, 99, 100, 101, 102, 103, 104, 105, 106, 107, 108, 109, 110, 111, 112, 113, 114, 115, 116, 117, 118, 119, 120, 121, 122, 48, 49, 50, 51, 52, 53, 54, 55, 56, 57, 46])))) (.var 1)) (.lst .nil)) (.cons (.ret (.lit .non)) .nil) .nil) (.cons (.ret (.sl (.var 0) (.yes (.lit (.int 1))) .no)) .nil)))
def F_362 : Fn := ⟨1, 2, B_362⟩
def B_363 : Sts := (.cons (.ret (.cmp .eq (.comp (.one 1) (.rng2 (.lit (.int 1)) (.bi .len (.cons (.var 0) .nil))) (.yes (.not1 (.cmp .lt (.idx (.var 0) (.bin .sub (.var 1) (.lit (.int 1)))) (.idx (.var 0) (.var 1))))) (.var 1)) (.lst .nil))) .nil)
def F_363 : Fn := ⟨1, 2, B_363⟩
def B_364 : Sts := (.cons (.asg (.one 1) (.comp (.one 4) (.e (.bin .add (.sl (.var 0) (.yes (.lit (.int 1))) (.yes (.lit (.int 2)))) (.slS (.var 0) (.yes (.lit (.int 2))) 2))) .no (.call 362 (.cons (.var 4) .nil)))) (.cons (.asg (.one 2) (.comp (.one 4) (.e (.slS (.var 0) (.yes (.lit (.int 3))) 2)) .no (.call 361 (.cons (.var 4) (.cons (.lit (.int 60)) .nil))))) (.cons (.ifs (.or2 (.cmp .eq (.bin .mod (.bi .len (.cons (.var 0) .nil)) (.lit (.int 2))) (.lit (.int 1))) (.or2 (.cmp .isin (.lit .non) (.var 1)) (.or2 (.cmp .isin (.lit .non) (.var 2)) (.not1 (.call 363 (.cons (.sl (.var 1) (.yes (.lit (.int 1))) .no) .nil)))))) (.cons (.ret (.lit .non)) .nil) .nil) (.cons (.ifs (.cmp .eq (.bi .len (.cons (.var 1) .nil)) (.lit (.int 1))) (.cons (.ret (.idx (.lst (.cons (.lit .non) (.cons (.tup (.cons (.lit (.str [108, 101, 97, 102])) (.cons (.lit (.str [])) (.cons (.tup .nil) .nil)))) .nil))) (.bi .int (.cons (.cmp .eq (.idx (.var 1) (.lit (.int 0))) (.lit (.str []))) .nil)))) .nil) .nil) (.cons (.asg (.one 3) (.comp (.one 5) (.e (.sl (.var 1) (.yes (.lit (.int 1))) .no)) .no (.sl (.var 5) .no (.yes (.lit (.int 1)))))) (.cons (.ifs (.or2 (.cmp .eq (.var 3) (.lst (.cons (.lit (.str [])) .nil))) (.or2 (.and2 (.cmp .eq (.bi .len (.cons (.var 1) .nil)) (.lit (.int 2))) (.cmp .ne (.idx (.var 1) (.lit (.int 1))) (.lit (.str [])))) (.and2 (.cmp .gt (.bi .len (.cons (.var 1) .nil)) (.lit (.int 2))) (.cmp .eq (.idx (.var 3) (.lit (.int 0))) (.idx (.var 3) (.lit (.int (-1)))))))) (.cons (.ret (.idx (.lst (.cons (.lit .non) (.cons (.tup (.cons (.lit (.str [108, 101, 97, 102])) (.cons (.idx (.var 1) (.lit (.int 0))) (.cons (.tup (.cons (.tup (.cons (.idx (.var 1) (.lit (.int 1))) (.cons (.idx (.var 2) (.lit (.int 0))) .nil))) .nil)) .nil)))) .nil))) (.bi .int (.cons (.cmp .eq (.var 3) (.lst (.cons (.lit (.str [])) .nil))) .nil)))) .nil) .nil) (.cons (.ret (.tup (.cons (.lit (.str [108, 101, 97, 102])) (.cons (.idx (.var 1) (.lit (.int 0))) (.cons (.bi .tuple (.cons (.comp (.one 6) (.rng1 (.bi .len (.cons (.var 2) .nil))) .no (.tup (.cons (.idx (.var 1) (.bin .add (.var 6) (.lit (.int 1)))) (.cons (.idx (.var 2) (.var 6)) .nil)))) .nil)) .nil))))) .nil)))))))
def F_364 : Fn := ⟨1, 7, B_364⟩
def B_365 : Sts := (.cons (.asg (.one 1) (.mth .ssplit (.var 0) (.cons (.lit (.str [32])) .nil))) (.cons (.ifs (.cmp .eq (.idx (.var 1) (.lit (.int 0))) (.lit (.str [108, 101, 97, 102]))) (.cons (.ret (.call 364 (.cons (.var 1) .nil))) .nil) .nil) (.cons (.ifs (.or2 (.cmp .ne (.idx (.var 1) (.lit (.int 0))) (.lit (.str [98, 114, 97, 110, 99, 104]))) (.cmp .ne (.bin .mod (.bi .len (.cons (.var 1) .nil)) (.lit (.int 3))) (.lit (.int 0)))) (.cons (.ret (.lit .non)) .nil) .nil) (.cons (.asg (.one 2) (.comp (.one 5) (.e (.slS (.var 1) (.yes (.lit (.int 3))) 3)) .no (.call 362 (.cons (.var 5) .nil)))) (.cons (.asg (.one 3) (.comp (.one 5) (.e (.slS (.var 1) (.yes (.lit (.int 1))) 3)) .no (.call 361 (.cons (.var 5) (.cons (.lit (.int 6)) .nil))))) (.cons (.asg (.one 4) (.comp (.one 5) (.e (.slS (.var 1) (.yes (.lit (.int 2))) 3)) .no (.call 361 (.cons (.var 5) (.cons (.lit (.int 6)) .nil))))) (.cons (.ifs (.or2 (.cmp .isin (.lit .non) (.var 2)) (.or2 (.cmp .isin (.lit .non) (.var 3)) (.or2 (.cmp .isin (.lit .non) (.var 4)) (.not1 (.call 363 (.cons (.var 2) .nil)))))) (.cons (.ret (.lit .non)) .nil) .nil) (.cons (.ret (.tup (.cons (.lit (.str [98, 114, 97, 110, 99, 104])) (.cons (.bi .tuple (.cons (.var 2) .nil)) (.cons (.bi .tuple (.cons (.comp (.one 6) (.rng1 (.bi .len (.cons (.var 3) .nil))) .no (.tup (.cons (.idx (.var 3) (.var 6)) (.cons (.idx (.var 4) (.var 6)) .nil)))) .nil)) .nil))))) .nil))))))))
def F_365 : Fn := ⟨1, 7, B_365⟩
def B_366_b0 : Sts := (.cons (.asg (.one 1) (.call 355 (.cons (.var 0) .nil))) .nil)
def B_366 : Sts := (.cons (.asg (.one 1) (.lit .non)) (.cons (.asg (.one 2) (.lit .non)) (.cons (.tri B_366_b0 0 (some 3) (.cons (.asg (.one 2) (.var 3)) .nil)) (.cons (.ret (.tup (.cons (.call 14 (.cons (.var 2) .nil)) (.cons (.var 1) .nil)))) .nil))))
def F_366 : Fn := ⟨1, 4, B_366⟩
def B_375_b0 : Sts := (.cons (.asg (.one 5) (.call 349 (.cons (.var 3) .nil))) (.cons (.ifs (.or2 (.not1 (.isi [.str] (.var 5))) (.or2 (.cmp .ne (.var 5) (.call 360 (.cons (.var 3) .nil))) (.not1 (.call 29 (.cons (.call 355 (.cons (.var 5) .nil)) (.cons (.var 3) .nil)))))) (.cons (.ret (.lit (.bl false))) .nil) .nil) (.cons (.app 2 (.var 5)) (.cons (.fgt [3, 5]) .nil))))
def B_375_b1 : Sts := (.cons (.ifs (.cmp .ne (.cmp .eq (.idx (.var 2) (.var 4)) (.idx (.var 2) (.var 6))) (.cmp .eq (.idx (.var 1) (.var 4)) (.idx (.var 1) (.var 6)))) (.cons (.ret (.lit (.bl false))) .nil) .nil) (.cons (.fgt [6]) .nil))
def B_375_b2 : Sts := (.cons (.fors (.one 6) (.rng1 (.var 4)) B_375_b1) (.cons (.fgt [4, 6]) .nil))
def B_375 : Sts := (.cons (.asg (.one 1) (.comp (.one 4) (.rng1 (.bin .add (.bi .min (.cons (.lit (.int 20)) (.cons (.bi .len (.cons (.var 0) .nil)) .nil))) (.lit (.int 2)))) .no (.call 359 (.cons (.var 0) (.cons (.var 4) .nil))))) (.cons (.own 2 (.lst .nil)) (.cons (.fgt [0]) (.cons (.fors (.one 3) (.e (.var 1)) B_375_b0) (.cons (.fors (.one 4) (.rng1 (.bi .len (.cons (.var 1) .nil))) B_375_b2) (.cons (.ret (.cmp .eq (.comp (.one 3) (.e (.var 1)) .no (.call 349 (.cons (.var 3) .nil))) (.var 2))) .nil))))))
def F_375 : Fn := ⟨1, 7, B_375⟩
def B_376 : Sts := (.cons (.asg (.one 2) (.mth .ssplit (.var 0) (.cons (.lit (.str [32])) .nil))) (.cons (.asg (.one 3) (.bin .mod (.bin .fdiv (.var 1) (.lit (.int 8))) (.bi .len (.cons (.var 2) .nil)))) (.cons (.asg (.one 4) (.lst (.cons (.lit (.str [108, 101, 97, 102])) (.cons (.lit (.str [98, 114, 97, 110, 99, 104])) (.cons (.lit (.str [61])) (.cons (.lit (.str [])) (.cons (.lit (.str [48])) (.cons (.lit (.str [48, 48])) (.cons (.lit (.str [48, 49])) (.cons (.lit (.str [55])) (.cons (.lit (.str [61, 65, 55])) (.cons (.lit (.str [65, 55])) (.cons (.lit (.str [61, 61])) (.cons (.lit (.str [61, 77])) (.cons (.lit (.str [61, 97, 32, 98])) (.cons (.lit (.str [49, 48, 48, 48, 48, 48, 48])) (.cons (.lit (.str [57, 57, 57, 57, 57, 57])) (.cons (.lit (.str [45, 49])) .nil)))))))))))))))))) (.cons (.asg (.one 4) (.bin .add (.var 4) (.lst (.cons (.bin .add (.lit (.str [49])) (.bin .mul (.lit (.str [48])) (.lit (.int 60)))) (.cons (.bin .mul (.lit (.str [57])) (.lit (.int 60))) (.cons (.lit (.str [108, 101, 97, 118, 101, 115])) (.cons (.lit (.str [76, 101, 97, 102])) (.cons (.lit (.str [61, 122])) (.cons (.lit (.str [61, 46])) (.cons (.lit (.str [120])) (.cons (.lit (.str [78, 111, 110, 101])) .nil))))))))))) (.cons (.asg (.one 4) (.bin .add (.var 4) (.lst (.cons (.lit (.str [84, 114, 117, 101])) (.cons (.lit (.str [61, 65, 49, 61])) (.cons (.lit (.str [43, 53])) (.cons (.lit (.str [53, 46, 48])) (.cons (.lit (.str [61, 116, 97, 98, 46])) .nil)))))))) (.cons (.asg (.one 5) (.bin .mod (.bin .fdiv (.var 1) (.lit (.int 8))) (.bin .add (.bi .len (.cons (.var 0) .nil)) (.lit (.int 1))))) (.cons (.asg (.one 6) (.idx (.lit (.str [65, 55, 116, 46, 32, 61, 98, 48, 45, 77, 122])) (.bin .mod (.bin .fdiv (.var 1) (.lit (.int 900))) (.lit (.int 11))))) (.cons (.ifs (.cmp .eq (.bin .mod (.var 1) (.lit (.int 8))) (.lit (.int 0))) (.cons (.ret (.mth .sjoin (.lit (.str [32])) (.cons (.bin .add (.sl (.var 2) .no (.yes (.var 3))) (.sl (.var 2) (.yes (.bin .add (.var 3) (.lit (.int 1)))) .no)) .nil))) .nil) .nil) (.cons (.ifs (.cmp .eq (.bin .mod (.var 1) (.lit (.int 8))) (.lit (.int 1))) (.cons (.ret (.mth .sjoin (.lit (.str [32])) (.cons (.bin .add (.sl (.var 2) .no (.yes (.bin .add (.var 3) (.lit (.int 1))))) (.sl (.var 2) (.yes (.var 3)) .no)) .nil))) .nil) .nil) (.cons (.ifs (.cmp .lt (.bin .mod (.var 1) (.lit (.int 8))) (.lit (.int 4))) (.cons (.ret (.mth .sjoin (.lit (.str [32])) (.cons (.bin .add (.bin .add (.sl (.var 2) .no (.yes (.var 3))) (.lst (.cons (.idx (.var 4) (.bin .mod (.bin .fdiv (.var 1) (.lit (.int 900))) (.lit (.int 29)))) .nil))) (.sl (.var 2) (.yes (.bin .add (.var 3) (.lit (.int 1)))) .no)) .nil))) .nil) .nil) (.cons (.ifs (.cmp .eq (.bin .mod (.var 1) (.lit (.int 8))) (.lit (.int 4))) (.cons (.ret (.bin .add (.sl (.var 0) .no (.yes (.var 5))) (.sl (.var 0) (.yes (.bin .add (.var 5) (.lit (.int 1)))) .no))) .nil) .nil) (.cons (.ifs (.cmp .eq (.bin .mod (.var 1) (.lit (.int 8))) (.lit (.int 5))) (.cons (.ret (.bin .add (.bin .add (.sl (.var 0) .no (.yes (.var 5))) (.var 6)) (.sl (.var 0) (.yes (.bin .add (.var 5) (.bin .mod (.bin .fdiv (.var 1) (.lit (.int 9000))) (.lit (.int 2))))) .no))) .nil) .nil) (.cons (.ifs (.cmp .eq (.bin .mod (.var 1) (.lit (.int 8))) (.lit (.int 6))) (.cons (.ret (.mth .sjoin (.lit (.str [32])) (.cons (.bin .add (.bin .add (.sl (.var 2) .no (.yes (.var 3))) (.slS (.sl (.var 2) (.yes (.var 3)) (.yes (.bin .add (.var 3) (.lit (.int 2))))) .no (-1))) (.sl (.var 2) (.yes (.bin .add (.var 3) (.lit (.int 2)))) .no)) .nil))) .nil) .nil) (.cons (.ret (.idx (.lst (.cons (.bin .add (.lit (.str [32])) (.var 0)) (.cons (.bin .add (.var 0) (.lit (.str [32]))) (.cons (.rep [32] [32, 32] (.var 0)) (.cons (.mth .supper (.var 0) .nil) (.cons (.bin .add (.var 0) (.lit (.str [10]))) (.cons (.lit (.str [])) .nil))))))) (.bin .mod (.bin .fdiv (.var 1) (.lit (.int 8))) (.lit (.int 6))))) .nil))))))))))))))
def F_376 : Fn := ⟨2, 7, B_376⟩
def B_377_b0 : Sts := (.cons (.asg (.one 3) (.call 360 (.cons (.call 359 (.cons (.var 0) (.cons (.var 1) .nil))) .nil))) (.cons (.ifs (.cmp .gt (.bin .mod (.call 7 (.cons (.var 0) (.cons (.bin .add (.lit (.int 9000)) (.var 1)) .nil))) (.lit (.int 4))) (.lit (.int 0))) (.cons (.asg (.one 3) (.call 376 (.cons (.var 3) (.cons (.call 7 (.cons (.var 0) (.cons (.bin .add (.lit (.int 9100)) (.var 1)) .nil))) .nil)))) .nil) .nil) (.cons (.asg (.one 4) (.call 365 (.cons (.var 3) .nil))) (.cons (.asg (.many [5, 6]) (.call 366 (.cons (.var 3) .nil))) (.cons (.ifs (.and2 (.isN false (.var 4)) (.cmp .ne (.var 5) (.lit (.str [78, 111, 78, 111, 100, 101])))) (.cons (.ret (.lit (.bl false))) .nil) .nil) (.cons (.ifs (.and2 (.isN true (.var 4)) (.or2 (.cmp .ne (.var 5) (.lit (.str []))) (.not1 (.call 29 (.cons (.var 6) (.cons (.var 4) .nil)))))) (.cons (.ret (.lit (.bl false))) .nil) .nil) (.cons (.ifs (.and2 (.isN true (.var 4)) (.cmp .ne (.call 349 (.cons (.var 6) .nil)) (.var 3))) (.cons (.ret (.lit (.bl false))) .nil) .nil) (.cons (.fgt [1, 3, 4, 5, 6]) .nil))))))))
def B_377 : Sts := (.cons (.fors (.one 1) (.rng1 (.bin .add (.bi .min (.cons (.lit (.int 30)) (.cons (.bi .len (.cons (.var 0) .nil)) .nil))) (.lit (.int 2)))) B_377_b0) (.cons (.asg (.one 2) (.idx (.lst (.cons (.lit .non) (.cons (.lit (.int 5)) (.cons (.lit (.bl true)) (.cons (.tup (.cons (.lit (.str [108, 101, 97, 102])) (.cons (.lit (.str [])) (.cons (.tup .nil) .nil)))) (.cons (.lst (.cons (.lit (.str [108, 101, 97, 102, 32, 61])) .nil)) (.cons .dic0 (.cons (.tup (.cons (.lit (.int 1)) .nil)) (.cons (.lst .nil) (.cons (.tup .nil) .nil)))))))))) (.bin .mod (.call 7 (.cons (.var 0) (.cons (.lit (.int 9999)) .nil))) (.lit (.int 9))))) (.cons (.ret (.cmp .eq (.idx (.call 366 (.cons (.var 2) .nil)) (.lit (.int 0))) (.lit (.str [78, 111, 78, 111, 100, 101])))) .nil)))
def F_377 : Fn := ⟨1, 7, B_377⟩
def ML : List (Nat × Fn) := [(0, F_0), (1, F_1), (2, F_2), (3, F_3), (7, F_7), (14, F_14), (29, F_29), (35, F_35), (37, F_37), (38, F_38), (53, F_53), (141, F_141), (347, F_347), (348, F_348), (349, F_349), (350, F_350), (351, F_351), (352, F_352), (353, F_353), (354, F_354), (355, F_355), (358, F_358), (359, F_359), (360, F_360), (361, F_361), (362, F_362), (363, F_363), (364, F_364), (365, F_365), (366, F_366), (375, F_375), (376, F_376), (377, F_377)]
def M (k : Nat) : Option Fn := ML.lookup k
/-- what is an heir of what -/
def EXr : List Nat := [9]
def EXs : List Nat := [0, 1, 2, 3, 4, 5, 6, 7, 8, 9, 10, 11]
def sb : Nat → Nat → Option Bool := sbOf EXr EXs
/-- is_number -/
theorem u_0 (n : Nat) (d0 d1 d2 : D) (m : Mu) : callF M sb (n + 1) 0 [d0, d1, d2] m = (evSs ⟨callF M sb n, sb⟩ B_0 [some d0, some d1, some d2] m).res := rfl
/-- is_word -/
theorem u_1 (n : Nat) (d0 : D) (m : Mu) : callF M sb (n + 1) 1 [d0] m = (evSs ⟨callF M sb n, sb⟩ B_1 [some d0, none] m).res := rfl
/-- is_part -/
theorem u_2 (n : Nat) (d0 : D) (m : Mu) : callF M sb (n + 1) 2 [d0] m = (evSs ⟨callF M sb n, sb⟩ B_2 [some d0] m).res := rfl
/-- is_key -/
theorem u_3 (n : Nat) (d0 : D) (m : Mu) : callF M sb (n + 1) 3 [d0] m = (evSs ⟨callF M sb n, sb⟩ B_3 [some d0, none] m).res := rfl
/-- _law_cell -/
theorem u_7 (n : Nat) (d0 d1 : D) (m : Mu) : callF M sb (n + 1) 7 [d0, d1] m = (evSs ⟨callF M sb n, sb⟩ B_7 [some d0, some d1, none, none, none, none, none] m).res := rfl
/-- _law_word_of -/
theorem u_14 (n : Nat) (d0 : D) (m : Mu) : callF M sb (n + 1) 14 [d0] m = (evSs ⟨callF M sb n, sb⟩ B_14 [some d0, none] m).res := rfl
/-- _law_alike -/
theorem u_29 (n : Nat) (d0 d1 : D) (m : Mu) : callF M sb (n + 1) 29 [d0, d1] m = (evSs ⟨callF M sb n, sb⟩ B_29 [some d0, some d1, none] m).res := rfl
/-- shared -/
theorem u_35 (n : Nat) (d0 : D) (m : Mu) : callF M sb (n + 1) 35 [d0] m = (evSs ⟨callF M sb n, sb⟩ B_35 [some d0, none, none, none] m).res := rfl
/-- _law_text -/
theorem u_37 (n : Nat) (d0 : D) (m : Mu) : callF M sb (n + 1) 37 [d0] m = (evSs ⟨callF M sb n, sb⟩ B_37 [some d0, none, none, none] m).res := rfl
/-- _law_shared -/
theorem u_38 (n : Nat) (d0 : D) (m : Mu) : callF M sb (n + 1) 38 [d0] m = (evSs ⟨callF M sb n, sb⟩ B_38 [some d0, none, none, none] m).res := rfl
/-- _law_code -/
theorem u_53 (n : Nat) (d0 : D) (m : Mu) : callF M sb (n + 1) 53 [d0] m = (evSs ⟨callF M sb n, sb⟩ B_53 [some d0, none, none, none, none, none, none] m).res := rfl
/-- _law_value -/
theorem u_141 (n : Nat) (d0 : D) (m : Mu) : callF M sb (n + 1) 141 [d0] m = (evSs ⟨callF M sb n, sb⟩ B_141 [some d0, none, none] m).res := rfl
/-- leaf_words -/
theorem u_347 (n : Nat) (d0 : D) (m : Mu) : callF M sb (n + 1) 347 [d0] m = (evSs ⟨callF M sb n, sb⟩ B_347 [some d0, none, none, none] m).res := rfl
/-- branch_words -/
theorem u_348 (n : Nat) (d0 : D) (m : Mu) : callF M sb (n + 1) 348 [d0] m = (evSs ⟨callF M sb n, sb⟩ B_348 [some d0, none, none, none] m).res := rfl
/-- node_text -/
theorem u_349 (n : Nat) (d0 : D) (m : Mu) : callF M sb (n + 1) 349 [d0] m = (evSs ⟨callF M sb n, sb⟩ B_349 [some d0] m).res := rfl
/-- number_in -/
theorem u_350 (n : Nat) (d0 d1 : D) (m : Mu) : callF M sb (n + 1) 350 [d0, d1] m = (evSs ⟨callF M sb n, sb⟩ B_350 [some d0, some d1, none] m).res := rfl
/-- text_in -/
theorem u_351 (n : Nat) (d0 : D) (m : Mu) : callF M sb (n + 1) 351 [d0] m = (evSs ⟨callF M sb n, sb⟩ B_351 [some d0, none] m).res := rfl
/-- need_rising -/
theorem u_352 (n : Nat) (d0 : D) (m : Mu) : callF M sb (n + 1) 352 [d0] m = (evSs ⟨callF M sb n, sb⟩ B_352 [some d0, none] m).res := rfl
/-- leaf_in -/
theorem u_353 (n : Nat) (d0 : D) (m : Mu) : callF M sb (n + 1) 353 [d0] m = (evSs ⟨callF M sb n, sb⟩ B_353 [some d0, none, none, none, none] m).res := rfl
/-- branch_in -/
theorem u_354 (n : Nat) (d0 : D) (m : Mu) : callF M sb (n + 1) 354 [d0] m = (evSs ⟨callF M sb n, sb⟩ B_354 [some d0, none, none, none, none] m).res := rfl
/-- node_of -/
theorem u_355 (n : Nat) (d0 : D) (m : Mu) : callF M sb (n + 1) 355 [d0] m = (evSs ⟨callF M sb n, sb⟩ B_355 [some d0, none] m).res := rfl
/-- _law_rest -/
theorem u_358 (n : Nat) (d0 d1 : D) (m : Mu) : callF M sb (n + 1) 358 [d0, d1] m = (evSs ⟨callF M sb n, sb⟩ B_358 [some d0, some d1, none, none, none] m).res := rfl
/-- _law_drawn_node -/
theorem u_359 (n : Nat) (d0 d1 : D) (m : Mu) : callF M sb (n + 1) 359 [d0, d1] m = (evSs ⟨callF M sb n, sb⟩ B_359 [some d0, some d1, none, none, none, none, none, none, none, none] m).res := rfl
/-- _law_node_text -/
theorem u_360 (n : Nat) (d0 : D) (m : Mu) : callF M sb (n + 1) 360 [d0] m = (evSs ⟨callF M sb n, sb⟩ B_360 [some d0, none, none, none, none] m).res := rfl
/-- _law_figures -/
theorem u_361 (n : Nat) (d0 d1 : D) (m : Mu) : callF M sb (n + 1) 361 [d0, d1] m = (evSs ⟨callF M sb n, sb⟩ B_361 [some d0, some d1, none] m).res := rfl
/-- _law_plain -/
theorem u_362 (n : Nat) (d0 : D) (m : Mu) : callF M sb (n + 1) 362 [d0] m = (evSs ⟨callF M sb n, sb⟩ B_362 [some d0, none] m).res := rfl
/-- _law_rising -/
theorem u_363 (n : Nat) (d0 : D) (m : Mu) : callF M sb (n + 1) 363 [d0] m = (evSs ⟨callF M sb n, sb⟩ B_363 [some d0, none] m).res := rfl
/-- _law_leaf -/
theorem u_364 (n : Nat) (d0 : D) (m : Mu) : callF M sb (n + 1) 364 [d0] m = (evSs ⟨callF M sb n, sb⟩ B_364 [some d0, none, none, none, none, none, none] m).res := rfl
/-- _law_node -/
theorem u_365 (n : Nat) (d0 : D) (m : Mu) : callF M sb (n + 1) 365 [d0] m = (evSs ⟨callF M sb n, sb⟩ B_365 [some d0, none, none, none, none, none, none] m).res := rfl
/-- _law_told -/
theorem u_366 (n : Nat) (d0 : D) (m : Mu) : callF M sb (n + 1) 366 [d0] m = (evSs ⟨callF M sb n, sb⟩ B_366 [some d0, none, none, none] m).res := rfl
/-- law -/
theorem u_375 (n : Nat) (d0 : D) (m : Mu) : callF M sb (n + 1) 375 [d0] m = (evSs ⟨callF M sb n, sb⟩ B_375 [some d0, none, none, none, none, none, none] m).res := rfl
/-- _law_spoilt -/
theorem u_376 (n : Nat) (d0 d1 : D) (m : Mu) : callF M sb (n + 1) 376 [d0, d1] m = (evSs ⟨callF M sb n, sb⟩ B_376 [some d0, some d1, none, none, none, none, none] m).res := rfl
/-- law -/
theorem u_377 (n : Nat) (d0 : D) (m : Mu) : callF M sb (n + 1) 377 [d0] m = (evSs ⟨callF M sb n, sb⟩ B_377 [some d0, none, none, none, none, none, none] m).res := rfl
end MP

set_option maxRecDepth 100000
set_option maxHeartbeats 8000000
set_option autoImplicit false
namespace MP
open PySem L2

/-! ### comprehensions by their turns -/
def trnG {α : Type} (f : α → Mu → Res (Option D)) : List α → Mu → Res (List D)
  | [], m => .ok [] m
  | x :: xs, m => (f x m).bind fun o m1 => (trnG f xs m1).bind fun r m2 => .ok (match o with | some y => y :: r | none => r) m2
theorem trn_map {α : Type} {f : D → Mu → Res (Option D)} {g : α → D} {z : Lz f} : ∀ {l : List α} {m : Mu}, trnL f (List.map g l) m z = trnG (fun x m' => f (g x) m') l m
  | [], m => rfl
  | x :: l, m => by
    show (f (g x) m).bind _ = (f (g x) m).bind _
    refine congrArg _ (funext fun o => funext fun m1 => ?_)
    show Res.bind (trnL f (List.map g l) m1 z) _ = Res.bind (trnG _ l m1) _
    rw [trn_map]
    try rfl
theorem trn_nil {f : D → Mu → Res (Option D)} {m : Mu} {z : Lz f} : trnL f [] m z = .ok [] m := rfl
def consO (o : Option D) (r : List D) : List D := match o with
  | some y => y :: r
  | none => r
theorem consO_s {y : D} {r : List D} : consO (some y) r = y :: r := rfl
theorem consO_n {r : List D} : consO none r = r := rfl
theorem trn_cons {f : D → Mu → Res (Option D)} {x : D} {xs : List D} {m : Mu} {z : Lz f} : trnL f (x :: xs) m z = bnd (f x m) (fun o m1 => bnd (trnL f xs m1 .mk) (fun r m2 => .ok (consO o r) m2) .mk) .mk := by
  show (f x m).bind _ = (f x m).bind _
  refine congrArg _ (funext fun o => funext fun m1 => ?_)
  show Res.bind (turns f xs m1) _ = Res.bind (turns f xs m1) _
  refine congrArg _ (funext fun r => funext fun m2 => ?_)
  cases o <;> rfl
theorem trnG_all {α : Type} {f : α → Mu → Res (Option D)} (g : α → D) {m : Mu} : ∀ {l : List α}, (∀ x ∈ l, f x m = .ok (some (g x)) m) → trnG f l m = .ok (l.map g) m
  | [], _ => rfl
  | x :: l, h => by
    rw [trnG, h x List.mem_cons_self, Res.bind_ok, trnG_all g fun y hy => h y (List.mem_cons_of_mem _ hy), Res.bind_ok]
    rfl
theorem trnG_fil {α : Type} {f : α → Mu → Res (Option D)} (p : α → Bool) (g : α → D) {m : Mu} : ∀ {l : List α}, (∀ x ∈ l, f x m = .ok (if p x = true then some (g x) else none) m) → trnG f l m = .ok ((l.filter p).map g) m
  | [], _ => rfl
  | x :: l, h => by
    rw [trnG, h x List.mem_cons_self, Res.bind_ok, trnG_fil p g fun y hy => h y (List.mem_cons_of_mem _ hy), Res.bind_ok]
    cases hp : p x with
    | true => rw [List.filter_cons_of_pos (by rw [hp])]; rfl
    | false => rw [List.filter_cons_of_neg (by rw [hp]; exact Bool.false_ne_true)]; rfl
theorem trnG_map {α : Type} {g : α → D} {l : List α} {m : Mu} : trnG (fun x m' => .ok (some (g x)) m') l m = .ok (l.map g) m := trnG_all g fun _ _ => rfl
/-- a turn of a comprehension that is told where t -/
def bK (t : Bool) (r : Res (Option D)) (m : Mu) : Res (Option D) := if t = true then r else .ok none m
theorem bK_t {r : Res (Option D)} {m : Mu} : bK true r m = r := rfl
theorem bK_f {r : Res (Option D)} {m : Mu} : bK false r m = .ok none m := rfl
theorem v_cK {C : Cfg} {c : OE} {e : E} {ρ : Env'} {m2 : Mu} : cV C c e (some ρ) m2 = bnd (evK C c ρ m2) (fun t m3 => bK t (bnd (evE C e ρ m3) (fun y m4 => .ok (some y) m4) .mk) m3) .mk := by
  show Res.bind _ _ = Res.bind _ _
  refine congrArg _ (funext fun t => funext fun m3 => ?_)
  cases t <;> rfl
theorem trnG_fmap {α : Type} {p : α → Bool} {g : α → D} {l : List α} {m : Mu} : trnG (fun x m' => bK (p x) (.ok (some (g x)) m') m') l m = .ok ((l.filter p).map g) m := trnG_fil p g fun x _ => by
  cases h : p x with
  | true => rw [bK_t]; rfl
  | false => rw [bK_f]; rfl
/-! ### loops -/
/-- one turn -/
def runB (o : Option Env') (b : Env' → Mu → Fl) (m : Mu) (_ : Lz b) : Fl := match o with
  | some ρ => b ρ m
  | none => .stuck
theorem runB_s {ρ : Env'} {b : Env' → Mu → Fl} {m : Mu} {z : Lz b} : runB (some ρ) b m z = b ρ m := rfl
theorem for_list {α : Type} {tg : Tgt} {b : Env' → Mu → Fl} {z : Lz b} {enc : α → D} (env : List α → Env') (mu : List α → Mu) : ∀ (l pre : List α), (∀ p x q, l = p ++ x :: q → runB (bindT tg (enc x) (env (pre ++ p))) b (mu (pre ++ p)) .mk = .nxt (env (pre ++ p ++ [x])) (mu (pre ++ p ++ [x]))) →
    forL tg b (l.map enc) (env pre) (mu pre) z = .nxt (env (pre ++ l)) (mu (pre ++ l))
  | [], pre, _ => by rw [List.append_nil]; rfl
  | x :: l, pre, h => by
    have h0 := h [] x l rfl
    rw [List.append_nil] at h0
    show forGo tg b (enc x :: l.map enc) (env pre) (mu pre) = _
    rw [forGo]
    unfold runB at h0
    cases hb : bindT tg (enc x) (env pre) with
    | none => rw [hb] at h0; cases h0
    | some ρ1 =>
      rw [hb] at h0
      show (match b ρ1 (mu pre) with | .nxt ρ2 m2 => forGo tg b (l.map enc) ρ2 m2 | r => r) = _
      rw [show b ρ1 (mu pre) = _ from h0]
      have : forGo tg b (l.map enc) (env (pre ++ [x])) (mu (pre ++ [x])) = .nxt (env (pre ++ [x] ++ l)) (mu (pre ++ [x] ++ l)) := for_list (z := z) env mu l (pre ++ [x]) fun p y q e => by
        have := h (x :: p) y q (by rw [e]; rfl)
        simpa [List.append_assoc] using this
      simpa [List.append_assoc] using this
/-- the state is told by what was gone through -/
theorem for_pre {α : Type} {tg : Tgt} {b : Env' → Mu → Fl} {z : Lz b} {enc : α → D} {l : List α} (env : List α → Env') (mu : List α → Mu) (h : ∀ p x q, l = p ++ x :: q → runB (bindT tg (enc x) (env p)) b (mu p) .mk = .nxt (env (p ++ [x])) (mu (p ++ [x]))) :
    forL tg b (l.map enc) (env []) (mu []) z = .nxt (env l) (mu l) := for_list env mu l [] fun p x q e => h p x q e
/-- a loop that ends at some thing -/
theorem for_stop {α : Type} {tg : Tgt} {b : Env' → Mu → Fl} {z : Lz b} {enc : α → D} {p q : List α} {x : α} {r : Fl} (env : List α → Env') (mu : List α → Mu) (h : ∀ p' y q', p = p' ++ y :: q' → runB (bindT tg (enc y) (env p')) b (mu p') .mk = .nxt (env (p' ++ [y])) (mu (p' ++ [y])))
    (hx : runB (bindT tg (enc x) (env p)) b (mu p) .mk = r) (hr : ∀ ρ m, r ≠ .nxt ρ m) : forL tg b ((p ++ x :: q).map enc) (env []) (mu []) z = r := by
  have cat : ∀ (l1 l2 : List D) (ρ : Env') (m : Mu), forGo tg b (l1 ++ l2) ρ m = sq (forGo tg b l1 ρ m) (fun ρ1 m1 => forGo tg b l2 ρ1 m1) .mk := fun l1 => by
    induction l1 with
    | nil => intro l2 ρ m; rfl
    | cons y l1 ih =>
      intro l2 ρ m
      show forGo tg b (y :: (l1 ++ l2)) ρ m = _
      rw [forGo, forGo]
      cases bindT tg y ρ with
      | none => rfl
      | some ρ1 =>
        show (match b ρ1 m with | .nxt ρ2 m2 => forGo tg b (l1 ++ l2) ρ2 m2 | r => r) = sq (match b ρ1 m with | .nxt ρ2 m2 => forGo tg b l1 ρ2 m2 | r => r) _ _
        cases b ρ1 m with
        | nxt ρ2 m2 => exact ih l2 ρ2 m2
        | _ => rfl
  have h1 := for_pre (z := z) (l := p) env mu h
  show forGo tg b ((p ++ x :: q).map enc) (env []) (mu []) = r
  rw [List.map_append, cat, show forGo tg b (p.map enc) (env []) (mu []) = _ from h1, sq_n, List.map_cons, forGo]
  unfold runB at hx
  cases hb : bindT tg (enc x) (env p) with
  | none => rw [hb] at hx; exact hx
  | some ρ1 =>
    rw [hb] at hx
    show (match b ρ1 (mu p) with | .nxt ρ2 m2 => forGo tg b (q.map enc) ρ2 m2 | r => r) = _
    rw [show b ρ1 (mu p) = r from hx]
    cases r with
    | nxt ρ m => exact absurd rfl (hr ρ m)
    | _ => rfl
/-- what is known of the state holds on -/
theorem for_any {α : Type} {tg : Tgt} {b : Env' → Mu → Fl} {z : Lz b} {enc : α → D} (Inv : List α → Env' → Mu → Prop) : ∀ (l pre : List α) (ρ : Env') (m : Mu), Inv pre ρ m → (∀ p x q ρ m, l = p ++ x :: q → Inv (pre ++ p) ρ m → ∃ ρ' m', runB (bindT tg (enc x) ρ) b m .mk = .nxt ρ' m' ∧ Inv (pre ++ p ++ [x]) ρ' m') →
    ∃ ρ' m', forL tg b (l.map enc) ρ m z = .nxt ρ' m' ∧ Inv (pre ++ l) ρ' m'
  | [], pre, ρ, m, h, _ => ⟨ρ, m, rfl, by rw [List.append_nil]; exact h⟩
  | x :: l, pre, ρ, m, h, st => by
    obtain ⟨ρ1, m1, e1, h1⟩ := st [] x l ρ m rfl (by rw [List.append_nil]; exact h)
    rw [List.append_nil] at h1
    obtain ⟨ρ2, m2, e2, h2⟩ := for_any (z := z) Inv l (pre ++ [x]) ρ1 m1 h1 fun p y q ρ m e hi => by
      have := st (x :: p) y q ρ m (by rw [e]; rfl) (by simpa [List.append_assoc] using hi)
      simpa [List.append_assoc] using this
    refine ⟨ρ2, m2, ?_, by simpa [List.append_assoc] using h2⟩
    show forGo tg b (enc x :: l.map enc) ρ m = _
    rw [forGo]
    unfold runB at e1
    cases hb : bindT tg (enc x) ρ with
    | none => rw [hb] at e1; cases e1
    | some ρ0 =>
      rw [hb] at e1
      show (match b ρ0 m with | .nxt ρ2 m2 => forGo tg b (l.map enc) ρ2 m2 | r => r) = _
      rw [show b ρ0 m = _ from e1]
      exact e2
theorem for_inv {α : Type} {tg : Tgt} {b : Env' → Mu → Fl} {z : Lz b} {enc : α → D} {l : List α} {ρ : Env'} {m : Mu} (Inv : List α → Env' → Mu → Prop) (h0 : Inv [] ρ m) (h : ∀ p x q ρ m, l = p ++ x :: q → Inv p ρ m → ∃ ρ' m', runB (bindT tg (enc x) ρ) b m .mk = .nxt ρ' m' ∧ Inv (p ++ [x]) ρ' m') :
    ∃ ρ' m', forL tg b (l.map enc) ρ m z = .nxt ρ' m' ∧ Inv l ρ' m' := for_any Inv l [] ρ m h0 h
/-- over 0 .. n - 1 -/
theorem for_rng {tg : Tgt} {b : Env' → Mu → Fl} {z : Lz b} {enc : Nat → D} {n : Nat} (env : Nat → Env') (mu : Nat → Mu) (h : ∀ j, j < n → runB (bindT tg (enc j) (env j)) b (mu j) .mk = .nxt (env (j + 1)) (mu (j + 1))) :
    forL tg b ((List.range n).map enc) (env 0) (mu 0) z = .nxt (env n) (mu n) := by
  have := for_pre (z := z) (enc := enc) (l := List.range n) (fun p => env p.length) (fun p => mu p.length) fun p x q e => by
    have hx : x = p.length := by
      have h1 : (List.range n)[p.length]? = some x := by rw [e]; simp
      rw [List.getElem?_range] at h1
      · exact (Option.some.inj h1).symm
      · have : (List.range n).length = (p ++ x :: q).length := by rw [e]
        rw [List.length_range, List.length_append, List.length_cons] at this
        omega
    have hn : p.length < n := by
      have : (List.range n).length = (p ++ x :: q).length := by rw [e]
      rw [List.length_range, List.length_append, List.length_cons] at this
      omega
    subst hx
    have := h p.length hn
    simpa using this
  simpa using this
theorem for_rinv {tg : Tgt} {b : Env' → Mu → Fl} {z : Lz b} {enc : Nat → D} {n : Nat} {ρ : Env'} {m : Mu} (Inv : Nat → Env' → Mu → Prop) (h0 : Inv 0 ρ m) (h : ∀ j ρ m, j < n → Inv j ρ m → ∃ ρ' m', runB (bindT tg (enc j) ρ) b m .mk = .nxt ρ' m' ∧ Inv (j + 1) ρ' m') :
    ∃ ρ' m', forL tg b ((List.range n).map enc) ρ m z = .nxt ρ' m' ∧ Inv n ρ' m' := by
  have := for_inv (z := z) (enc := enc) (l := List.range n) (tg := tg) (b := b) (fun p ρ m => Inv p.length ρ m) h0 fun p x q ρ m e hi => by
    have hl : (List.range n).length = (p ++ x :: q).length := by rw [e]
    rw [List.length_range, List.length_append, List.length_cons] at hl
    have hx : x = p.length := by
      have h1 : (List.range n)[p.length]? = some x := by rw [e]; simp
      rw [List.getElem?_range (by omega)] at h1
      exact (Option.some.inj h1).symm
    subst hx
    have := h p.length ρ m (by omega) hi
    simpa using this
  simpa using this
/-- a while of N turns -/
theorem whl_seq {c : Env' → Mu → Res Bool} {b : Env' → Mu → Fl} {z : Lz b} {y : Lz c} {N : Nat} (env : Nat → Env') (mu : Nat → Mu) (hN : N < 100000) (h1 : ∀ j, j < N → c (env j) (mu j) = .ok true (mu j) ∧ b (env j) (mu j) = .nxt (env (j + 1)) (mu (j + 1))) (h2 : c (env N) (mu N) = .ok false (mu N)) :
    whlL c b 100000 (env 0) (mu 0) z y = .nxt (env N) (mu N) := by
  have go : ∀ (k fuel i : Nat), i + k = N → k < fuel → whileGo c b fuel (env i) (mu i) = .nxt (env N) (mu N) := fun k => by
    induction k with
    | zero =>
      intro fuel i e hf
      match fuel, hf with
      | fuel + 1, _ =>
        have : i = N := by omega
        subst this
        rw [whileGo, h2]
    | succ k ih =>
      intro fuel i e hf
      match fuel, hf with
      | fuel + 1, hf =>
        obtain ⟨q1, q2⟩ := h1 i (by omega)
        rw [whileGo, q1]
        show (match b (env i) (mu i) with | .nxt ρ2 m2 => whileGo c b fuel ρ2 m2 | r => r) = _
        rw [q2]
        exact ih fuel (i + 1) (by omega) (by omega)
  exact go N 100000 0 (by omega) (by omega)
/-- a while by a measure -/
theorem whl_inv {c : Env' → Mu → Res Bool} {b : Env' → Mu → Fl} {z : Lz b} {y : Lz c} {ρ : Env'} {m : Mu} (Inv : Nat → Env' → Mu → Prop) (Post : Env' → Mu → Prop) {n : Nat} (hn : n < 100000) (h0 : Inv n ρ m)
    (h : ∀ n ρ m, Inv n ρ m → (∃ m', c ρ m = .ok false m' ∧ Post ρ m') ∨ ∃ m', c ρ m = .ok true m' ∧ ∃ ρ2 m2, b ρ m' = .nxt ρ2 m2 ∧ ∃ n', n' < n ∧ Inv n' ρ2 m2) :
    ∃ ρ' m', whlL c b 100000 ρ m z y = .nxt ρ' m' ∧ Post ρ' m' := by
  have go : ∀ (fuel n : Nat) (ρ : Env') (m : Mu), n < fuel → Inv n ρ m → ∃ ρ' m', whileGo c b fuel ρ m = .nxt ρ' m' ∧ Post ρ' m' := fun fuel => by
    induction fuel with
    | zero => intro n ρ m hf; omega
    | succ fuel ih =>
      intro n ρ m hf hi
      rcases h n ρ m hi with ⟨m', e, p⟩ | ⟨m', e, ρ2, m2, e2, n', hn', hi'⟩
      · exact ⟨ρ, m', by rw [whileGo, e], p⟩
      · obtain ⟨ρ3, m3, e3, p⟩ := ih n' ρ2 m2 (by omega) hi'
        refine ⟨ρ3, m3, ?_, p⟩
        rw [whileGo, e]
        show (match b ρ m' with | .nxt ρ2 m2 => whileGo c b fuel ρ2 m2 | r => r) = _
        rw [e2]
        exact e3
  exact go 100000 n ρ m hn h0
/-! ### rows of numbers -/
theorem rng1_n {n : Nat} (h : n ≤ 100000) : rng1D (.int (n : Int)) = some ((List.range n).map fun k => D.int (k : Nat)) := by
  rw [rng1_ok (by omega) (by omega), Int.toNat_natCast]
  unfold rngL
  refine congrArg some (List.map_congr_left fun k _ => ?_)
  rw [Int.zero_add]
theorem rng1_i {i : Int} (h0 : 0 ≤ i) (h : i ≤ 100000) : rng1D (.int i) = some ((List.range i.toNat).map fun k => D.int (k : Nat)) := by
  obtain ⟨n, rfl⟩ := Int.eq_ofNat_of_zero_le h0
  rw [rng1_n (by omega), Int.toNat_natCast]
theorem rng2_n {a b : Nat} (h : b ≤ 100000) (ha : a ≤ 100000) : rng2D (.int (a : Int)) (.int (b : Int)) = some ((List.range (b - a)).map fun k => D.int ((a + k : Nat) : Int)) := by
  have e : rng2D (.int (a : Int)) (.int (b : Int)) = some (rngL (a : Int) ((b : Int) - (a : Int)).toNat) := by
    have hc : (rngOk (a : Int) && rngOk (b : Int) && decide (((b : Int) - (a : Int)).toNat ≤ sizeD)) = true := by
      unfold rngOk
      simp only [Bool.and_eq_true, decide_eq_true_eq]
      have : sizeD = 16777216 := rfl
      omega
    simp only [rng2D, hc, if_true]
  rw [e]
  unfold rngL
  rw [show ((b : Int) - (a : Int)).toNat = b - a by omega]
  refine congrArg some (List.map_congr_left fun k _ => ?_)
  rw [Int.natCast_add]
/-! ### operations -/
theorem sizeD_n : sizeD = 16777216 := rfl
theorem nc0 : ((0 : Nat) : Int) = 0 := rfl
theorem nc1 : ((1 : Nat) : Int) = 1 := rfl
theorem nc2 : ((2 : Nat) : Int) = 2 := rfl
theorem nc3 : ((3 : Nat) : Int) = 3 := rfl
theorem nc4 : ((4 : Nat) : Int) = 4 := rfl
theorem nc5 : ((5 : Nat) : Int) = 5 := rfl
theorem nc6 : ((6 : Nat) : Int) = 6 := rfl
theorem nc7 : ((7 : Nat) : Int) = 7 := rfl
theorem nc8 : ((8 : Nat) : Int) = 8 := rfl
theorem nc9 : ((9 : Nat) : Int) = 9 := rfl
theorem it_l {l : List D} : iterD (.lst l) = some l := rfl
theorem it_t {l : List D} : iterD (.tup l) = some l := rfl
theorem it_s {s : List Nat} : iterD (.str s) = some (s.map fun c => .str [c]) := rfl
theorem rv_l {l : List D} : revD (.lst l) = some l.reverse := rfl
theorem rv_t {l : List D} : revD (.tup l) = some l.reverse := rfl
theorem ix_t0 {a : D} {l : List D} : idxD (.tup (a :: l)) (.int 0) = some a := by rw [i_tup (by omega) (by simp)]; rfl
theorem ix_t1 {a b : D} {l : List D} : idxD (.tup (a :: b :: l)) (.int 1) = some b := by rw [i_tup (by omega) (by simp)]; rfl
theorem ix_t2 {a b c : D} {l : List D} : idxD (.tup (a :: b :: c :: l)) (.int 2) = some c := by rw [i_tup (by omega) (by simp)]; rfl
theorem ix_l0 {a : D} {l : List D} : idxD (.lst (a :: l)) (.int 0) = some a := by rw [i_lst (by omega) (by simp)]; rfl
theorem ix_l1 {a b : D} {l : List D} : idxD (.lst (a :: b :: l)) (.int 1) = some b := by rw [i_lst (by omega) (by simp)]; rfl
theorem ix_l2 {a b c : D} {l : List D} : idxD (.lst (a :: b :: c :: l)) (.int 2) = some c := by rw [i_lst (by omega) (by simp)]; rfl
theorem ix_ln {l : List D} {i : Nat} {d : D} (h : l[i]? = some d) : idxD (.lst l) (.int (i : Int)) = some d := by
  have hi := (List.getElem?_eq_some_iff.mp h).1
  rw [i_lst (by omega) (by omega)]
  have := (List.getElem?_eq_some_iff.mp h).2
  simp only [Int.toNat_natCast]
  rw [this]
theorem ix_tn {l : List D} {i : Nat} {d : D} (h : l[i]? = some d) : idxD (.tup l) (.int (i : Int)) = some d := by
  have hi := (List.getElem?_eq_some_iff.mp h).1
  rw [i_tup (by omega) (by omega)]
  have := (List.getElem?_eq_some_iff.mp h).2
  simp only [Int.toNat_natCast]
  rw [this]
theorem ix_sn {s : List Nat} {i : Nat} {c : Nat} (h : s[i]? = some c) : idxD (.str s) (.int (i : Int)) = some (.str [c]) := by
  have hi := (List.getElem?_eq_some_iff.mp h).1
  show ((placeD s.length (i : Int)).bind (s[·]?)).map _ = _
  rw [i_place (by omega) (by omega), Int.toNat_natCast, Option.bind_some, h]
  rfl
theorem bi_lt {l : List D} : biD .list [.tup l] = some (.lst l) := rfl
theorem bi_ll {l : List D} : biD .list [.lst l] = some (.lst l) := rfl
theorem bi_ls {s : List Nat} : biD .list [.str s] = some (.lst (s.map fun c => .str [c])) := rfl
theorem bi_tl {l : List D} : biD .tuple [.lst l] = some (.tup l) := rfl
theorem bi_tt {l : List D} : biD .tuple [.tup l] = some (.tup l) := rfl
theorem bi_ib {b : Bool} : biD .int [.bl b] = some (.int (if b then 1 else 0)) := rfl
theorem bi_ii {i : Int} : biD .int [.int i] = some (.int i) := rfl
theorem bi_min {i j : Int} : biD .min [.int i, .int j] = some (.int (if j < i then j else i)) := rfl
theorem bi_max {i j : Int} : biD .max [.int i, .int j] = some (.int (if j > i then j else i)) := rfl
theorem bls_map {α : Type} (p : α → Bool) : ∀ l : List α, blsOf (l.map fun x => D.bl (p x)) = some (l.map p)
  | [] => rfl
  | x :: l => by rw [List.map_cons, blsOf, bls_map p l]; rfl
theorem bi_all {α : Type} {p : α → Bool} {l : List α} : biD .all [.lst (l.map fun x => D.bl (p x))] = some (.bl (l.all p)) := by
  show (blsOf _).map _ = _
  rw [bls_map]
  show some (D.bl ((l.map p).all id)) = _
  rw [List.all_map]
  rfl
theorem bi_any {α : Type} {p : α → Bool} {l : List α} : biD .any [.lst (l.map fun x => D.bl (p x))] = some (.bl (l.any p)) := by
  show (blsOf _).map _ = _
  rw [bls_map]
  show some (D.bl ((l.map p).any id)) = _
  rw [List.any_map]
  rfl
theorem ints_map {α : Type} (f : α → Int) : ∀ l : List α, intsOf (l.map fun x => D.int (f x)) = some (l.map f)
  | [] => rfl
  | x :: l => by rw [List.map_cons, intsOf, ints_map f l]; rfl
theorem bi_sum {α : Type} {f : α → Int} {l : List α} : biD .sum [.lst (l.map fun x => D.int (f x))] = some (.int (l.map f).sum) := by
  show (intsOf _).map _ = _
  rw [ints_map]
  rfl
theorem strs_map : ∀ l : List (List Nat), strsOf (l.map D.str) = some l
  | [] => rfl
  | x :: l => by rw [List.map_cons, strsOf, strs_map l]; rfl
theorem a_add {x y : Int} : augD .add (.int x) (.int y) = some (.int (x + y)) := rfl
theorem a_sub {x y : Int} : augD .sub (.int x) (.int y) = some (.int (x - y)) := rfl
theorem c_neI {a b : Int} : cmpD .ne (.int a) (.int b) = some (!decide (a = b)) := by
  show (cmpD .eq (.int a) (.int b)).map (!·) = _
  rw [c_eqI]; rfl
theorem c_neS {a b : List Nat} : cmpD .ne (.str a) (.str b) = some (!decide (a = b)) := by
  show (cmpD .eq (.str a) (.str b)).map (!·) = _
  rw [c_eqS]; rfl
theorem t_int {i : Int} : truth (.int i) = some (i != 0) := rfl
theorem t_str {s : List Nat} : truth (.str s) = some (!s.isEmpty) := rfl
theorem t_lst {s : List D} : truth (.lst s) = some (!s.isEmpty) := rfl
theorem t_tup {s : List D} : truth (.tup s) = some (!s.isEmpty) := rfl
theorem t_non : truth .non = some false := rfl
theorem cl_i {i : Int} : clsD (.int i) = some "int" := rfl
theorem cl_s {s : List Nat} : clsD (.str s) = some "str" := rfl
theorem cl_b {b : Bool} : clsD (.bl b) = some "bool" := rfl
theorem cl_t {l : List D} : clsD (.tup l) = some "tuple" := rfl
theorem cl_l {l : List D} : clsD (.lst l) = some "list" := rfl
theorem cl_n : clsD .non = some "NoneType" := rfl
theorem cl_d {l : List (D × D)} : clsD (.dic l) = some "dict" := rfl
theorem isNon_l {l : List D} : isNon (.lst l) = false := rfl
theorem isNon_b {b : Bool} : isNon (.bl b) = false := rfl
theorem isNon_d {l : List (D × D)} : isNon (.dic l) = false := rfl
theorem b_four {i j k l : Nat} {a b c d : D} {ρ : Env'} : bindT (.many [i, j, k, l]) (.tup [a, b, c, d]) ρ = some ((((ρ.set i (some a)).set j (some b)).set k (some c)).set l (some d)) := rfl
/-! ### parts of rows, by naturals -/
theorem slL_n {l : List D} {a b : Nat} : slD (.lst l) (some (a : Int)) (some (b : Int)) = some (.lst ((l.drop a).take (b - a))) := slL l a b
theorem slS_to {s : List Nat} {b : Nat} : slD (.str s) none (some (b : Int)) = some (.str (s.take b)) := by
  show some (D.str (cutL s 0 (endD s.length s.length (some (b : Int))))) = _
  rw [endD_nat, cut_to]
theorem slS_from {s : List Nat} {a : Nat} : slD (.str s) (some (a : Int)) none = some (.str (s.drop a)) := by
  show some (D.str (cutL s (endD s.length 0 (some (a : Int))) s.length)) = _
  rw [endD_nat, cut_from]
theorem slS_n {s : List Nat} {a b : Nat} : slD (.str s) (some (a : Int)) (some (b : Int)) = some (.str ((s.drop a).take (b - a))) := by
  show some (D.str (cutL s (endD s.length 0 (some (a : Int))) (endD s.length s.length (some (b : Int))))) = _
  rw [endD_nat, endD_nat, cut_nat]
theorem forL_cons {tg : Tgt} {b : Env' → Mu → Fl} {x : D} {xs : List D} {ρ : Env'} {m : Mu} {z : Lz b} : forL tg b (x :: xs) ρ m z = sq (runB (bindT tg x ρ) b m .mk) (fun ρ1 m1 => forL tg b xs ρ1 m1 z) .mk := by
  show forGo tg b (x :: xs) ρ m = _
  rw [forGo]
  unfold runB
  cases bindT tg x ρ with
  | none => rfl
  | some ρ1 =>
    show (match b ρ1 m with | .nxt ρ2 m2 => forGo tg b xs ρ2 m2 | r => r) = sq (b ρ1 m) _ _
    cases b ρ1 m <;> rfl
theorem for_find {α : Type} {tg : Tgt} {b : Env' → Mu → Fl} {z : Lz b} {enc : α → D} {ρ : Env'} {m : Mu} (P : α → Option D) : ∀ {l : List α}, (∀ x ∈ l, runB (bindT tg (enc x) ρ) b m .mk = match P x with | none => .nxt ρ m | some d => .ret d m) →
    forL tg b (l.map enc) ρ m z = match l.findSome? P with | none => .nxt ρ m | some d => .ret d m
  | [], _ => rfl
  | x :: l, h => by
    rw [List.map_cons, forL_cons, h x List.mem_cons_self, List.findSome?_cons]
    cases P x with
    | none => exact for_find (z := z) P fun y hy => h y (List.mem_cons_of_mem _ hy)
    | some d => rfl
theorem forL_nil {tg : Tgt} {b : Env' → Mu → Fl} {ρ : Env'} {m : Mu} {z : Lz b} : forL tg b [] ρ m z = .nxt ρ m := rfl
theorem for_const {α : Type} {tg : Tgt} {b : Env' → Mu → Fl} {z : Lz b} {enc : α → D} {ρ : Env'} {m : Mu} : ∀ {l : List α}, (∀ x ∈ l, runB (bindT tg (enc x) ρ) b m .mk = .nxt ρ m) → forL tg b (l.map enc) ρ m z = .nxt ρ m
  | [], _ => rfl
  | x :: l, h => by
    rw [List.map_cons, forL_cons, h x List.mem_cons_self, sq_n]
    exact for_const fun y hy => h y (List.mem_cons_of_mem _ hy)
theorem find_range {α β : Type} (f : α → Option β) : ∀ z : List α, (List.range z.length).findSome? (fun j => (z[j]?).bind f) = z.findSome? f
  | [] => rfl
  | x :: z => by
    rw [List.length_cons, List.range_succ_eq_map, List.findSome?_cons, List.findSome?_cons, List.findSome?_map]
    show (match f x with | some b => some b | none => _) = _
    have := find_range f z
    cases f x with
    | some b => rfl
    | none => exact this
theorem sortL_id {l : List (List Nat)} (h : l.Pairwise (fun a b => leS a b = true)) : sortL leS l = l := by
  induction l with
  | nil => rfl
  | cons a l ih =>
    obtain ⟨h1, h2⟩ := List.pairwise_cons.mp h
    rw [sortL, ih h2]
    cases l with
    | nil => rfl
    | cons b l =>
      rw [putIn, if_pos (h1 b List.mem_cons_self)]
theorem sort_pw (l : List (List Nat)) : (sortL leS l).Pairwise (fun a b => leS a b = true) := sortL_pw leS_tot leS_tr l
theorem eq_strs {l : List (List Nat)} : cmpD .eq (.lst (l.map D.str)) (.lst (l.map D.str)) = some true := eq_me (by rw [D.flat]; exact flats_strs l) (by
  rw [D.dep]
  have : D.deps (l.map D.str) = 0 := by
    induction l with
    | nil => rfl
    | cons a l ih => rw [List.map_cons, D.deps, ih]; rfl
  omega)
theorem bi_minS {a b : List Nat} : biD .min [.str a, .str b] = some (.str (if ltS b a then b else a)) := rfl
theorem bi_maxS {a b : List Nat} : biD .max [.str a, .str b] = some (.str (if ltS a b then b else a)) := rfl
theorem strs_cons {x : List Nat} {ss : List (List Nat)} : strsOf ((x :: ss).map D.str) = some (x :: ss) := strs_map _
theorem bi_minL {x : List Nat} {ss : List (List Nat)} : biD .min [.lst ((x :: ss).map D.str)] = some (.str (minS x ss)) := by
  show (strsOf _).bind minO = _
  rw [strs_cons]; rfl
theorem bi_maxL {x : List Nat} {ss : List (List Nat)} : biD .max [.lst ((x :: ss).map D.str)] = some (.str (maxS x ss)) := by
  show (strsOf _).bind maxO = _
  rw [strs_cons]; rfl
theorem bi_minT {x : List Nat} {ss : List (List Nat)} : biD .min [.tup ((x :: ss).map D.str)] = some (.str (minS x ss)) := by
  show (strsOf _).bind minO = _
  rw [strs_cons]; rfl
theorem bi_maxT {x : List Nat} {ss : List (List Nat)} : biD .max [.tup ((x :: ss).map D.str)] = some (.str (maxS x ss)) := by
  show (strsOf _).bind maxO = _
  rw [strs_cons]; rfl
theorem eqv_strs : ∀ k l : List (List Nat), PyData.eqvAll (D.toPys (k.map D.str)) (D.toPys (l.map D.str)) = decide (k = l)
  | [], [] => rfl
  | [], _ :: _ => rfl
  | _ :: _, [] => rfl
  | p :: k, q :: l => by
    show (PyData.eqv (.str (S p)) (.str (S q)) && PyData.eqvAll (D.toPys (k.map D.str)) (D.toPys (l.map D.str))) = _
    rw [eqv_strs k l]
    by_cases h : p = q
    · subst h
      by_cases h2 : k = l <;> simp [PyData.eqv, h2]
    · have : S p ≠ S q := fun q' => h (S_inj q')
      simp [PyData.eqv, h, this]
theorem deps_strs : ∀ l : List (List Nat), D.deps (l.map D.str) = 0
  | [] => rfl
  | a :: l => by rw [List.map_cons, D.deps, deps_strs l]; rfl
theorem c_eqSs {k l : List (List Nat)} : cmpD .eq (.lst (k.map D.str)) (.lst (l.map D.str)) = some (decide (k = l)) := by
  show eqD _ _ = _
  unfold eqD
  rw [if_pos ⟨by rw [D.flat]; exact flats_strs k, by rw [D.flat]; exact flats_strs l, .inl (by rw [D.dep, deps_strs]; decide)⟩]
  congr 1
  show PyData.eqv (.list (D.toPys (k.map D.str))) (.list (D.toPys (l.map D.str))) = _
  rw [PyData.eqv]
  exact eqv_strs k l
theorem c_neSs {k l : List (List Nat)} : cmpD .ne (.lst (k.map D.str)) (.lst (l.map D.str)) = some (!decide (k = l)) := by
  show (cmpD .eq (.lst (k.map D.str)) (.lst (l.map D.str))).map (!·) = _
  rw [c_eqSs]; rfl
theorem c_eqS0 {k : List (List Nat)} : cmpD .eq (.lst (k.map D.str)) (.lst []) = some k.isEmpty := by
  have := c_eqSs (k := k) (l := [])
  rw [List.map_nil] at this
  rw [this]
  cases k <;> rfl
theorem c_neS0 {k : List (List Nat)} : cmpD .ne (.lst (k.map D.str)) (.lst []) = some (!k.isEmpty) := by
  have := c_neSs (k := k) (l := [])
  rw [List.map_nil] at this
  rw [this]
  cases k <;> rfl
theorem c_eq00 : cmpD .eq (.lst []) (.lst []) = some true := c_eqS0 (k := [])
theorem trnG_ex {α : Type} {f : α → Mu → Res (Option D)} {m : Mu} (P : α → List Nat → Prop) : ∀ {l : List α}, (∀ x ∈ l, ∃ s, f x m = .ok (some (.str s)) m ∧ P x s) → ∃ ss : List (List Nat), trnG f l m = .ok (ss.map D.str) m ∧ ss.length = l.length ∧ ∀ s ∈ ss, ∃ x ∈ l, P x s
  | [], _ => ⟨[], rfl, rfl, fun _ h => by cases h⟩
  | x :: l, h => by
    obtain ⟨s, e, p⟩ := h x List.mem_cons_self
    obtain ⟨ss, e2, e3, e4⟩ := trnG_ex P fun y hy => h y (List.mem_cons_of_mem _ hy)
    refine ⟨s :: ss, ?_, by rw [List.length_cons, List.length_cons, e3], fun t ht => ?_⟩
    · show trnG f (x :: l) m = _
      rw [trnG, e, Res.bind_ok, e2, Res.bind_ok]
      rfl
    · rcases List.mem_cons.mp ht with e | ht
      · subst e; exact ⟨x, List.mem_cons_self, p⟩
      · obtain ⟨y, hy, q⟩ := e4 t ht
        exact ⟨y, List.mem_cons_of_mem _ hy, q⟩
theorem ix_modS {L : List Nat} (hL : 0 < L.length) (i : Int) {k : Int} (hk : k = (L.length : Int)) : ∃ x, x ∈ L ∧ idxD (.str L) (.int (i % k)) = some (.str [x]) := by
  subst hk
  have a := Int.emod_nonneg i (show (L.length : Int) ≠ 0 by omega)
  have b := Int.emod_lt_of_pos i (show (0 : Int) < (L.length : Int) by omega)
  have hi : (i % (L.length : Int)).toNat < L.length := by omega
  refine ⟨L[(i % (L.length : Int)).toNat], List.getElem_mem _, ?_⟩
  have e : i % (L.length : Int) = (((i % (L.length : Int)).toNat : Nat) : Int) := by omega
  conv => lhs; rw [e]
  exact ix_sn (List.getElem?_eq_getElem hi)
theorem ix_modL {α : Type} {f : α → D} {L : List α} (hL : 0 < L.length) (i : Int) {k : Int} (hk : k = (L.length : Int)) : ∃ x, x ∈ L ∧ idxD (.lst (L.map f)) (.int (i % k)) = some (f x) := by
  subst hk
  have a := Int.emod_nonneg i (show (L.length : Int) ≠ 0 by omega)
  have b := Int.emod_lt_of_pos i (show (0 : Int) < (L.length : Int) by omega)
  have hi : (i % (L.length : Int)).toNat < L.length := by omega
  refine ⟨L[(i % (L.length : Int)).toNat], List.getElem_mem _, ?_⟩
  have e : i % (L.length : Int) = (((i % (L.length : Int)).toNat : Nat) : Int) := by omega
  conv => lhs; rw [e]
  refine ix_ln ?_
  rw [List.getElem?_map, List.getElem?_eq_getElem hi]
  rfl
theorem addS_small {a b : List Nat} (ha : a.length ≤ 100000) (hb : b.length ≤ 100000) : binD .add (.str a) (.str b) = some (.str (a ++ b)) := b_addS (by rw [sizeD_n]; omega)
theorem drop_le (s : List Nat) (k : Nat) : (s.drop k).length ≤ s.length := by rw [List.length_drop]; omega
theorem take_le (s : List Nat) (k : Nat) : (s.take k).length ≤ s.length := by rw [List.length_take]; omega
theorem c_ne1 {l : List Nat} : cmpD .ne (.lst (l.map fun c => D.str [c])) (.lst []) = some (!l.isEmpty) := by
  have := c_neS0 (k := l.map fun c => [c])
  rw [List.map_map] at this
  rw [show (l.map fun c => D.str [c]) = l.map (D.str ∘ fun c => [c]) from rfl, this]
  cases l <;> rfl
theorem c_eq1 {l : List Nat} : cmpD .eq (.lst (l.map fun c => D.str [c])) (.lst []) = some l.isEmpty := by
  have := c_eqS0 (k := l.map fun c => [c])
  rw [List.map_map] at this
  rw [show (l.map fun c => D.str [c]) = l.map (D.str ∘ fun c => [c]) from rfl, this]
  cases l <;> rfl
theorem other_all {f L : List Nat} : (f.filter fun c => !decide (c ∈ L)).isEmpty = f.all fun c => decide (c ∈ L) := by
  induction f with
  | nil => rfl
  | cons x f ih =>
    by_cases h : x ∈ L
    · rw [List.filter_cons_of_neg (by simp [h]), ih, List.all_cons, decide_eq_true h, Bool.true_and]
    · rw [List.filter_cons_of_pos (by simp [h]), List.all_cons, decide_eq_false h, Bool.false_and]
      rfl
end MP

set_option maxRecDepth 100000
set_option maxHeartbeats 8000000
set_option autoImplicit false
namespace MP
open PySem L2
local macro_rules
  | `(tactic| push_cast [$xs,*]) => `(tactic| simp (config := {dsimp := false, implicitDefEqProofs := false}) (disch := first | assumption | omega | (rw [sizeD_n]; omega) | decide) only [↓v_var, ↓v_lit, ↓v_glob, ↓v_bin, ↓v_cmp, ↓v_isN, ↓v_chain, ↓v_and, ↓v_or, ↓v_not, ↓v_ifx, ↓v_idx, ↓v_sl, ↓v_slS, ↓v_tup, ↓v_lst, ↓v_dic0, ↓v_comp, ↓v_cT, ↓v_cK, ↓v_call, ↓v_bi, ↓v_mth, ↓v_isi, ↓v_nil, ↓v_cons, ↓v_kno, ↓v_kyes, ↓v_pno, ↓v_pyes, ↓v_ie, ↓v_r1, ↓v_r2, ↓v_rev, ↓v_zip, ↓v_enum, ↓v_T, ↓w_asg, ↓w_own, ↓w_aug, ↓w_augS, ↓w_app, ↓w_appS, ↓w_drop, ↓w_ret, ↓w_retN, ↓w_ifs, ↓w_whl, ↓w_for, ↓w_rais, ↓w_tri, ↓v_isx, ↓w_asgX, ↓v_tzip, ↓v_rep, tz_ll, triF_n, triF_r, triF_e, triE_n, isx_n, isx_x, isNon_x, ↓w_pas, ↓w_fgt, ↓w_nil, ↓w_cons,
      bC_t, bC_f, bK_t, bK_f, bnd_o, bnd_e, bfl_o, bfl_e, sq_n, sq_r, sq_e, res_r, res_n, res_e, getS_s, intP_i, stO_s, runB_s, b_one, b_two, b_three, b_four, wp_one, wp_two, wp_three, mtOn_s, mtTxt, wipe_n, wipe_c, isNon_i, isNon_n, isNon_t, isNon_s, isNon_l, isNon_b, isNon_d, Res.opt_some, Res.calm_ok, Option.map_some, trn_map, trn_nil, trn_cons, consO_s, consO_n, trnG_map, trnG_fmap,
      List.set_cons_zero, List.set_cons_succ, List.getElem?_cons_zero, List.getElem?_cons_succ, List.length_cons, List.length_nil, List.length_map, List.length_range, List.map_map, Function.comp_def, b_add, b_sub, b_mul, b_mul2, b_div, b_mod, b_addS, b_addL, b_addT, a_add, a_sub, t_bl, t_int, t_str, t_lst, t_tup, t_non, len_l, len_t, len_s, it_l, it_t, it_s, rv_l, rv_t, ix_t0, ix_t1, ix_t2, ix_l0, ix_l1, ix_l2, bi_lt, bi_ll, bi_ls, bi_tl, bi_tt, bi_ib, bi_ii, bi_min, bi_max, bi_all, bi_any, bi_sum, c_lt, c_le, c_gt, c_ge, c_ltS, c_leS, c_gtS, c_geS, c_eqI, c_eqS, c_neI, c_neS, cl_i, cl_s, cl_b, cl_t, cl_l, cl_n, cl_d, tyD, List.any_cons, List.any_nil, Bool.not_true, Bool.not_false, Bool.or_false, Bool.or_true, Bool.false_or, Bool.true_or, bne_self_eq_false, bne_iff_ne, Bool.bne_true, Bool.bne_false, decide_true, decide_false, nc0, nc1, nc2, nc3, nc4, nc5, nc6, nc7, nc8, nc9, Nat.reduceAdd, Nat.reduceSub, Nat.reduceMul, Nat.reduceLT, Nat.reduceLeDiff, Int.reduceAdd, Int.reduceSub, Int.reduceMul, Int.reduceLT, Int.reduceLE, $xs,*])

abbrev SC (ns : List Int) : D := .lst (ns.map D.int)
theorem nat200 (n : Nat) (h : n < 1000000) : ((n : Int)).natAbs < 2 ^ 200 := by
  rw [Int.natAbs_natCast]
  exact Nat.lt_trans h (by decide)
theorem p18 : binD .pow (.int 10) (.int 18) = some (.int (10 ^ 18)) := b_pow 10 18 (by decide) (by decide)
theorem p9 : binD .pow (.int 10) (.int 9) = some (.int (10 ^ 9)) := b_pow 10 9 (by decide) (by decide)
theorem cell_ok2 (n : Nat) {ns : List Int} (hl : ns.length ≤ 63) {k : Int} (h0 : 0 ≤ k) (h1 : k ≤ 10 ^ 9) (m : Mu) : callF M sb (n + 1) 7 [SC ns, .int k] m = .ok (.int (cellV ns k)) m := by
  have e1 : ∀ (i : Int), (i % 2147483647).natAbs < 2 ^ 64 := fun i => mod_small (by decide) (by decide)
  have e2 : ∀ (i : Int), (i % 2147483629).natAbs < 2 ^ 64 := fun i => mod_small (by decide) (by decide)
  have a1 : (7919 : Int).natAbs < 2 ^ 64 := by decide
  have a2 : (48271 : Int).natAbs < 2 ^ 64 := by decide
  have a3 : (104729 : Int).natAbs < 2 ^ 64 := by decide
  have a4 : (69621 : Int).natAbs < 2 ^ 64 := by decide
  rw [u_7]
  cases ns with
  | nil =>
    have hn := ne_nil [] rfl
    push_cast [B_7, SC, List.map_nil, hn, List.isEmpty_nil, e1, e2, a1, a2, a3, a4]
    rfl
  | cons x r =>
    have hL : ((x :: r).map D.int).length = (x :: r).length := List.length_map ..
    have hL0 : (0 : Int) < ((x :: r).length : Int) := by simp only [List.length_cons]; omega
    have hne : (((x :: r).map D.int).isEmpty) = false := rfl
    generalize hN : (x :: r) = ns at hl hL hL0 hne ⊢
    have m1 := Int.emod_nonneg k (show (ns.length : Int) ≠ 0 by omega)
    have m2 := Int.emod_lt_of_pos k hL0
    have hi : (k % (ns.length : Int)).toNat < (ns.map D.int).length := by rw [hL]; omega
    have hi' : (k % (ns.length : Int)).toNat < ns.length := by omega
    have hix : idxD (.lst (ns.map D.int)) (.int (k % (ns.length : Int))) = some (.int (ns[(k % (ns.length : Int)).toNat]?.getD 0)) := by
      rw [i_lst m1 hi, List.getElem_map, List.getElem?_eq_getElem hi']
      rfl
    have hd : k / (ns.length : Int) ≤ 10 ^ 9 := Int.le_trans (Int.ediv_le_self _ h0) h1
    have hd0 : 0 ≤ k / (ns.length : Int) := Int.ediv_nonneg h0 (by omega)
    have e4 : (k / (ns.length : Int) + 1).natAbs < 2 ^ 64 := by omega
    have e5 : ((ns.length : Int)).natAbs < 2 ^ 200 := nat200 _ (by omega)
    have e6 : ((10 : Int) ^ 18).natAbs < 2 ^ 200 := by decide
    have e7 : (0 : Int) < 1 + (k / (ns.length : Int) + 1) * 4014476939333036189094441199026045136645885247730 := by omega
    have e8 : (0 : Int) < 10 ^ 18 := by decide
    have hv : cellV ns k = cellE k (ns[(k % (ns.length : Int)).toNat]?.getD 0 * 48271 + 104729 * k + k / (ns.length : Int) * 7919) (if 10 ^ 18 ≤ ns[(k % (ns.length : Int)).toNat]?.getD 0 then ns[(k % (ns.length : Int)).toNat]?.getD 0 / 10 ^ 18 % (1 + (k / (ns.length : Int) + 1) * 4014476939333036189094441199026045136645885247730) else 0) := by
      rw [← hN]
      rfl
    have hnn := ne_nil _ (flats_ints ns)
    rw [hv]
    by_cases hx : 10 ^ 18 ≤ ns[(k % (ns.length : Int)).toNat]?.getD 0
    · push_cast [B_7, SC, hnn, hne, hL0, e5, hix, p18, hx, e4, e6, e7, e8, e1, e2, a1, a2, a3, a4, cellE, cellF, if_true]
    · push_cast [B_7, SC, hnn, hne, hL0, e5, hix, p18, hx, e4, e6, e7, e8, e1, e2, a1, a2, a3, a4, cellE, cellF, if_false]
end MP

set_option maxRecDepth 100000
set_option maxHeartbeats 8000000
set_option autoImplicit false
namespace MP
open PySem L2
local macro_rules
  | `(tactic| push_cast [$xs,*]) => `(tactic| simp (config := {dsimp := false, implicitDefEqProofs := false}) (disch := first | assumption | omega | (rw [sizeD_n]; omega) | decide) only [↓v_var, ↓v_lit, ↓v_glob, ↓v_bin, ↓v_cmp, ↓v_isN, ↓v_chain, ↓v_and, ↓v_or, ↓v_not, ↓v_ifx, ↓v_idx, ↓v_sl, ↓v_slS, ↓v_tup, ↓v_lst, ↓v_dic0, ↓v_comp, ↓v_cT, ↓v_cK, ↓v_call, ↓v_bi, ↓v_mth, ↓v_isi, ↓v_nil, ↓v_cons, ↓v_kno, ↓v_kyes, ↓v_pno, ↓v_pyes, ↓v_ie, ↓v_r1, ↓v_r2, ↓v_rev, ↓v_zip, ↓v_enum, ↓v_T, ↓w_asg, ↓w_own, ↓w_aug, ↓w_augS, ↓w_app, ↓w_appS, ↓w_drop, ↓w_ret, ↓w_retN, ↓w_ifs, ↓w_whl, ↓w_for, ↓w_rais, ↓w_tri, ↓v_isx, ↓w_asgX, ↓v_tzip, ↓v_rep, tz_ll, triF_n, triF_r, triF_e, triE_n, isx_n, isx_x, isNon_x, ↓w_pas, ↓w_fgt, ↓w_nil, ↓w_cons,
      bC_t, bC_f, bK_t, bK_f, bnd_o, bnd_e, bfl_o, bfl_e, sq_n, sq_r, sq_e, res_r, res_n, res_e, getS_s, intP_i, stO_s, runB_s, b_one, b_two, b_three, b_four, wp_one, wp_two, wp_three, mtOn_s, mtTxt, wipe_n, wipe_c, isNon_i, isNon_n, isNon_t, isNon_s, isNon_l, isNon_b, isNon_d, Res.opt_some, Res.calm_ok, Option.map_some, trn_map, trn_nil, trn_cons, consO_s, consO_n, trnG_map, trnG_fmap,
      List.set_cons_zero, List.set_cons_succ, List.getElem?_cons_zero, List.getElem?_cons_succ, List.length_cons, List.length_nil, List.length_map, List.length_range, List.map_map, Function.comp_def, b_add, b_sub, b_mul, b_mul2, b_div, b_mod, b_addS, b_addL, b_addT, a_add, a_sub, t_bl, t_int, t_str, t_lst, t_tup, t_non, len_l, len_t, len_s, it_l, it_t, it_s, rv_l, rv_t, ix_t0, ix_t1, ix_t2, ix_l0, ix_l1, ix_l2, bi_lt, bi_ll, bi_ls, bi_tl, bi_tt, bi_ib, bi_ii, bi_min, bi_max, bi_all, bi_any, bi_sum, c_lt, c_le, c_gt, c_ge, c_ltS, c_leS, c_gtS, c_geS, c_eqI, c_eqS, c_neI, c_neS, cl_i, cl_s, cl_b, cl_t, cl_l, cl_n, cl_d, tyD, List.any_cons, List.any_nil, Bool.not_true, Bool.not_false, Bool.or_false, Bool.or_true, Bool.false_or, Bool.true_or, bne_self_eq_false, bne_iff_ne, Bool.bne_true, Bool.bne_false, decide_true, decide_false, nc0, nc1, nc2, nc3, nc4, nc5, nc6, nc7, nc8, nc9, Nat.reduceAdd, Nat.reduceSub, Nat.reduceMul, Nat.reduceLT, Nat.reduceLeDiff, Int.reduceAdd, Int.reduceSub, Int.reduceMul, Int.reduceLT, Int.reduceLE, $xs,*])

/-! ### _law_code: a text of few signs -/
def sgs : List Nat := [97, 98, 65, 46, 48, 126, 32, 55]
def cdBase (c : Int) : List Nat := match (c % 7 % 6).toNat with
  | 0 => [] | 1 => [97] | 2 => [97, 98] | 3 => [65, 55, 116]
  | 4 => List.replicate (c / 7 % 40).toNat 97
  | _ => List.replicate (c / 7 % 93).toNat 107
def cdKinds (c : Int) : Int := if c / 300 / 11 % 2 = 0 then 2 else 8
def cdMany (c : Int) : Nat := (c / 300 % (if c / 300 / 8 % 2 = 0 then 3 else 8)).toNat
def cdSign (c : Int) (j : Nat) : Nat := sgs.getD (c / 300 / (16 * 8 ^ j) % cdKinds c).toNat 0
def codeV (c : Int) : List Nat := cdBase c ++ (List.range (cdMany c)).map (cdSign c)
theorem rep_flat (n x : Nat) : (List.replicate n [x]).flatten = List.replicate n x := by
  induction n with
  | zero => rfl
  | succ n ih => rw [List.replicate_succ, List.flatten_cons, ih]; rfl
theorem cdMany_le (c : Int) : cdMany c < 8 := by
  unfold cdMany
  split
  · have := Int.emod_lt_of_pos (c / 300) (show (0 : Int) < 3 by decide)
    omega
  · have := Int.emod_lt_of_pos (c / 300) (show (0 : Int) < 8 by decide)
    omega
theorem cdBase_len (c : Int) : (cdBase c).length ≤ 92 := by
  have h1 := Int.emod_lt_of_pos (c / 7) (show (0 : Int) < 40 by decide)
  have h2 := Int.emod_lt_of_pos (c / 7) (show (0 : Int) < 93 by decide)
  unfold cdBase
  split <;> simp only [List.length_nil, List.length_cons, List.length_replicate] <;> omega
theorem codeV_len (c : Int) : (codeV c).length ≤ 99 := by
  have h1 := cdBase_len c
  have h2 := cdMany_le c
  unfold codeV
  rw [List.length_append, List.length_map, List.length_range]
  omega
/-- the signs of such texts -/
def okSign (x : Nat) : Prop := x ∈ ([97, 98, 65, 46, 48, 126, 32, 55, 116, 107] : List Nat)
theorem cdKinds_pos (c : Int) : 0 < cdKinds c ∧ cdKinds c ≤ 8 := by
  unfold cdKinds
  split <;> decide
theorem sign_lt (c : Int) (j : Nat) : (c / 300 / (16 * 8 ^ j) % cdKinds c).toNat < 8 := by
  have h1 := cdKinds_pos c
  have h2 := Int.emod_lt_of_pos (c / 300 / (16 * 8 ^ j)) h1.1
  have h3 := Int.emod_nonneg (c / 300 / (16 * 8 ^ j)) (show cdKinds c ≠ 0 by omega)
  omega
theorem codeV_signs (c : Int) : ∀ x ∈ codeV c, okSign x := by
  intro x hx
  rcases List.mem_append.mp hx with hx | hx
  · unfold cdBase at hx
    split at hx
    · cases hx
    · simp at hx; subst hx; unfold okSign; simp
    · simp at hx; unfold okSign; rcases hx with h | h <;> subst h <;> simp
    · simp at hx; unfold okSign; rcases hx with h | h | h <;> subst h <;> simp
    · rw [List.mem_replicate] at hx; rw [hx.2]; unfold okSign; simp
    · rw [List.mem_replicate] at hx; rw [hx.2]; unfold okSign; simp
  · obtain ⟨j, _, rfl⟩ := List.mem_map.mp hx
    have h := sign_lt c j
    unfold cdSign
    generalize (c / 300 / (16 * 8 ^ j) % cdKinds c).toNat = i at h
    unfold okSign sgs
    match i, h with
    | 0, _ | 1, _ | 2, _ | 3, _ | 4, _ | 5, _ | 6, _ | 7, _ => simp
theorem base_ix (c : Int) (h : 0 ≤ c) : idxD (.lst [.str [], .str [97], .str [97, 98], .str [65, 55, 116], .str (List.replicate (c / 7 % 40).toNat 97), .str (List.replicate (c / 7 % 93).toNat 107)]) (.int (c % 7 % 6)) = some (.str (cdBase c)) := by
  have h0 := Int.emod_nonneg (c % 7) (show (6 : Int) ≠ 0 by decide)
  have h1 := Int.emod_lt_of_pos (c % 7) (show (0 : Int) < 6 by decide)
  unfold cdBase
  generalize c % 7 % 6 = i at h0 h1
  obtain ⟨k, rfl⟩ := Int.eq_ofNat_of_zero_le h0
  match k, h1 with
  | 0, _ | 1, _ | 2, _ | 3, _ | 4, _ | 5, _ => rfl
  | k + 6, h => omega
theorem two_ix (a b i : Int) : idxD (.lst [.int a, .int b]) (.int (i % 2)) = some (.int (if i % 2 = 0 then a else b)) := by
  have h0 := Int.emod_nonneg i (show (2 : Int) ≠ 0 by decide)
  have h1 := Int.emod_lt_of_pos i (show (0 : Int) < 2 by decide)
  rcases (show i % 2 = 0 ∨ i % 2 = 1 by omega) with h | h
  · rw [h]; rfl
  · rw [h]; rfl
theorem code_ok2 (n : Nat) {c : Int} (h : 0 ≤ c) (hc : c < 2 ^ 40) (m : Mu) : callF M sb (n + 1) 53 [.int c] m = .ok (.str (codeV c)) m := by
  have hA : (0 : Int) ≤ c / 7 % 40 ∧ c / 7 % 40 < 40 := ⟨Int.emod_nonneg _ (by decide), Int.emod_lt_of_pos _ (by decide)⟩
  have hB : (0 : Int) ≤ c / 7 % 93 ∧ c / 7 % 93 < 93 := ⟨Int.emod_nonneg _ (by decide), Int.emod_lt_of_pos _ (by decide)⟩
  have d7 : ∀ i : Int, binD .fdiv (.int i) (.int 7) = some (.int (i / 7)) := fun i => b_div (by decide) (by decide)
  have d300 : ∀ i : Int, binD .fdiv (.int i) (.int 300) = some (.int (i / 300)) := fun i => b_div (by decide) (by decide)
  have d11 : ∀ i : Int, binD .fdiv (.int i) (.int 11) = some (.int (i / 11)) := fun i => b_div (by decide) (by decide)
  have d8 : ∀ i : Int, binD .fdiv (.int i) (.int 8) = some (.int (i / 8)) := fun i => b_div (by decide) (by decide)
  have u1 : binD .mul (.str [97]) (.int (c / 7 % 40)) = some (.str (List.replicate (c / 7 % 40).toNat 97)) := by rw [b_mulS hA.1 (by omega) (by rw [List.length_singleton]; omega), rep_flat]
  have u2 : binD .mul (.str [107]) (.int (c / 7 % 93)) = some (.str (List.replicate (c / 7 % 93).toNat 107)) := by rw [b_mulS hB.1 (by omega) (by rw [List.length_singleton]; omega), rep_flat]
  have hb := base_ix c h
  have k1 := two_ix 2 8 (c / 300 / 11)
  have k2 := two_ix 3 8 (c / 300 / 8)
  have hk := cdKinds_pos c
  have hp : (0 : Int) < (if c / 300 / 8 % 2 = 0 then 3 else 8) := by split <;> decide
  have hm0 := Int.emod_nonneg (c / 300) (show (if c / 300 / 8 % 2 = 0 then (3 : Int) else 8) ≠ 0 by omega)
  have hml := cdMany_le c
  have hr : rng1D (.int (c / 300 % (if c / 300 / 8 % 2 = 0 then 3 else 8))) = some ((List.range (cdMany c)).map fun k => D.int (k : Nat)) := rng1_i hm0 (by unfold cdMany at hml; omega)
  have loop := for_rng (tg := .one 6) (b := fun ρ m => evSs ⟨callF M sb n, sb⟩ B_53_b0 ρ m) (z := .mk) (enc := fun k => D.int (k : Nat)) (n := cdMany c) (fun j => [none, some (.str sgs), some (.str (cdBase c ++ (List.range j).map (cdSign c))), some (.int (c / 300)), some (.int (cdKinds c)), some (.int (16 * 8 ^ j)), none]) (fun _ => m) fun j hj => by
    have h8 : (0 : Int) < 16 * 8 ^ j := Int.mul_pos (by decide) (Int.pow_pos (by decide))
    have h9 : ((16 : Int) * 8 ^ j).natAbs < 2 ^ 200 := by
      have e : ((16 : Int) * 8 ^ j).natAbs = 16 * 8 ^ j := by rw [Int.natAbs_mul, Int.natAbs_pow]; rfl
      rw [e]
      have : 8 ^ j ≤ 8 ^ 8 := Nat.pow_le_pow_right (by decide) (by omega)
      exact Nat.lt_of_le_of_lt (Nat.mul_le_mul_left 16 this) (by decide)
    have h10 : ((8 : Int)).natAbs < 2 ^ 64 := by decide
    have hix : idxD (.str sgs) (.int (c / 300 / (16 * 8 ^ j) % cdKinds c)) = some (.str [cdSign c j]) := by
      have h1 := sign_lt c j
      have h3 := Int.emod_nonneg (c / 300 / (16 * 8 ^ j)) (show cdKinds c ≠ 0 by omega)
      have e : c / 300 / (16 * 8 ^ j) % cdKinds c = (((c / 300 / (16 * 8 ^ j) % cdKinds c).toNat : Nat) : Int) := by omega
      rw [e]
      refine ix_sn ?_
      unfold cdSign
      rw [List.getElem?_eq_getElem (by show _ < 8; omega), List.getD_eq_getElem?_getD, List.getElem?_eq_getElem (by show _ < 8; omega)]
      rfl
    have hl := cdBase_len c
    have hz : (cdBase c ++ (List.range j).map (cdSign c)).length + [cdSign c j].length ≤ sizeD := by
      rw [List.length_append, List.length_map, List.length_range, List.length_singleton, sizeD_n]
      omega
    have hs : cdBase c ++ List.map (cdSign c) (List.range j) ++ [cdSign c j] = cdBase c ++ List.map (cdSign c) (List.range (j + 1)) := by
      rw [List.range_succ, List.map_append, List.append_assoc]
      rfl
    have hp8 : (16 : Int) * 8 ^ j * 8 = 16 * 8 ^ (j + 1) := by rw [Int.pow_succ, Int.mul_assoc]
    push_cast [B_53_b0, h8, h9, h10, hk, hix, b_addS hz, hs, hp8]
  simp only [List.range_zero, List.map_nil, List.append_nil, Int.pow_zero, Int.mul_one, sgs, cdKinds] at loop
  rw [u_53]
  push_cast [B_53, d7, d300, d11, d8, u1, u2, hb, k1, k2, hp, hr, loop, codeV]
end MP

set_option maxRecDepth 100000
set_option maxHeartbeats 8000000
set_option autoImplicit false
namespace MP
open PySem L2
local macro_rules
  | `(tactic| push_cast [$xs,*]) => `(tactic| simp (config := {dsimp := false, implicitDefEqProofs := false}) (disch := first | assumption | omega | (rw [sizeD_n]; omega) | decide) only [↓v_var, ↓v_lit, ↓v_glob, ↓v_bin, ↓v_cmp, ↓v_isN, ↓v_chain, ↓v_and, ↓v_or, ↓v_not, ↓v_ifx, ↓v_idx, ↓v_sl, ↓v_slS, ↓v_tup, ↓v_lst, ↓v_dic0, ↓v_comp, ↓v_cT, ↓v_cK, ↓v_call, ↓v_bi, ↓v_mth, ↓v_isi, ↓v_nil, ↓v_cons, ↓v_kno, ↓v_kyes, ↓v_pno, ↓v_pyes, ↓v_ie, ↓v_r1, ↓v_r2, ↓v_rev, ↓v_zip, ↓v_enum, ↓v_T, ↓w_asg, ↓w_own, ↓w_aug, ↓w_augS, ↓w_app, ↓w_appS, ↓w_drop, ↓w_ret, ↓w_retN, ↓w_ifs, ↓w_whl, ↓w_for, ↓w_rais, ↓w_tri, ↓v_isx, ↓w_asgX, ↓v_tzip, ↓v_rep, tz_ll, triF_n, triF_r, triF_e, triE_n, isx_n, isx_x, isNon_x, ↓w_pas, ↓w_fgt, ↓w_nil, ↓w_cons,
      bC_t, bC_f, bK_t, bK_f, bnd_o, bnd_e, bfl_o, bfl_e, sq_n, sq_r, sq_e, res_r, res_n, res_e, getS_s, intP_i, stO_s, runB_s, b_one, b_two, b_three, b_four, wp_one, wp_two, wp_three, mtOn_s, mtTxt, wipe_n, wipe_c, isNon_i, isNon_n, isNon_t, isNon_s, isNon_l, isNon_b, isNon_d, Res.opt_some, Res.calm_ok, Option.map_some, trn_map, trn_nil, trn_cons, consO_s, consO_n, trnG_map, trnG_fmap,
      List.set_cons_zero, List.set_cons_succ, List.getElem?_cons_zero, List.getElem?_cons_succ, List.length_cons, List.length_nil, List.length_map, List.length_range, List.map_map, Function.comp_def, b_add, b_sub, b_mul, b_mul2, b_div, b_mod, b_addS, b_addL, b_addT, a_add, a_sub, t_bl, t_int, t_str, t_lst, t_tup, t_non, len_l, len_t, len_s, it_l, it_t, it_s, rv_l, rv_t, ix_t0, ix_t1, ix_t2, ix_l0, ix_l1, ix_l2, bi_lt, bi_ll, bi_ls, bi_tl, bi_tt, bi_ib, bi_ii, bi_min, bi_max, bi_all, bi_any, bi_sum, c_lt, c_le, c_gt, c_ge, c_ltS, c_leS, c_gtS, c_geS, c_eqI, c_eqS, c_neI, c_neS, cl_i, cl_s, cl_b, cl_t, cl_l, cl_n, cl_d, tyD, List.any_cons, List.any_nil, Bool.not_true, Bool.not_false, Bool.or_false, Bool.or_true, Bool.false_or, Bool.true_or, bne_self_eq_false, bne_iff_ne, Bool.bne_true, Bool.bne_false, decide_true, decide_false, nc0, nc1, nc2, nc3, nc4, nc5, nc6, nc7, nc8, nc9, Nat.reduceAdd, Nat.reduceSub, Nat.reduceMul, Nat.reduceLT, Nat.reduceLeDiff, Int.reduceAdd, Int.reduceSub, Int.reduceMul, Int.reduceLT, Int.reduceLE, $xs,*])

/-! ### one sign in a text -/
theorem subS_one (c : Nat) (b : List Nat) : subS [c] b = decide (c ∈ b) := by
  have := PySem.StrLaws.found_one (S b) c
  unfold subS
  rw [S_len] at this
  exact this
theorem c_in1 {c : Nat} {b : List Nat} : cmpD .isin (.str [c]) (.str b) = some (decide (c ∈ b)) := by
  show some (subS [c] b) = _
  rw [subS_one]
theorem c_notin1 {c : Nat} {b : List Nat} : cmpD .notin (.str [c]) (.str b) = some (!decide (c ∈ b)) := by
  show (some (subS [c] b)).map (!·) = _
  rw [subS_one]; rfl
/-! ### keys: what is one -/
/-- plain data -/
def Cl (d : D) : Prop := ∃ s, clsD d = some s
def numB (a b : Int) : D → Bool
  | .int i => decide (a ≤ i) && decide (i ≤ b)
  | _ => false
def lowL : List Nat := [97, 98, 99, 100, 101, 102, 103, 104, 105, 106, 107, 108, 109, 110, 111, 112, 113, 114, 115, 116, 117, 118, 119, 120, 121, 122]
def figL : List Nat := [48, 49, 50, 51, 52, 53, 54, 55, 56, 57]
def grtL : List Nat := [65, 66, 67, 68, 69, 70, 71, 72, 73, 74, 75, 76]
def lowB (x : Nat) : Bool := decide (x ∈ lowL)
def wordB : D → Bool
  | .str s => decide (s.length ≤ 8) && s.all lowB
  | _ => false
def partB (d : D) : Bool := numB 0 999999999999 d || wordB d
def keyB : D → Bool
  | .tup l => decide (1 ≤ l.length) && decide (l.length ≤ 4) && l.all partB
  | _ => false
section
variable (n : Nat) (m : Mu)
theorem isnum_ok {d : D} (a b : Int) (h : Cl d) : callF M sb (n + 1) 0 [d, .int a, .int b] m = .ok (.bl (numB a b d)) m := by
  obtain ⟨s, hs⟩ := h
  rw [u_0]
  cases d with
  | int i =>
    by_cases q : a ≤ i
    · push_cast [B_0, numB, q, Bool.true_and]
    · push_cast [B_0, numB, q, Bool.false_and]
  | obj i => cases hs
  | exc i => cases hs
  | _ => push_cast [B_0, numB]
theorem isword_ok {d : D} (h : Cl d) : callF M sb (n + 1) 1 [d] m = .ok (.bl (wordB d)) m := by
  obtain ⟨s, hs⟩ := h
  rw [u_1]
  cases d with
  | str s =>
    by_cases q : s.length ≤ 8
    · have q1 : ¬ (8 : Int) < (s.length : Int) := by omega
      push_cast [B_1, wordB, q, q1, c_in1, Bool.true_and]
      rfl
    · have q1 : (8 : Int) < (s.length : Int) := by omega
      push_cast [B_1, wordB, q, q1, Bool.false_and]
  | obj i => cases hs
  | exc i => cases hs
  | _ => push_cast [B_1, wordB]
theorem ispart_ok {d : D} (h : Cl d) : callF M sb (n + 2) 2 [d] m = .ok (.bl (partB d)) m := by
  rw [u_2]
  have h1 := isnum_ok n m 0 999999999999 h
  have h2 := isword_ok n m h
  unfold partB
  cases hb : numB 0 999999999999 d with
  | true =>
    rw [hb] at h1
    push_cast [B_2, h1, h2]
  | false =>
    rw [hb] at h1
    push_cast [B_2, h1, h2]
theorem iskey_ok {d : D} (h : Cl d) (hl : ∀ l, d = .tup l → ∀ x ∈ l, Cl x) : callF M sb (n + 3) 3 [d] m = .ok (.bl (keyB d)) m := by
  obtain ⟨s, hs⟩ := h
  rw [u_3]
  cases d with
  | tup l =>
    by_cases q : 1 ≤ l.length
    · have q0 : (1 : Int) ≤ (l.length : Int) := by omega
      by_cases q4 : l.length ≤ 4
      · have q1 : (l.length : Int) ≤ 4 := by omega
        have hm : trnL (cT ⟨callF M sb (n + 2), sb⟩ (.one 1) .no (.call 2 (.cons (.var 1) .nil)) [some (.tup l), none]) l m .mk = .ok (l.map fun x => D.bl (partB x)) m := by
          have := trn_map (f := cT ⟨callF M sb (n + 2), sb⟩ (.one 1) .no (.call 2 (.cons (.var 1) .nil)) [some (.tup l), none]) (g := id) (z := .mk) (l := l) (m := m)
          rw [List.map_id] at this
          rw [this]
          refine trnG_all _ fun x hx => ?_
          have := ispart_ok n m (hl l rfl x hx)
          push_cast [id, this]
        push_cast [B_3, keyB, q, q0, q4, q1, hm, Bool.true_and]
      · have q1 : ¬ (l.length : Int) ≤ 4 := by omega
        push_cast [B_3, keyB, q, q0, q4, q1, Bool.false_and, Bool.true_and]
    · have q0 : ¬ (1 : Int) ≤ (l.length : Int) := by omega
      push_cast [B_3, keyB, q, q0, Bool.false_and]
  | obj i => cases hs
  | exc i => cases hs
  | _ => push_cast [B_3, keyB]
end
end MP

set_option maxRecDepth 100000
set_option maxHeartbeats 8000000
set_option autoImplicit false
namespace MP
open PySem L2
local macro_rules
  | `(tactic| push_cast [$xs,*]) => `(tactic| simp (config := {dsimp := false, implicitDefEqProofs := false}) (disch := first | assumption | omega | (rw [sizeD_n]; omega) | decide) only [↓v_var, ↓v_lit, ↓v_glob, ↓v_bin, ↓v_cmp, ↓v_isN, ↓v_chain, ↓v_and, ↓v_or, ↓v_not, ↓v_ifx, ↓v_idx, ↓v_sl, ↓v_slS, ↓v_tup, ↓v_lst, ↓v_dic0, ↓v_comp, ↓v_cT, ↓v_cK, ↓v_call, ↓v_bi, ↓v_mth, ↓v_isi, ↓v_nil, ↓v_cons, ↓v_kno, ↓v_kyes, ↓v_pno, ↓v_pyes, ↓v_ie, ↓v_r1, ↓v_r2, ↓v_rev, ↓v_zip, ↓v_enum, ↓v_T, ↓w_asg, ↓w_own, ↓w_aug, ↓w_augS, ↓w_app, ↓w_appS, ↓w_drop, ↓w_ret, ↓w_retN, ↓w_ifs, ↓w_whl, ↓w_for, ↓w_rais, ↓w_tri, ↓v_isx, ↓w_asgX, ↓v_tzip, ↓v_rep, tz_ll, triF_n, triF_r, triF_e, triE_n, isx_n, isx_x, isNon_x, ↓w_pas, ↓w_fgt, ↓w_nil, ↓w_cons,
      bC_t, bC_f, bK_t, bK_f, bnd_o, bnd_e, bfl_o, bfl_e, sq_n, sq_r, sq_e, res_r, res_n, res_e, getS_s, intP_i, stO_s, runB_s, b_one, b_two, b_three, b_four, wp_one, wp_two, wp_three, mtOn_s, mtTxt, wipe_n, wipe_c, isNon_i, isNon_n, isNon_t, isNon_s, isNon_l, isNon_b, isNon_d, Res.opt_some, Res.calm_ok, Option.map_some, trn_map, trn_nil, trn_cons, consO_s, consO_n, trnG_map, trnG_fmap,
      List.set_cons_zero, List.set_cons_succ, List.getElem?_cons_zero, List.getElem?_cons_succ, List.length_cons, List.length_nil, List.length_map, List.length_range, List.map_map, Function.comp_def, b_add, b_sub, b_mul, b_mul2, b_div, b_mod, b_addS, b_addL, b_addT, a_add, a_sub, t_bl, t_int, t_str, t_lst, t_tup, t_non, len_l, len_t, len_s, it_l, it_t, it_s, rv_l, rv_t, ix_t0, ix_t1, ix_t2, ix_l0, ix_l1, ix_l2, bi_lt, bi_ll, bi_ls, bi_tl, bi_tt, bi_ib, bi_ii, bi_min, bi_max, bi_all, bi_any, bi_sum, c_lt, c_le, c_gt, c_ge, c_ltS, c_leS, c_gtS, c_geS, c_eqI, c_eqS, c_neI, c_neS, cl_i, cl_s, cl_b, cl_t, cl_l, cl_n, cl_d, tyD, List.any_cons, List.any_nil, Bool.not_true, Bool.not_false, Bool.or_false, Bool.or_true, Bool.false_or, Bool.true_or, bne_self_eq_false, bne_iff_ne, Bool.bne_true, Bool.bne_false, decide_true, decide_false, nc0, nc1, nc2, nc3, nc4, nc5, nc6, nc7, nc8, nc9, Nat.reduceAdd, Nat.reduceSub, Nat.reduceMul, Nat.reduceLT, Nat.reduceLeDiff, Int.reduceAdd, Int.reduceSub, Int.reduceMul, Int.reduceLT, Int.reduceLE, $xs,*])

/-! ### the place of a sign -/
section
open PySem.StrLaws PySem.Builtin.Str
theorem occ_stays (s sub : Str) (hi : Nat) : ∀ (l : List Nat) (st : Array Nat × Nat), 1 ≤ st.fst.size → (forIn l st (occBody s sub hi 1)).run.fst = st.fst
  | [], st, h => rfl
  | a :: l, st, h => by
    rw [List.forIn_cons]
    unfold occBody
    rw [if_neg (fun q => by have := q.1.1.1; omega)]
    exact occ_stays s sub hi l _ h
theorem occ_first (s sub : Str) (hi j : Nat) (hj : j + sub.length ≤ hi ∧ subAt s sub j = true) : ∀ (l : List Nat) (free : Nat), (∀ i ∈ l, free ≤ i) → j ∈ l → l.Pairwise (· < ·) → (∀ i ∈ l, i < j → ¬ (i + sub.length ≤ hi ∧ subAt s sub i = true)) →
    (forIn l ((#[] : Array Nat), free) (occBody s sub hi 1)).run.fst = #[j]
  | [], free, _, h, _, _ => by cases h
  | a :: l, free, hf, hm, hp, no => by
    rw [List.forIn_cons]
    unfold occBody
    have ha : free ≤ a := hf a List.mem_cons_self
    rcases List.mem_cons.mp hm with e | hm
    · subst e
      have c1 : (((#[] : Array Nat), free).fst.size < 1 ∧ ((#[] : Array Nat), free).snd ≤ j) ∧ j + sub.length ≤ hi := ⟨⟨by simp, ha⟩, hj.1⟩
      rw [if_pos ⟨c1, hj.2⟩]
      exact occ_stays s sub hi l _ (by simp)
    · have haj : a < j := (List.pairwise_cons.mp hp).1 j hm
      have hc := no a List.mem_cons_self haj
      rw [if_neg (fun h => hc ⟨h.1.2, h.2⟩)]
      exact occ_first s sub hi j hj l free (fun i hi' => hf i (List.mem_cons_of_mem _ hi')) hm (List.pairwise_cons.mp hp).2 fun i hi' => no i (List.mem_cons_of_mem _ hi')
theorem occ_at {s : List Nat} {c lo j : Nat} (h : s[j]? = some c) (hlo : lo ≤ j) (no : ∀ i, lo ≤ i → i < j → s[i]? ≠ some c) : occurrences (S s) (S [c]) lo (S s).length 1 = [j] := by
  have one : ∀ i, (i + (S [c]).length ≤ (S s).length ∧ subAt (S s) (S [c]) i = true) ↔ s[i]? = some c := fun i => subAt_one (S s) c i
  have hjl : j < s.length := (List.getElem?_eq_some_iff.mp h).1
  rw [occ_eq, occ_first (S s) (S [c]) (S s).length j ((one j).mpr h) _ lo (fun i hi => by rw [List.mem_range'_1] at hi; omega) (by rw [S_len, List.mem_range'_1]; omega) List.pairwise_lt_range' (fun i hi hij q => no i (by rw [List.mem_range'_1] at hi; omega) hij ((one i).mp q))]
theorem occ_no {s : List Nat} {c lo : Nat} (no : ∀ i, lo ≤ i → s[i]? ≠ some c) : occurrences (S s) (S [c]) lo (S s).length 1 = [] := by
  have one : ∀ i, (i + (S [c]).length ≤ (S s).length ∧ subAt (S s) (S [c]) i = true) ↔ s[i]? = some c := fun i => subAt_one (S s) c i
  rw [occ_eq]
  have := (occ_none (S s) (S [c]) (S s).length (List.range' lo ((S s).length + 1 - lo)) lo (fun i hi => by simp [List.mem_range'] at hi; omega)).mpr fun i hi q => no i (by simp [List.mem_range'] at hi; omega) ((one i).mp q)
  rw [this]
theorem find3_at {s : List Nat} {c lo j : Nat} (h : s[j]? = some c) (hlo : lo ≤ j) (no : ∀ i, lo ≤ i → i < j → s[i]? ≠ some c) : mtD .sfind (.str s) [.str [c], .int (lo : Int)] = some (.int (j : Int)) := by
  show some (D.int (Txt.find3 (S s) (S [c]) (lo : Int))) = _
  unfold Txt.find3
  have e : fromIndex (S s).length (lo : Int) = lo := by unfold fromIndex; rw [if_neg (by omega)]; omega
  rw [e, occ_at h hlo no]
theorem find3_no {s : List Nat} {c lo : Nat} (no : ∀ i, lo ≤ i → s[i]? ≠ some c) : mtD .sfind (.str s) [.str [c], .int (lo : Int)] = some (.int (-1)) := by
  show some (D.int (Txt.find3 (S s) (S [c]) (lo : Int))) = _
  unfold Txt.find3
  have e : fromIndex (S s).length (lo : Int) = lo := by unfold fromIndex; rw [if_neg (by omega)]; omega
  rw [e, occ_no no]
theorem index_at {s : List Nat} {c j : Nat} (h : s[j]? = some c) (no : ∀ i, i < j → s[i]? ≠ some c) : mtD .sindex (.str s) [.str [c]] = some (.int (j : Int)) := by
  show (Txt.index0 (S s) (S [c])).map _ = _
  unfold Txt.index0
  rw [occ_at h (Nat.zero_le _) fun i _ hi => no i hi]
  rfl
end
/-! ### texts joined -/
theorem strs_of_map {α : Type} (f : α → List Nat) : ∀ l : List α, strsOf (l.map fun x => D.str (f x)) = some (l.map f)
  | [] => rfl
  | x :: l => by rw [List.map_cons, strsOf, strs_of_map f l]; rfl
theorem joinL_nil : ∀ l : List (List Nat), TL.joinL [] l = l.flatten
  | [] => rfl
  | [p] => by simp [TL.joinL]
  | p :: q :: r => by
    rw [TL.joinL, joinL_nil (q :: r)]
    simp
theorem mt_joinD {α : Type} {f : α → List Nat} {l : List α} {a : List Nat} (h : ((l.map f).map List.length).sum + l.length * a.length ≤ 16777216) (h2 : (TL.joinL a (l.map f)).length ≤ 16777216) : mtD .sjoin (.str a) [.lst (l.map fun x => D.str (f x))] = some (.str (TL.joinL a (l.map f))) := by
  show (strsOf _).bind _ = _
  rw [strs_of_map]
  have e : tl (Txt.join (S a) ((l.map f).map S)) = TL.joinL a (l.map f) := by
    rw [TL.join_eq]
    have := TL.tl_join (S a) ((l.map f).map S)
    have e2 : ((l.map f).map S).map TL.tl = l.map f := by
      rw [List.map_map, show (TL.tl ∘ S) = id from funext fun x => tl_S x, List.map_id]
    rw [e2, show TL.tl (S a) = a from tl_S a] at this
    exact this
  show (if _ then strD (Txt.join (S a) ((l.map f).map S)) else none) = _
  rw [if_pos (by rw [List.length_map]; exact h)]
  unfold strD
  have e3 : (Txt.join (S a) ((l.map f).map S)).length = (TL.joinL a (l.map f)).length := by
    rw [← e]; simp [tl, Str.length]
  rw [if_pos (by rw [e3]; exact h2), e]
end MP

set_option maxRecDepth 100000
set_option maxHeartbeats 4000000
set_option autoImplicit false
namespace MP
open PySem L2
local macro_rules
  | `(tactic| push_cast [$xs,*]) => `(tactic| simp (config := {dsimp := false, implicitDefEqProofs := false}) (disch := first | assumption | omega | (rw [sizeD_n]; omega) | decide) only [↓v_var, ↓v_lit, ↓v_glob, ↓v_bin, ↓v_cmp, ↓v_isN, ↓v_chain, ↓v_and, ↓v_or, ↓v_not, ↓v_ifx, ↓v_idx, ↓v_sl, ↓v_slS, ↓v_tup, ↓v_lst, ↓v_dic0, ↓v_comp, ↓v_cT, ↓v_cK, ↓v_call, ↓v_bi, ↓v_mth, ↓v_isi, ↓v_nil, ↓v_cons, ↓v_kno, ↓v_kyes, ↓v_pno, ↓v_pyes, ↓v_ie, ↓v_r1, ↓v_r2, ↓v_rev, ↓v_zip, ↓v_enum, ↓v_T, ↓w_asg, ↓w_own, ↓w_aug, ↓w_augS, ↓w_app, ↓w_appS, ↓w_drop, ↓w_ret, ↓w_retN, ↓w_ifs, ↓w_whl, ↓w_for, ↓w_rais, ↓w_tri, ↓v_isx, ↓w_asgX, ↓v_tzip, ↓v_rep, tz_ll, triF_n, triF_r, triF_e, triE_n, isx_n, isx_x, isNon_x, ↓w_pas, ↓w_fgt, ↓w_nil, ↓w_cons,
      bC_t, bC_f, bK_t, bK_f, bnd_o, bnd_e, bfl_o, bfl_e, sq_n, sq_r, sq_e, res_r, res_n, res_e, getS_s, intP_i, stO_s, runB_s, b_one, b_two, b_three, b_four, wp_one, wp_two, wp_three, mtOn_s, mtTxt, wipe_n, wipe_c, isNon_i, isNon_n, isNon_t, isNon_s, isNon_l, isNon_b, isNon_d, Res.opt_some, Res.calm_ok, Option.map_some, trn_map, trn_nil, trn_cons, consO_s, consO_n, trnG_map, trnG_fmap,
      List.set_cons_zero, List.set_cons_succ, List.getElem?_cons_zero, List.getElem?_cons_succ, List.length_cons, List.length_nil, List.length_map, List.length_range, List.map_map, Function.comp_def, b_add, b_sub, b_mul, b_mul2, b_div, b_mod, b_addS, b_addL, b_addT, a_add, a_sub, t_bl, t_int, t_str, t_lst, t_tup, t_non, len_l, len_t, len_s, it_l, it_t, it_s, rv_l, rv_t, ix_t0, ix_t1, ix_t2, ix_l0, ix_l1, ix_l2, bi_lt, bi_ll, bi_ls, bi_tl, bi_tt, bi_ib, bi_ii, bi_min, bi_max, bi_all, bi_any, bi_sum, c_lt, c_le, c_gt, c_ge, c_ltS, c_leS, c_gtS, c_geS, c_eqI, c_eqS, c_neI, c_neS, cl_i, cl_s, cl_b, cl_t, cl_l, cl_n, cl_d, tyD, List.any_cons, List.any_nil, Bool.not_true, Bool.not_false, Bool.or_false, Bool.or_true, Bool.false_or, Bool.true_or, bne_self_eq_false, bne_iff_ne, Bool.bne_true, Bool.bne_false, decide_true, decide_false, nc0, nc1, nc2, nc3, nc4, nc5, nc6, nc7, nc8, nc9, Nat.reduceAdd, Nat.reduceSub, Nat.reduceMul, Nat.reduceLT, Nat.reduceLeDiff, Int.reduceAdd, Int.reduceSub, Int.reduceMul, Int.reduceLT, Int.reduceLE, $xs,*])

/-! ### numbers padded -/
def isDig (c : Nat) : Prop := 48 ≤ c ∧ c ≤ 57
def valD (a : List Nat) : Nat := NumText.digitsVal a
theorem intD {a : List Nat} (h : ∀ c ∈ a, isDig c) (h1 : a ≠ []) (h2 : a.length ≤ 600) : biD .int [.str a] = some (.int (valD a : Nat)) := by
  show (if a.length ≤ 640 then (PySem.intText? (S a)).map D.int else none) = _
  have e : (S a).cps.toList = a := tl_S a
  rw [if_pos (by omega), intText_digits (x := S a) (by rw [e]; exact h) (by rw [e]; exact h1) (by rw [S_len]; omega), e]
  rfl
theorem dnumS_pos (i : Nat) : 1 ≤ (numS i).length := List.length_pos_iff.mpr (TL.numL_ne i)
theorem dnumS_len {i k : Nat} (hk : 0 < k) (h : i < 10 ^ k) : (numS i).length ≤ k := TL.numL_len hk h
theorem dnumS_dig (i : Nat) : ∀ x ∈ numS i, isDig x := TL.numL_digits i
theorem dstr_num {i : Nat} (h : i < 10 ^ 60) : biD .str [.int (i : Int)] = some (.str (numS i)) := by
  have h2 : (i : Int) < 10 ^ 100 := by
    have : (10 : Int) ^ 60 ≤ 10 ^ 100 := by decide
    have : ((10 ^ 60 : Nat) : Int) = (10 : Int) ^ 60 := by decide
    omega
  rw [str_n (by omega) h2, Int.toNat_natCast]
def pad (n k : Nat) : List Nat := List.replicate (k - (numS n).length) 48 ++ numS n
theorem pad_len {n k : Nat} (h : (numS n).length ≤ k) : (pad n k).length = k := by
  unfold pad
  rw [List.length_append, List.length_replicate]
  omega
theorem pad_dig (n k : Nat) : ∀ c ∈ pad n k, isDig c := fun c hc => by
  rcases List.mem_append.mp hc with h | h
  · rw [(List.mem_replicate.mp h).2]; exact ⟨by decide, by decide⟩
  · exact dnumS_dig n c h
theorem val_zero : ∀ (z : Nat) (l : List Nat), valD (List.replicate z 48 ++ l) = valD l
  | 0, l => rfl
  | z + 1, l => by
    have := val_zero z l
    show (48 :: (List.replicate z 48 ++ l)).foldl (fun acc c => acc * 10 + (c - 48)) 0 = _
    rw [List.foldl_cons]
    exact this
theorem pad_val (n k : Nat) : valD (pad n k) = n := by
  unfold pad
  rw [val_zero]
  exact TL.numL_val n
theorem zfill_ok {n k : Nat} (h : (numS n).length ≤ k) (hk : k ≤ 9) : mtD .szfill (.str (numS n)) [.int (k : Int)] = some (.str (pad n k)) := by
  have hp : PadOk (k : Int) = true := by
    match k, hk with
    | 0, _ | 1, _ | 2, _ | 3, _ | 4, _ | 5, _ | 6, _ | 7, _ | 8, _ | 9, _ => decide
    | k + 10, h => omega
  show (if PadOk (k : Int) = true then strD (Txt.zfill (S (numS n)) (k : Int)) else none) = _
  rw [if_pos hp]
  have e : Txt.zfill (S (numS n)) (k : Int) = S (pad n k) := by
    unfold Txt.zfill
    rw [S_len]
    by_cases q : (numS n).length = k
    · rw [if_pos (by omega)]
      unfold pad
      rw [q, Nat.sub_self]
      rfl
    · rw [if_neg (by omega)]
      have ez : zfilled (S (numS n)) ((k : Int).toNat - (numS n).length) = Builtin.Str.padded (S (numS n)) ((k : Int).toNat - (numS n).length) 0 48 := by
        unfold zfilled
        have h0 : ∀ c, (S (numS n)).cps[0]? = some c → isDig c := fun c hc => by
          have : (S (numS n)).cps.toList = numS n := tl_S _
          have hm : c ∈ (S (numS n)).cps.toList := by
            rw [← Array.getElem?_toList] at hc
            exact List.mem_of_getElem? hc
          rw [this] at hm
          exact dnumS_dig n c hm
        split
        · rename_i hc; have := h0 _ hc; exact absurd this.1 (by decide)
        · rename_i hc; have := h0 _ hc; exact absurd this.1 (by decide)
        · rfl
      rw [ez]
      refine TL.ext_tl ?_
      have := PyProof.Rows.padded_list (S (numS n)) ((k : Int).toNat - (numS n).length) 0 48
      show (Builtin.Str.padded (S (numS n)) ((k : Int).toNat - (numS n).length) 0 48).cps.toList = tl (S (pad n k))
      rw [this, tl_S, Int.toNat_natCast]
      show List.replicate _ 48 ++ tl (S (numS n)) ++ [] = _
      rw [tl_S, List.append_nil]
      rfl
  rw [e]
  unfold strD
  rw [if_pos (by rw [S_len, pad_len h, sizeD_n]; omega), tl_S]
/-! ### parts of a text, by a sign -/
theorem pre_one (s c : Nat) (r : List Nat) : TL.pre [s] (c :: r) = decide (c = s) := by
  unfold TL.pre
  by_cases h : c = s
  · subst h; simp
  · simp [h]
theorem spl_ne (s : Nat) : ∀ (t acc : List Nat), TL.spl [s] 0 acc t ≠ []
  | [], acc => by rw [TL.spl_nil]; simp
  | c :: r, acc => by
    cases h : TL.pre [s] (c :: r) with
    | true => rw [TL.spl_hit h]; simp
    | false => rw [TL.spl_miss h]; exact spl_ne s r _
theorem joinL_cons {s : List Nat} {p : List Nat} {l : List (List Nat)} (h : l ≠ []) : TL.joinL s (p :: l) = p ++ (s ++ TL.joinL s l) := by
  cases l with
  | nil => exact absurd rfl h
  | cons q r => rw [TL.joinL]
theorem join_spl (s : Nat) : ∀ (t acc : List Nat), TL.joinL [s] (TL.spl [s] 0 acc t) = acc ++ t
  | [], acc => by rw [TL.spl_nil, List.append_nil]; simp [TL.joinL]
  | c :: r, acc => by
    cases h : TL.pre [s] (c :: r) with
    | true =>
      have hc : c = s := by rw [pre_one] at h; exact of_decide_eq_true h
      rw [TL.spl_hit h, show [s].length - 1 = 0 from rfl, joinL_cons (spl_ne s r []), join_spl s r [], hc]
      simp
    | false => rw [TL.spl_miss h, join_spl s r _]; simp
theorem spl_many (s : Nat) : ∀ (t acc : List Nat), (TL.spl [s] 0 acc t).length ≤ t.length + 1 ∧ ∀ p ∈ TL.spl [s] 0 acc t, p.length ≤ acc.length + t.length
  | [], acc => by rw [TL.spl_nil]; simp
  | c :: r, acc => by
    cases h : TL.pre [s] (c :: r) with
    | true =>
      have := spl_many s r []
      rw [TL.spl_hit h, show [s].length - 1 = 0 from rfl]
      refine ⟨by rw [List.length_cons, List.length_cons]; omega, fun p hp => ?_⟩
      rcases List.mem_cons.mp hp with q | q
      · subst q; omega
      · have := this.2 p q; simp at this; rw [List.length_cons]; omega
    | false =>
      have := spl_many s r (acc ++ [c])
      rw [TL.spl_miss h]
      refine ⟨by rw [List.length_cons]; omega, fun p hp => ?_⟩
      have := this.2 p hp
      rw [List.length_append, List.length_singleton] at this
      rw [List.length_cons]; omega
theorem split_ok {t : List Nat} {s : Nat} (hs : s < 256) (ht : t.length ≤ 1000000) : mtD .ssplit (.str t) [.str [s]] = some (.lst ((TL.spl [s] 0 [] t).map D.str)) := by
  have e : Txt.split (S t) (S [s]) = (TL.spl [s] 0 [] t).map S := SX.split_S (by simp) (by simp [hs])
  have m := spl_many s t []
  show (if ((S [s]).length == 0) = false ∧ t.length + 2 ≤ sizeD ∧ (Txt.split (S t) (S [s])).length ≤ sizeD ∧ (∀ x ∈ Txt.split (S t) (S [s]), x.length ≤ sizeD) then some (D.lst ((Txt.split (S t) (S [s])).map fun x => .str (tl x))) else none) = _
  rw [e]
  have z := sizeD_n
  rw [if_pos ⟨by rw [S_len]; rfl, by omega, by rw [List.length_map]; omega, fun x hx => by
    obtain ⟨p, hp, rfl⟩ := List.mem_map.mp hx
    have := m.2 p hp
    rw [S_len]
    simp at this
    omega⟩, List.map_map]
  refine congrArg (fun l => some (D.lst l)) (List.map_congr_left fun p _ => ?_)
  show D.str (tl (S p)) = .str p
  rw [tl_S]
/-- lists of numbers -/
theorem eqv_ints : ∀ k l : List Int, PyData.eqvAll (D.toPys (k.map D.int)) (D.toPys (l.map D.int)) = decide (k = l)
  | [], [] => rfl
  | [], _ :: _ => rfl
  | _ :: _, [] => rfl
  | p :: k, q :: l => by
    show (PyData.eqv (.int p) (.int q) && PyData.eqvAll (D.toPys (k.map D.int)) (D.toPys (l.map D.int))) = _
    rw [eqv_ints k l]
    by_cases h1 : p = q <;> by_cases h2 : k = l <;> simp [PyData.eqv, h1, h2]
theorem deps_ints : ∀ l : List Int, D.deps (l.map D.int) = 0
  | [] => rfl
  | x :: l => by rw [List.map_cons, D.deps, deps_ints l]; rfl
theorem c_neIs {k l : List Int} : cmpD .ne (.lst (k.map D.int)) (.lst (l.map D.int)) = some (!decide (k = l)) := by
  show (eqD _ _).map (!·) = _
  unfold eqD
  rw [if_pos ⟨by rw [D.flat]; exact flats_ints k, by rw [D.flat]; exact flats_ints l, .inl (by rw [D.dep, deps_ints]; decide)⟩]
  show some (!(PyData.eqv (.list (D.toPys (k.map D.int))) (.list (D.toPys (l.map D.int))))) = _
  rw [PyData.eqv, eqv_ints]
end MP

set_option maxRecDepth 100000
set_option maxHeartbeats 1000000
set_option autoImplicit false
namespace MP
open PySem L2
/-! ### the longest shared beginning of two texts -/
def lcp : List Nat → List Nat → List Nat
  | a :: s, b :: t => if a = b then a :: lcp s t else []
  | _, _ => []
theorem lcp_at : ∀ {a b : List Nat} {j : Nat}, j < (lcp a b).length → ∃ c, a[j]? = some c ∧ b[j]? = some c
  | [], b, j, h => by simp [lcp] at h
  | a :: s, [], j, h => by simp [lcp] at h
  | a :: s, b :: t, j, h => by
    unfold lcp at h
    split at h
    · rename_i e
      subst e
      cases j with
      | zero => exact ⟨a, rfl, rfl⟩
      | succ j =>
        obtain ⟨c, h1, h2⟩ := lcp_at (a := s) (b := t) (j := j) (by simpa using h)
        exact ⟨c, by simpa using h1, by simpa using h2⟩
    · simp at h
theorem lcp_end : ∀ (a b : List Nat), a.length ≤ (lcp a b).length ∨ b.length ≤ (lcp a b).length ∨ ∃ c d, a[(lcp a b).length]? = some c ∧ b[(lcp a b).length]? = some d ∧ c ≠ d
  | [], b => .inl (Nat.zero_le _)
  | a :: s, [] => .inr (.inl (Nat.zero_le _))
  | a :: s, b :: t => by
    unfold lcp
    split
    · rename_i e
      subst e
      rcases lcp_end s t with h | h | ⟨c, d, h1, h2, h3⟩
      · exact .inl (by simpa using h)
      · exact .inr (.inl (by simpa using h))
      · exact .inr (.inr ⟨c, d, by simpa using h1, by simpa using h2, h3⟩)
    · rename_i e
      exact .inr (.inr ⟨a, b, rfl, rfl, e⟩)
theorem lcp_take : ∀ (a b : List Nat), a.take (lcp a b).length = lcp a b
  | [], b => rfl
  | a :: s, [] => rfl
  | a :: s, b :: t => by
    unfold lcp
    split
    · rw [List.length_cons, List.take_succ_cons, lcp_take s t]
    · rfl
theorem lcp_le : ∀ (a b : List Nat), (lcp a b).length ≤ a.length ∧ (lcp a b).length ≤ b.length
  | [], b => ⟨Nat.zero_le _, Nat.zero_le _⟩
  | a :: s, [] => ⟨Nat.zero_le _, Nat.zero_le _⟩
  | a :: s, b :: t => by
    unfold lcp
    split
    · have := lcp_le s t
      simp only [List.length_cons]
      omega
    · exact ⟨Nat.zero_le _, Nat.zero_le _⟩
theorem lcp_max : ∀ {a b : List Nat} {k : Nat}, a.take k = b.take k → k ≤ a.length → k ≤ b.length → k ≤ (lcp a b).length
  | _, _, 0, _, _, _ => Nat.zero_le _
  | [], b, k + 1, _, h, _ => by simp at h
  | a :: s, [], k + 1, _, _, h => by simp at h
  | a :: s, b :: t, k + 1, e, h1, h2 => by
    rw [List.take_succ_cons, List.take_succ_cons, List.cons.injEq] at e
    unfold lcp
    rw [if_pos e.1, List.length_cons]
    have := lcp_max e.2 (by simpa using h1) (by simpa using h2)
    omega
theorem lcp_mid : ∀ {a b t : List Nat}, ¬ t < a → ¬ b < t → t.take (lcp a b).length = lcp a b
  | [], b, t, _, _ => by simp [lcp]
  | a :: s, [], t, _, _ => by simp [lcp]
  | a :: s, b :: u, t, h1, h2 => by
    unfold lcp
    split
    · rename_i e
      subst e
      cases t with
      | nil => exact absurd (List.nil_lt_cons a s) h1
      | cons c v =>
        rw [List.cons_lt_cons_iff] at h1 h2
        have hc : c = a := by
          have q1 : ¬ c < a := fun q => h1 (.inl q)
          have q2 : ¬ a < c := fun q => h2 (.inl q)
          omega
        subst hc
        rw [List.length_cons, List.take_succ_cons, lcp_mid (fun q => h1 (.inr ⟨rfl, q⟩)) (fun q => h2 (.inr ⟨rfl, q⟩))]
    · rfl
theorem ltS_iff {a b : List Nat} : ltS a b = true ↔ a < b := by unfold ltS; exact decide_eq_true_iff
theorem minS_mem : ∀ (x : List Nat) (ss : List (List Nat)), minS x ss ∈ x :: ss
  | x, [] => List.mem_cons_self
  | x, y :: r => by
    unfold minS
    split
    · exact List.mem_cons_of_mem _ (minS_mem y r)
    · rcases List.mem_cons.mp (minS_mem x r) with e | e
      · rw [e]; exact List.mem_cons_self
      · exact List.mem_cons_of_mem _ (List.mem_cons_of_mem _ e)
theorem maxS_mem : ∀ (x : List Nat) (ss : List (List Nat)), maxS x ss ∈ x :: ss
  | x, [] => List.mem_cons_self
  | x, y :: r => by
    unfold maxS
    split
    · exact List.mem_cons_of_mem _ (maxS_mem y r)
    · rcases List.mem_cons.mp (maxS_mem x r) with e | e
      · rw [e]; exact List.mem_cons_self
      · exact List.mem_cons_of_mem _ (List.mem_cons_of_mem _ e)
theorem minS_le : ∀ (ss : List (List Nat)) (x t : List Nat), t ∈ x :: ss → leS (minS x ss) t = true
  | [], x, t, h => by
    rw [List.mem_singleton.mp h, leS_iff]
    exact List.le_refl _
  | y :: r, x, t, h => by
    unfold minS
    have h0 := minS_le r (if ltS y x = true then y else x) (if ltS y x = true then y else x) List.mem_cons_self
    rcases List.mem_cons.mp h with e | h
    · subst e
      refine leS_tr _ _ _ h0 ?_
      split
      · rename_i q
        rw [leS_iff]
        exact List.le_of_lt (ltS_iff.mp q)
      · rw [leS_iff]; exact List.le_refl _
    · rcases List.mem_cons.mp h with e | h
      · subst e
        refine leS_tr _ _ _ h0 ?_
        split
        · rw [leS_iff]; exact List.le_refl _
        · rename_i q
          unfold leS
          simpa using q
      · exact minS_le r _ t (List.mem_cons_of_mem _ h)
theorem maxS_ge : ∀ (ss : List (List Nat)) (x t : List Nat), t ∈ x :: ss → leS t (maxS x ss) = true
  | [], x, t, h => by
    rw [List.mem_singleton.mp h, leS_iff]
    exact List.le_refl _
  | y :: r, x, t, h => by
    unfold maxS
    have h0 := maxS_ge r (if ltS x y = true then y else x) (if ltS x y = true then y else x) List.mem_cons_self
    rcases List.mem_cons.mp h with e | h
    · subst e
      refine leS_tr _ _ _ ?_ h0
      split
      · rename_i q
        rw [leS_iff]
        exact List.le_of_lt (ltS_iff.mp q)
      · rw [leS_iff]; exact List.le_refl _
    · rcases List.mem_cons.mp h with e | h
      · subst e
        refine leS_tr _ _ _ ?_ h0
        split
        · rw [leS_iff]; exact List.le_refl _
        · rename_i q
          unfold leS
          simpa using q
      · exact maxS_ge r _ t (List.mem_cons_of_mem _ h)
/-- what all begin with -/
def shrV : List (List Nat) → List Nat
  | [] => []
  | x :: ss => lcp (minS x ss) (maxS x ss)
theorem leS_nlt {a b : List Nat} (h : leS a b = true) : ¬ b < a := by
  unfold leS ltS at h
  simpa using h
theorem shr_take {x : List Nat} {ss : List (List Nat)} {t : List Nat} (h : t ∈ x :: ss) : t.take (shrV (x :: ss)).length = shrV (x :: ss) :=
  lcp_mid (leS_nlt (minS_le ss x t h)) (leS_nlt (maxS_ge ss x t h))
theorem shr_same {x : List Nat} {ss : List (List Nat)} {t : List Nat} (h : t ∈ x :: ss) {j : Nat} (hj : j ≤ (shrV (x :: ss)).length) : t.take j = x.take j := by
  have h1 := congrArg (List.take j) (shr_take h)
  have h2 := congrArg (List.take j) (shr_take (x := x) (ss := ss) (t := x) List.mem_cons_self)
  rw [List.take_take, Nat.min_eq_left hj] at h1 h2
  rw [h1, h2]
theorem shr_le {x : List Nat} {ss : List (List Nat)} {t : List Nat} (h : t ∈ x :: ss) : (shrV (x :: ss)).length ≤ t.length := by
  have := congrArg List.length (shr_take h)
  rw [List.length_take] at this
  omega
theorem shr_no {x : List Nat} {ss : List (List Nat)} (h : (shrV (x :: ss)).length < x.length) : ∃ t ∈ x :: ss, t.take ((shrV (x :: ss)).length + 1) ≠ x.take ((shrV (x :: ss)).length + 1) := by
  by_cases q : ∀ t ∈ x :: ss, t.take ((shrV (x :: ss)).length + 1) = x.take ((shrV (x :: ss)).length + 1)
  · exfalso
    have e1 := q _ (minS_mem x ss)
    have e2 := q _ (maxS_mem x ss)
    have l1 := congrArg List.length e1
    have l2 := congrArg List.length e2
    rw [List.length_take, List.length_take] at l1 l2
    have := lcp_max (e1.trans e2.symm) (by omega) (by omega)
    have e3 : (lcp (minS x ss) (maxS x ss)).length = (shrV (x :: ss)).length := rfl
    omega
  · by_cases h2 : ∃ t ∈ x :: ss, t.take ((shrV (x :: ss)).length + 1) ≠ x.take ((shrV (x :: ss)).length + 1)
    · exact h2
    · exact absurd (fun t ht => by
        by_cases e : t.take ((shrV (x :: ss)).length + 1) = x.take ((shrV (x :: ss)).length + 1)
        · exact e
        · exact absurd ⟨t, ht, e⟩ h2) q
/-- the least place -/
theorem ex_min (P : Nat → Bool) : ∀ n, P n = true → ∃ m, m ≤ n ∧ P m = true ∧ ∀ j, j < m → P j = false := fun n => by
  induction n using Nat.strongRecOn with
  | _ n ih =>
    intro h
    by_cases q : ∃ j, j < n ∧ P j = true
    · obtain ⟨j, hj, e⟩ := q
      obtain ⟨m, h1, h2, h3⟩ := ih j hj e
      exact ⟨m, by omega, h2, h3⟩
    · refine ⟨n, Nat.le_refl _, h, fun j hj => ?_⟩
      cases e : P j with
      | false => rfl
      | true => exact absurd ⟨j, hj, e⟩ q
end MP

set_option maxRecDepth 100000
set_option maxHeartbeats 1000000
set_option autoImplicit false
namespace MP
open PySem L2
local macro_rules
  | `(tactic| push_cast [$xs,*]) => `(tactic| simp (config := {dsimp := false, implicitDefEqProofs := false}) (disch := first | assumption | omega | (rw [sizeD_n]; omega) | decide) only [↓v_var, ↓v_lit, ↓v_glob, ↓v_bin, ↓v_cmp, ↓v_isN, ↓v_chain, ↓v_and, ↓v_or, ↓v_not, ↓v_ifx, ↓v_idx, ↓v_sl, ↓v_slS, ↓v_tup, ↓v_lst, ↓v_dic0, ↓v_comp, ↓v_cT, ↓v_cK, ↓v_call, ↓v_bi, ↓v_mth, ↓v_isi, ↓v_nil, ↓v_cons, ↓v_kno, ↓v_kyes, ↓v_pno, ↓v_pyes, ↓v_ie, ↓v_r1, ↓v_r2, ↓v_rev, ↓v_zip, ↓v_enum, ↓v_T, ↓w_asg, ↓w_own, ↓w_aug, ↓w_augS, ↓w_app, ↓w_appS, ↓w_drop, ↓w_ret, ↓w_retN, ↓w_ifs, ↓w_whl, ↓w_for, ↓w_rais, ↓w_tri, ↓v_isx, ↓w_asgX, ↓v_tzip, ↓v_rep, tz_ll, triF_n, triF_r, triF_e, triE_n, isx_n, isx_x, isNon_x, ↓w_pas, ↓w_fgt, ↓w_nil, ↓w_cons,
      bC_t, bC_f, bK_t, bK_f, bnd_o, bnd_e, bfl_o, bfl_e, sq_n, sq_r, sq_e, res_r, res_n, res_e, getS_s, intP_i, stO_s, runB_s, b_one, b_two, b_three, b_four, wp_one, wp_two, wp_three, mtOn_s, mtTxt, wipe_n, wipe_c, isNon_i, isNon_n, isNon_t, isNon_s, isNon_l, isNon_b, isNon_d, Res.opt_some, Res.calm_ok, Option.map_some, trn_map, trn_nil, trn_cons, consO_s, consO_n, trnG_map, trnG_fmap,
      List.set_cons_zero, List.set_cons_succ, List.getElem?_cons_zero, List.getElem?_cons_succ, List.length_cons, List.length_nil, List.length_map, List.length_range, List.map_map, Function.comp_def, b_add, b_sub, b_mul, b_mul2, b_div, b_mod, b_addS, b_addL, b_addT, a_add, a_sub, t_bl, t_int, t_str, t_lst, t_tup, t_non, len_l, len_t, len_s, it_l, it_t, it_s, rv_l, rv_t, ix_t0, ix_t1, ix_t2, ix_l0, ix_l1, ix_l2, bi_lt, bi_ll, bi_ls, bi_tl, bi_tt, bi_ib, bi_ii, bi_min, bi_max, bi_all, bi_any, bi_sum, c_lt, c_le, c_gt, c_ge, c_ltS, c_leS, c_gtS, c_geS, c_eqI, c_eqS, c_neI, c_neS, cl_i, cl_s, cl_b, cl_t, cl_l, cl_n, cl_d, tyD, List.any_cons, List.any_nil, Bool.not_true, Bool.not_false, Bool.or_false, Bool.or_true, Bool.false_or, Bool.true_or, bne_self_eq_false, bne_iff_ne, Bool.bne_true, Bool.bne_false, decide_true, decide_false, nc0, nc1, nc2, nc3, nc4, nc5, nc6, nc7, nc8, nc9, Nat.reduceAdd, Nat.reduceSub, Nat.reduceMul, Nat.reduceLT, Nat.reduceLeDiff, Int.reduceAdd, Int.reduceSub, Int.reduceMul, Int.reduceLT, Int.reduceLE, $xs,*])

/-! ### a drawn text -/
def someL : List (List Nat) := [[], [97], [97, 98], [65, 49], [65, 49, 50], [116, 97, 98, 46], [116, 46], [98], [66, 49, 48], [97, 97], [122], [32], [126], [97, 98, 99]]
theorem some_ix {i : Int} (h0 : 0 ≤ i) (h1 : i < 14) : ∃ s, idxD (.lst (someL.map D.str)) (.int i) = some (.str s) ∧ s.length ≤ 4 := by
  obtain ⟨s, hs, e⟩ := i_strs (l := someL) h0 (by show i.toNat < 14; omega)
  have : ∀ s ∈ someL, s.length ≤ 4 := by decide
  exact ⟨s, e, this s hs⟩
theorem text_ok (n : Nat) (m : Mu) (c : Int) : ∃ s : List Nat, callF M sb (n + 1) 37 [.int c] m = .ok (.str s) m ∧ s.length ≤ 16 := by
  rw [u_37]
  have hr : rng1D (.int (c % 5)) = some ((List.range (c % 5).toNat).map fun k => D.int (k : Nat)) := rng1_i (by omega) (by omega)
  have h5 : (c % 5).toNat ≤ 4 := by omega
  generalize (c % 5).toNat = N at hr h5
  obtain ⟨ρ', m', e, s, rfl, rfl, hs⟩ := for_rinv (tg := .one 3) (b := fun ρ m => evSs ⟨callF M sb n, sb⟩ B_37_b0 ρ m) (z := .mk) (enc := fun j => D.int (j : Nat)) (ρ := [some (.int c), some (.lst (someL.map D.str)), some (.str []), none]) (m := m) (n := N)
    (fun j ρ m' => ∃ s : List Nat, ρ = [some (.int c), some (.lst (someL.map D.str)), some (.str s), none] ∧ m' = m ∧ s.length ≤ 4 * j) ⟨[], rfl, rfl, Nat.zero_le _⟩ fun j ρ m' hj ⟨s, e1, e2, hs⟩ => by
      subst e1 e2
      have j1 : (14 : Int).natAbs < 2 ^ 64 := by decide
      have j2 : (14 * (j : Int)).natAbs < 2 ^ 64 := by omega
      have j3 : 0 < 1 + 14 * (j : Int) * (j : Int) := by
        have := Int.mul_nonneg (a := 14 * (j : Int)) (b := (j : Int)) (by omega) (by omega)
        omega
      have j4 : (1 + 14 * (j : Int) * (j : Int)).natAbs < 2 ^ 200 := by
        have hj4 : j = 0 ∨ j = 1 ∨ j = 2 ∨ j = 3 := by omega
        rcases hj4 with rfl | rfl | rfl | rfl <;> decide
      have a1 : (0 : Int) < 5 := by decide
      have a2 : (5 : Int).natAbs < 2 ^ 200 := by decide
      have a3 : (0 : Int) < 7 := by decide
      have a4 : (7 : Int).natAbs < 2 ^ 200 := by decide
      have hz : ∃ z : Int, idxD (.lst [.int 3, .int 14]) (.int (c / 7 % 2)) = some (.int z) ∧ 0 < z ∧ z ≤ 14 := by
        have : c / 7 % 2 = 0 ∨ c / 7 % 2 = 1 := by omega
        rcases this with e | e <;> rw [e]
        · exact ⟨3, rfl, by decide, by decide⟩
        · exact ⟨14, rfl, by decide, by decide⟩
      obtain ⟨z, ez, z1, z2⟩ := hz
      obtain ⟨t, et, ht⟩ := some_ix (i := c / 5 / (1 + 14 * (j : Int) * (j : Int)) % z) (Int.emod_nonneg _ (by omega)) (Int.lt_of_lt_of_le (Int.emod_lt_of_pos _ z1) z2)
      have hz2 : s.length + t.length ≤ sizeD := by rw [sizeD_n]; omega
      refine ⟨_, _, ?_, s ++ t, rfl, rfl, by rw [List.length_append]; omega⟩
      push_cast [B_37_b0, j1, j2, j3, j4, a1, a2, a3, a4, ez, z1, et, hz2]
  refine ⟨s, ?_, by omega⟩
  have el : (someL.map D.str) = [.str [], .str [97], .str [97, 98], .str [65, 49], .str [65, 49, 50], .str [116, 97, 98, 46], .str [116, 46], .str [98], .str [66, 49, 48], .str [97, 97], .str [122], .str [32], .str [126], .str [97, 98, 99]] := rfl
  rw [el] at e
  have a1 : (0 : Int) < 5 := by decide
  push_cast [B_37, a1, hr, e]
/-! ### shared -/
theorem shared_core (n : Nat) (m : Mu) (d : D) (x : List Nat) (ss : List (List Nat)) (hd : truth d = some true) (h1 : biD .min [d] = some (.str (minS x ss))) (h2 : biD .max [d] = some (.str (maxS x ss))) (hl : ∀ t ∈ x :: ss, t.length ≤ 50000) : callF M sb (n + 1) 35 [d] m = .ok (.str (shrV (x :: ss))) m := by
  rw [u_35]
  have hlen := shr_le (minS_mem x ss)
  have hlo := hl _ (minS_mem x ss)
  have hlo2 := hl _ (maxS_mem x ss)
  have et := lcp_take (minS x ss) (maxS x ss)
  have en := lcp_end (minS x ss) (maxS x ss)
  have ea := fun j => lcp_at (a := minS x ss) (b := maxS x ss) (j := j)
  have esh : shrV (x :: ss) = lcp (minS x ss) (maxS x ss) := rfl
  have hle := lcp_le (minS x ss) (maxS x ss)
  rw [esh] at hlen ⊢
  generalize minS x ss = a at *
  generalize maxS x ss = b at *
  have w := whl_seq (z := .mk) (y := .mk) (N := (lcp a b).length) (c := fun ρ m => evT ⟨callF M sb n, sb⟩ B_35_c0 ρ m) (b := fun ρ m => evSs ⟨callF M sb n, sb⟩ B_35_b1 ρ m) (fun j => [none, some (.str a), some (.str b), some (.int (j : Nat))]) (fun _ => m) (by omega)
    (fun j hj => by
      obtain ⟨c, g1, g2⟩ := ea j hj
      have i1 := ix_sn g1
      have i2 := ix_sn g2
      have l1 : (j : Int) < (a.length : Int) := by omega
      have l2 : (j : Int) < (b.length : Int) := by omega
      exact ⟨by push_cast [B_35_c0, i1, i2, l1, l2], by
        push_cast [B_35_b1]
        rfl⟩)
    (by
      by_cases l1 : ((lcp a b).length : Int) < (a.length : Int)
      · by_cases l2 : ((lcp a b).length : Int) < (b.length : Int)
        · obtain ⟨c, d, g1, g2, g3⟩ := (en.resolve_left (by omega)).resolve_left (by omega)
          have i1 := ix_sn g1
          have i2 := ix_sn g2
          have g4 : ¬ [c] = [d] := fun q => g3 (by simpa using q)
          push_cast [B_35_c0, i1, i2, l1, l2, g4]
        · push_cast [B_35_c0, l1, l2]
      · push_cast [B_35_c0, l1])
  have sl : slD (.str a) none (some ((lcp a b).length : Int)) = some (.str (lcp a b)) := by rw [slS_to, et]
  rw [show ((0 : Nat) : Int) = 0 from rfl] at w
  push_cast [B_35, hd, h1, h2, w, sl]
theorem tr_strs {x : List Nat} {ss : List (List Nat)} : truth (.lst ((x :: ss).map D.str)) = some true ∧ truth (.tup ((x :: ss).map D.str)) = some true := ⟨rfl, rfl⟩
theorem shared_l (n : Nat) (m : Mu) (l : List (List Nat)) (hl : ∀ t ∈ l, t.length ≤ 16) : callF M sb (n + 1) 35 [.lst (l.map D.str)] m = .ok (.str (shrV l)) m := by
  cases l with
  | nil =>
    rw [u_35]
    have e : truth (.lst (List.map D.str [])) = some false := rfl
    push_cast [B_35, e]
    rfl
  | cons x ss => exact shared_core n m _ x ss rfl bi_minL bi_maxL fun t ht => Nat.le_trans (hl t ht) (by decide)
theorem shared_b (n : Nat) (m : Mu) (l : List (List Nat)) (hl : ∀ t ∈ l, t.length ≤ 50000) : callF M sb (n + 1) 35 [.lst (l.map D.str)] m = .ok (.str (shrV l)) m := by
  cases l with
  | nil =>
    rw [u_35]
    have e : truth (.lst (List.map D.str [])) = some false := rfl
    push_cast [B_35, e]
    rfl
  | cons x ss => exact shared_core n m _ x ss rfl bi_minL bi_maxL hl
theorem shared_t (n : Nat) (m : Mu) (l : List (List Nat)) (hl : ∀ t ∈ l, t.length ≤ 16) : callF M sb (n + 1) 35 [.tup (l.map D.str)] m = .ok (.str (shrV l)) m := by
  cases l with
  | nil =>
    rw [u_35]
    have e : truth (.tup (List.map D.str [])) = some false := rfl
    push_cast [B_35, e]
    rfl
  | cons x ss => exact shared_core n m _ x ss rfl bi_minT bi_maxT fun t ht => Nat.le_trans (hl t ht) (by decide)
/-! ### the law's own -/
theorem difs_no {x : List Nat} {ss : List (List Nat)} {j : Nat} (h : j < (shrV (x :: ss)).length) : ((x :: ss).filter fun t => !decide (t.take (j + 1) = x.take (j + 1))).isEmpty = true := by
  have : (x :: ss).filter (fun t => !decide (t.take (j + 1) = x.take (j + 1))) = [] := List.filter_eq_nil_iff.mpr fun t ht => by
    have := shr_same ht (j := j + 1) (by omega)
    simp [this]
  rw [this]; rfl
theorem difs_yes {x : List Nat} {ss : List (List Nat)} (h : (shrV (x :: ss)).length < x.length) : ((x :: ss).filter fun t => !decide (t.take ((shrV (x :: ss)).length + 1) = x.take ((shrV (x :: ss)).length + 1))).isEmpty = false := by
  obtain ⟨t, ht, e⟩ := shr_no h
  cases hf : (x :: ss).filter (fun t => !decide (t.take ((shrV (x :: ss)).length + 1) = x.take ((shrV (x :: ss)).length + 1))) with
  | cons a r => rfl
  | nil => exact absurd (List.filter_eq_nil_iff.mp hf t ht) (by simpa using e)
theorem lshared_ok (n : Nat) (m : Mu) (l : List (List Nat)) (hl : ∀ t ∈ l, t.length ≤ 16) : callF M sb (n + 1) 38 [.lst (l.map D.str)] m = .ok (.str (shrV l)) m := by
  rw [u_38]
  cases l with
  | nil =>
    rw [List.map_nil]
    push_cast [B_38, c_eq00]
    rfl
  | cons x ss =>
    have i0 : idxD (.lst ((x :: ss).map D.str)) (.int 0) = some (.str x) := by rw [List.map_cons]; exact ix_l0
    have e0 : cmpD .eq (.lst ((x :: ss).map D.str)) (.lst []) = some false := c_eqS0
    have hx := hl x List.mem_cons_self
    have hr : rng1D (.int (x.length : Int)) = some ((List.range x.length).map fun k => D.int (k : Nat)) := rng1_n (by omega)
    have hle := shr_le (x := x) (ss := ss) List.mem_cons_self
    have dn := fun j => difs_no (x := x) (ss := ss) (j := j)
    have dy := difs_yes (x := x) (ss := ss)
    have tk := shr_take (x := x) (ss := ss) List.mem_cons_self
    generalize hP : shrV (x :: ss) = P at *
    generalize x :: ss = l at *
    have step : ∀ j, j < P.length → runB (bindT (.one 2) (D.int (j : Nat)) [some (.lst (l.map D.str)), some (.str (x.take j)), none, none]) (fun ρ m => evSs ⟨callF M sb n, sb⟩ B_38_b0 ρ m) m .mk = .nxt [some (.lst (l.map D.str)), some (.str (x.take (j + 1))), none, none] m := fun j hj => by
      have e1 : (j : Int) + 1 = ((j + 1 : Nat) : Int) := rfl
      have e2 := dn j hj
      push_cast [B_38_b0, i0, e1, slS_to, e2, c_neS0]
    have fin : ∀ {r : Fl}, forL (.one 2) (fun ρ m => evSs ⟨callF M sb n, sb⟩ B_38_b0 ρ m) ((List.range x.length).map fun k => D.int (k : Nat)) [some (.lst (l.map D.str)), some (.str []), none, none] m .mk = r →
        (r = .nxt [some (.lst (l.map D.str)), some (.str P), none, none] m ∨ r = .ret (.str P) m) → (evSs ⟨callF M sb n, sb⟩ B_38 [some (.lst (l.map D.str)), none, none, none] m).res = .ok (.str P) m := fun {r} e h => by
      rcases h with h | h <;> subst h <;> push_cast [B_38, e0, i0, hr, e]
    by_cases h : P.length < x.length
    · refine fin (r := .ret (.str P) m) ?_ (.inr rfl)
      have hsplit : List.range x.length = List.range P.length ++ P.length :: (List.range (x.length - P.length - 1)).map (fun k => P.length + 1 + k) := by
        refine List.ext_getElem (by simp; omega) fun i h1 h2 => ?_
        rw [List.getElem_range]
        by_cases q : i < P.length
        · rw [List.getElem_append_left (by simpa using q), List.getElem_range]
        · rw [List.getElem_append_right (by simpa using q)]
          simp only [List.length_range]
          by_cases q2 : i = P.length
          · subst q2; simp
          · obtain ⟨k, rfl⟩ : ∃ k, i = P.length + 1 + k := ⟨i - P.length - 1, by omega⟩
            have : P.length + 1 + k - P.length = k + 1 := by omega
            simp [this]
      rw [hsplit]
      have st := for_stop (z := .mk) (tg := .one 2) (b := fun ρ m => evSs ⟨callF M sb n, sb⟩ B_38_b0 ρ m) (enc := fun j : Nat => D.int (j : Nat)) (p := List.range P.length) (x := P.length) (q := (List.range (x.length - P.length - 1)).map (fun k => P.length + 1 + k)) (r := .ret (.str P) m)
        (fun p => [some (.lst (l.map D.str)), some (.str (x.take p.length)), none, none]) (fun _ => m) (fun p y q e => by
          have hy : y = p.length := by
            have h1 : (List.range P.length)[p.length]? = some y := by rw [e]; simp
            rw [List.getElem?_range] at h1
            · exact (Option.some.inj h1).symm
            · have : (List.range P.length).length = (p ++ y :: q).length := by rw [e]
              rw [List.length_range, List.length_append, List.length_cons] at this
              omega
          have hn : p.length < P.length := by
            have : (List.range P.length).length = (p ++ y :: q).length := by rw [e]
            rw [List.length_range, List.length_append, List.length_cons] at this
            omega
          subst hy
          have := step p.length hn
          simpa using this)
        (by
          have e1 : (P.length : Int) + 1 = ((P.length + 1 : Nat) : Int) := rfl
          have e2 := dy h
          rw [List.length_range, tk]
          push_cast [B_38_b0, i0, e1, slS_to, e2, c_neS0])
        (fun _ _ q => by cases q)
      exact st
    · have he : P.length = x.length := by omega
      refine fin (r := .nxt [some (.lst (l.map D.str)), some (.str P), none, none] m) ?_ (.inl rfl)
      have lp := for_rng (z := .mk) (tg := .one 2) (b := fun ρ m => evSs ⟨callF M sb n, sb⟩ B_38_b0 ρ m) (enc := fun j : Nat => D.int (j : Nat)) (n := x.length) (fun j => [some (.lst (l.map D.str)), some (.str (x.take j)), none, none]) (fun _ => m) fun j hj => step j (by omega)
      rw [← he, tk] at lp
      rw [← he]
      exact lp
end MP

set_option maxRecDepth 100000
set_option maxHeartbeats 4000000
set_option autoImplicit false
namespace MP
open PySem L2
local macro_rules
  | `(tactic| push_cast [$xs,*]) => `(tactic| simp (config := {dsimp := false, implicitDefEqProofs := false}) (disch := first | assumption | omega | (rw [sizeD_n]; omega) | decide) only [↓v_var, ↓v_lit, ↓v_glob, ↓v_bin, ↓v_cmp, ↓v_isN, ↓v_chain, ↓v_and, ↓v_or, ↓v_not, ↓v_ifx, ↓v_idx, ↓v_sl, ↓v_slS, ↓v_tup, ↓v_lst, ↓v_dic0, ↓v_comp, ↓v_cT, ↓v_cK, ↓v_call, ↓v_bi, ↓v_mth, ↓v_isi, ↓v_nil, ↓v_cons, ↓v_kno, ↓v_kyes, ↓v_pno, ↓v_pyes, ↓v_ie, ↓v_r1, ↓v_r2, ↓v_rev, ↓v_zip, ↓v_enum, ↓v_T, ↓w_asg, ↓w_own, ↓w_aug, ↓w_augS, ↓w_app, ↓w_appS, ↓w_drop, ↓w_ret, ↓w_retN, ↓w_ifs, ↓w_whl, ↓w_for, ↓w_rais, ↓w_tri, ↓v_isx, ↓w_asgX, ↓v_tzip, ↓v_rep, tz_ll, triF_n, triF_r, triF_e, triE_n, isx_n, isx_x, isNon_x, ↓w_pas, ↓w_fgt, ↓w_nil, ↓w_cons,
      bC_t, bC_f, bK_t, bK_f, bnd_o, bnd_e, bfl_o, bfl_e, sq_n, sq_r, sq_e, res_r, res_n, res_e, getS_s, intP_i, stO_s, runB_s, b_one, b_two, b_three, b_four, wp_one, wp_two, wp_three, mtOn_s, mtTxt, wipe_n, wipe_c, isNon_i, isNon_n, isNon_t, isNon_s, isNon_l, isNon_b, isNon_d, Res.opt_some, Res.calm_ok, Option.map_some, trn_map, trn_nil, trn_cons, consO_s, consO_n, trnG_map, trnG_fmap,
      List.set_cons_zero, List.set_cons_succ, List.getElem?_cons_zero, List.getElem?_cons_succ, List.length_cons, List.length_nil, List.length_map, List.length_range, List.map_map, Function.comp_def, b_add, b_sub, b_mul, b_mul2, b_div, b_mod, b_addS, b_addL, b_addT, a_add, a_sub, t_bl, t_int, t_str, t_lst, t_tup, t_non, len_l, len_t, len_s, it_l, it_t, it_s, rv_l, rv_t, ix_t0, ix_t1, ix_t2, ix_l0, ix_l1, ix_l2, bi_lt, bi_ll, bi_ls, bi_tl, bi_tt, bi_ib, bi_ii, bi_min, bi_max, bi_all, bi_any, bi_sum, c_lt, c_le, c_gt, c_ge, c_ltS, c_leS, c_gtS, c_geS, c_eqI, c_eqS, c_neI, c_neS, cl_i, cl_s, cl_b, cl_t, cl_l, cl_n, cl_d, tyD, List.any_cons, List.any_nil, Bool.not_true, Bool.not_false, Bool.or_false, Bool.or_true, Bool.false_or, Bool.true_or, bne_self_eq_false, bne_iff_ne, Bool.bne_true, Bool.bne_false, decide_true, decide_false, nc0, nc1, nc2, nc3, nc4, nc5, nc6, nc7, nc8, nc9, Nat.reduceAdd, Nat.reduceSub, Nat.reduceMul, Nat.reduceLT, Nat.reduceLeDiff, Int.reduceAdd, Int.reduceSub, Int.reduceMul, Int.reduceLT, Int.reduceLE, $xs,*])

/-! ### words of a node's text -/
def sgnL : List Nat := [65, 66, 67, 68, 69, 70, 71, 72, 73, 74, 75, 76, 97, 98, 99, 100, 101, 102, 103, 104, 105, 106, 107, 108, 109, 110, 111, 112, 113, 114, 115, 116, 117, 118, 119, 120, 121, 122, 48, 49, 50, 51, 52, 53, 54, 55, 56, 57, 46]
def numOk (k : Nat) (w : List Nat) : Bool := decide (1 ≤ w.length) && decide (w.length ≤ k) && w.all (fun c => decide (c ∈ figL)) && !(decide (1 < w.length) && decide (w[0]? = some 48))
def txtOk (w : List Nat) : Bool := decide (w.take 1 = [61]) && (w.drop 1).all (fun c => decide (c ∈ sgnL))
theorem qfig_iff {x : Nat} : x ∈ figL ↔ isDig x := by
  unfold figL isDig
  simp only [List.mem_cons, List.not_mem_nil, or_false]
  omega
section
variable {n : Nat} {m : Mu}
theorem ix0_eq {w : List Nat} (h : 1 ≤ w.length) : ∃ c, w[0]? = some c ∧ idxD (.str w) (.int 0) = some (.str [c]) := by
  cases w with
  | nil => simp at h
  | cons c r => exact ⟨c, rfl, ix_sn (i := 0) rfl⟩
theorem numIn_ok {w : List Nat} {k : Nat} (hk : k ≤ 600) : callF M sb (n + 1) 350 [.str w, .int (k : Int)] m = if numOk k w = true then .ok (.int (valD w : Nat)) m else .err 9 m := by
  rw [u_350]
  by_cases h1 : 1 ≤ w.length
  · have q1 : (1 : Int) ≤ (w.length : Int) := by omega
    by_cases h2 : w.length ≤ k
    · have q2 : (w.length : Int) ≤ (k : Int) := by omega
      cases h3 : w.all (fun c => decide (c ∈ figL)) with
      | true =>
        obtain ⟨c, e1, e2⟩ := ix0_eq h1
        have hv : biD .int [.str w] = some (.int (valD w : Nat)) := intD (fun x hx => qfig_iff.mp (of_decide_eq_true (List.all_eq_true.mp h3 x hx))) (fun e => by rw [e] at h1; simp at h1) (by omega)
        by_cases h4 : 1 < w.length
        · have q4 : (1 : Int) < (w.length : Int) := by omega
          by_cases h5 : c = 48
          · subst h5
            have e : numOk k w = false := by simp [numOk, h4, e1]
            rw [e]
            have h3' : w.all (fun x => decide (x ∈ [48, 49, 50, 51, 52, 53, 54, 55, 56, 57])) = true := h3
            push_cast [B_350, c_in1, q1, q2, h3', q4, e2]
            rfl
          · have e : numOk k w = true := by simp [numOk, h1, h2, e1, h5]; intro x hx; exact of_decide_eq_true (List.all_eq_true.mp h3 x hx)
            rw [e]
            have h3' : w.all (fun x => decide (x ∈ [48, 49, 50, 51, 52, 53, 54, 55, 56, 57])) = true := h3
            have q5 : ¬ [c] = [48] := fun q => h5 (by simpa using q)
            push_cast [B_350, c_in1, q1, q2, h3', q4, e2, q5, hv]
            rfl
        · have q4 : ¬ (1 : Int) < (w.length : Int) := by omega
          have e : numOk k w = true := by simp [numOk, h1, h2, h4]; intro x hx; exact of_decide_eq_true (List.all_eq_true.mp h3 x hx)
          rw [e]
          have h3' : w.all (fun x => decide (x ∈ [48, 49, 50, 51, 52, 53, 54, 55, 56, 57])) = true := h3
          push_cast [B_350, c_in1, q1, q2, h3', q4, hv]
          rfl
      | false =>
        have e : numOk k w = false := by unfold numOk; rw [h3]; simp
        rw [e]
        have h3' : w.all (fun x => decide (x ∈ [48, 49, 50, 51, 52, 53, 54, 55, 56, 57])) = false := h3
        push_cast [B_350, c_in1, q1, q2, h3']
        rfl
    · have q2 : ¬ (w.length : Int) ≤ (k : Int) := by omega
      have e : numOk k w = false := by simp [numOk, h2]
      rw [e]
      push_cast [B_350, c_in1, q1, q2]
      rfl
  · have q1 : ¬ (1 : Int) ≤ (w.length : Int) := by omega
    have e : numOk k w = false := by simp [numOk, h1]
    rw [e]
    push_cast [B_350, c_in1, q1]
    rfl
theorem sl1_to {w : List Nat} : slD (.str w) none (some 1) = some (.str (w.take 1)) := slS_to (b := 1)
theorem sl1_from {w : List Nat} : slD (.str w) (some 1) none = some (.str (w.drop 1)) := slS_from (a := 1)
theorem txtIn_ok {w : List Nat} : callF M sb (n + 1) 351 [.str w] m = if txtOk w = true then .ok (.str (w.drop 1)) m else .err 9 m := by
  rw [u_351]
  by_cases h1 : w.take 1 = [61]
  · cases h3 : (w.drop 1).all (fun c => decide (c ∈ sgnL)) with
    | true =>
      have e : txtOk w = true := by unfold txtOk; rw [h3, h1]; rfl
      rw [e]
      unfold sgnL at h3
      push_cast [B_351, c_in1, sl1_to, sl1_from, h1, h3]
      rfl
    | false =>
      have e : txtOk w = false := by unfold txtOk; rw [h3, h1]; rfl
      rw [e]
      unfold sgnL at h3
      push_cast [B_351, c_in1, sl1_to, sl1_from, h1, h3]
      rfl
  · have e : txtOk w = false := by unfold txtOk; simp [h1]
    rw [e]
    push_cast [B_351, c_in1, sl1_to, sl1_from, h1]
    rfl
theorem c_neL0 {l : List D} (h : D.flats l = true) : cmpD .ne (.lst l) (.lst []) = some (!l.isEmpty) := by
  show (eqD _ _).map (!·) = _
  unfold eqD
  rw [if_pos ⟨by rw [D.flat]; exact h, rfl, .inr (by decide)⟩]
  cases l with
  | nil => rfl
  | cons a l => rfl
theorem flats_one : ∀ l : List Nat, D.flats (l.map fun c => D.str [c]) = true
  | [] => rfl
  | c :: l => by rw [List.map_cons, D.flats, flats_one l]; rfl
theorem fil_not {α : Type} {p : α → Bool} {l : List α} : (l.filter fun x => !p x).isEmpty = l.all p := by
  induction l with
  | nil => rfl
  | cons x l ih =>
    rw [List.filter_cons, List.all_cons]
    cases p x with
    | true => simpa using ih
    | false => simp
theorem fig_ok {w : List Nat} {k : Nat} (hk : k ≤ 600) : callF M sb (n + 1) 361 [.str w, .int (k : Int)] m = .ok (if numOk k w = true then .int (valD w : Nat) else .non) m := by
  rw [u_361]
  by_cases h1 : w = []
  · subst h1
    have e : numOk k [] = false := by simp [numOk]
    rw [e]
    push_cast [B_361]
    rfl
  · have h1' : 1 ≤ w.length := List.length_pos_iff.mpr h1
    by_cases h2 : w.length ≤ k
    · have q2 : ¬ (k : Int) < (w.length : Int) := by omega
      obtain ⟨c, e1, e2⟩ := ix0_eq h1'
      cases h3 : w.all (fun c => decide (c ∈ figL)) with
      | true =>
        have hv : biD .int [.str w] = some (.int (valD w : Nat)) := intD (fun x hx => qfig_iff.mp (of_decide_eq_true (List.all_eq_true.mp h3 x hx))) h1 (by omega)
        have h3' : (w.filter fun x => !decide (x ∈ [48, 49, 50, 51, 52, 53, 54, 55, 56, 57])).isEmpty = true := by rw [fil_not]; exact h3
        by_cases h4 : 1 < w.length
        · have q4 : (1 : Int) < (w.length : Int) := by omega
          by_cases h5 : c = 48
          · subst h5
            have e : numOk k w = false := by simp [numOk, h4, e1]
            rw [e]
            push_cast [B_361, c_notin1, h1, q2, q4, e2]
            rfl
          · have e : numOk k w = true := by simp [numOk, h1', h2, e1, h5]; intro x hx; exact of_decide_eq_true (List.all_eq_true.mp h3 x hx)
            rw [e]
            have q5 : ¬ [c] = [48] := fun q => h5 (by simpa using q)
            push_cast [B_361, c_notin1, h1, q2, q4, e2, q5, hv, c_neL0 (flats_one _), List.isEmpty_map, h3']
            rfl
        · have q4 : ¬ (1 : Int) < (w.length : Int) := by omega
          have e : numOk k w = true := by simp [numOk, h1', h2, h4]; intro x hx; exact of_decide_eq_true (List.all_eq_true.mp h3 x hx)
          rw [e]
          push_cast [B_361, c_notin1, h1, q2, q4, hv, c_neL0 (flats_one _), List.isEmpty_map, h3']
          rfl
      | false =>
        have e : numOk k w = false := by unfold numOk; rw [h3]; simp
        rw [e]
        have h3' : (w.filter fun x => !decide (x ∈ [48, 49, 50, 51, 52, 53, 54, 55, 56, 57])).isEmpty = false := by rw [fil_not]; exact h3
        by_cases h4 : 1 < w.length
        · have q4 : (1 : Int) < (w.length : Int) := by omega
          by_cases h5 : [c] = [48]
          · push_cast [B_361, c_notin1, h1, q2, q4, e2, h5]
            rfl
          · push_cast [B_361, c_notin1, h1, q2, q4, e2, h5, c_neL0 (flats_one _), List.isEmpty_map, h3']
            rfl
        · have q4 : ¬ (1 : Int) < (w.length : Int) := by omega
          push_cast [B_361, c_notin1, h1, q2, q4, c_neL0 (flats_one _), List.isEmpty_map, h3']
          rfl
    · have q2 : (k : Int) < (w.length : Int) := by omega
      have e : numOk k w = false := by simp [numOk, h2]
      rw [e]
      push_cast [B_361, c_notin1, h1, q2]
      rfl
theorem plain_ok {w : List Nat} : callF M sb (n + 1) 362 [.str w] m = .ok (if txtOk w = true then .str (w.drop 1) else .non) m := by
  rw [u_362]
  by_cases h1 : w.take 1 = [61]
  · cases h3 : (w.drop 1).all (fun c => decide (c ∈ sgnL)) with
    | true =>
      have e : txtOk w = true := by unfold txtOk; rw [h3, h1]; rfl
      rw [e]
      unfold sgnL at h3
      have h3' := h3
      rw [← fil_not] at h3'
      push_cast [B_362, c_notin1, sl1_to, sl1_from, h1, c_neL0 (flats_one _), List.isEmpty_map, h3']
      rfl
    | false =>
      have e : txtOk w = false := by unfold txtOk; rw [h3, h1]; rfl
      rw [e]
      unfold sgnL at h3
      have h3' := h3
      rw [← fil_not] at h3'
      push_cast [B_362, c_notin1, sl1_to, sl1_from, h1, c_neL0 (flats_one _), List.isEmpty_map, h3']
      rfl
  · have e : txtOk w = false := by unfold txtOk; simp [h1]
    rw [e]
    push_cast [B_362, sl1_to, h1]
    rfl
/-! ### rising -/
def risR (l : List (List Nat)) : Bool := (List.range (l.length - 1)).all fun k => ltS (l.getD k []) (l.getD (k + 1) [])
theorem ix_lm {α : Type} (f : α → D) (d : α) {l : List α} {k : Nat} (h : k < l.length) : idxD (.lst (l.map f)) (.int (k : Int)) = some (f (l.getD k d)) := by
  refine ix_ln ?_
  rw [List.getElem?_map, List.getElem?_eq_getElem h, List.getD_eq_getElem?_getD, List.getElem?_eq_getElem h]
  rfl
theorem lris_ok {l : List (List Nat)} (hl : l.length ≤ 100000) : callF M sb (n + 1) 363 [.lst (l.map D.str)] m = .ok (.bl (risR l)) m := by
  rw [u_363]
  have r := rng2_n (a := 1) (b := l.length) hl (by decide)
  rw [nc1] at r
  have st : ∀ x ∈ List.range (l.length - 1), idxD (.lst (l.map D.str)) (.int (((1 + x : Nat) : Int) - 1)) = some (.str (l.getD x [])) ∧ idxD (.lst (l.map D.str)) (.int ((1 + x : Nat) : Int)) = some (.str (l.getD (x + 1) [])) := fun x hx => by
    have := List.mem_range.mp hx
    refine ⟨?_, ?_⟩
    · rw [show ((1 + x : Nat) : Int) - 1 = (x : Int) by omega]
      exact ix_lm D.str [] (by omega)
    · rw [show 1 + x = x + 1 by omega]
      exact ix_lm D.str [] (by omega)
  have ht : trnL (cT ⟨callF M sb n, sb⟩ (.one 1) (.yes (.not1 (.cmp .lt (.idx (.var 0) (.bin .sub (.var 1) (.lit (.int 1)))) (.idx (.var 0) (.var 1))))) (.var 1) [some (.lst (l.map D.str)), none]) ((List.range (l.length - 1)).map fun k => D.int ((1 + k : Nat) : Int)) m .mk = .ok (((List.range (l.length - 1)).filter fun k => !ltS (l.getD k []) (l.getD (k + 1) [])).map fun k => D.int ((1 + k : Nat) : Int)) m := by
    rw [trn_map]
    refine trnG_fil _ _ fun x hx => ?_
    obtain ⟨g1, g2⟩ := st x hx
    cases hp : ltS (l.getD x []) (l.getD (x + 1) []) with
    | true =>
      push_cast [g1, g2, hp]
      rfl
    | false =>
      push_cast [g1, g2, hp]
      rfl
  have e : cmpD .eq (.lst (((List.range (l.length - 1)).filter fun k => !ltS (l.getD k []) (l.getD (k + 1) [])).map fun k => D.int ((1 + k : Nat) : Int))) (.lst []) = some (risR l) := by
    have h2 : risR l = ((List.range (l.length - 1)).filter fun k => !ltS (l.getD k []) (l.getD (k + 1) [])).isEmpty := (fil_not).symm
    rw [h2, show (((List.range (l.length - 1)).filter fun k => !ltS (l.getD k []) (l.getD (k + 1) [])).map fun k => D.int ((1 + k : Nat) : Int)) = ((((List.range (l.length - 1)).filter fun k => !ltS (l.getD k []) (l.getD (k + 1) [])).map fun k => ((1 + k : Nat) : Int)).map D.int) by rw [List.map_map]; rfl]
    generalize ((List.range (l.length - 1)).filter fun k => !ltS (l.getD k []) (l.getD (k + 1) [])) = L
    have := c_neIs (k := L.map fun k => ((1 + k : Nat) : Int)) (l := [])
    show eqD _ _ = _
    have h3 : (eqD (D.lst ((L.map fun k => ((1 + k : Nat) : Int)).map D.int)) (.lst [])).map (!·) = some (!decide (L.map (fun k => ((1 + k : Nat) : Int)) = [])) := this
    cases he : eqD (D.lst ((L.map fun k => ((1 + k : Nat) : Int)).map D.int)) (.lst []) with
    | none => rw [he] at h3; cases h3
    | some b =>
      rw [he] at h3
      have h4 : (!b) = !decide (L.map (fun k => ((1 + k : Nat) : Int)) = []) := Option.some.inj h3
      have h5 : b = decide (L.map (fun k => ((1 + k : Nat) : Int)) = []) := by simpa using congrArg (!·) h4
      rw [h5]
      cases L <;> rfl
  push_cast [B_363, -trn_map, r, ht, e]
theorem for_err {α : Type} {tg : Tgt} {b : Env' → Mu → Fl} {z : Lz b} {enc : α → D} {ρ : Env'} {c : Nat} (p : α → Bool) : ∀ {l : List α}, (∀ x ∈ l, (p x = true → runB (bindT tg (enc x) ρ) b m .mk = .nxt ρ m) ∧ (p x = false → ∃ ρ', runB (bindT tg (enc x) ρ) b m .mk = .err c ρ' m)) →
    (l.all p = true → forL tg b (l.map enc) ρ m z = .nxt ρ m) ∧ (l.all p = false → ∃ ρ', forL tg b (l.map enc) ρ m z = .err c ρ' m)
  | [], _ => ⟨fun _ => rfl, fun h => by cases h⟩
  | x :: l, h => by
    obtain ⟨h1, h2⟩ := h x List.mem_cons_self
    obtain ⟨i1, i2⟩ := for_err (z := z) p (l := l) fun y hy => h y (List.mem_cons_of_mem _ hy)
    rw [List.map_cons, forL_cons, List.all_cons]
    cases hp : p x with
    | true =>
      rw [h1 hp, Bool.true_and]
      rw [sq_n]
      exact ⟨i1, i2⟩
    | false =>
      obtain ⟨ρ', e⟩ := h2 hp
      rw [e, Bool.false_and]
      rw [sq_e]
      exact ⟨(fun q => nomatch q), fun _ => ⟨ρ', rfl⟩⟩
theorem need_ok {l : List (List Nat)} (hl : l.length ≤ 100000) : callF M sb (n + 1) 352 [.lst (l.map D.str)] m = if risR l = true then .ok .non m else .err 9 m := by
  rw [u_352]
  have r := rng2_n (a := 1) (b := l.length) hl (by decide)
  rw [nc1] at r
  have st : ∀ x ∈ List.range (l.length - 1), idxD (.lst (l.map D.str)) (.int (((1 + x : Nat) : Int) - 1)) = some (.str (l.getD x [])) ∧ idxD (.lst (l.map D.str)) (.int ((1 + x : Nat) : Int)) = some (.str (l.getD (x + 1) [])) := fun x hx => by
    have := List.mem_range.mp hx
    refine ⟨?_, ?_⟩
    · rw [show ((1 + x : Nat) : Int) - 1 = (x : Int) by omega]
      exact ix_lm D.str [] (by omega)
    · rw [show 1 + x = x + 1 by omega]
      exact ix_lm D.str [] (by omega)
  obtain ⟨h1, h2⟩ := for_err (tg := .one 1) (b := fun ρ m => evSs ⟨callF M sb n, sb⟩ B_352_b0 ρ m) (z := .mk) (m := m) (c := 9) (enc := fun k => D.int ((1 + k : Nat) : Int)) (ρ := [some (.lst (l.map D.str)), none]) (fun k => ltS (l.getD k []) (l.getD (k + 1) [])) (l := List.range (l.length - 1)) fun x hx => by
    obtain ⟨g1, g2⟩ := st x hx
    refine ⟨fun hp => ?_, fun hp => ⟨[some (.lst (l.map D.str)), some (D.int ((1 + x : Nat) : Int))], ?_⟩⟩
    · push_cast [B_352_b0, g1, g2, hp]
    · push_cast [B_352_b0, g1, g2, hp]
  cases hr : risR l with
  | true =>
    have h3 := h1 hr
    push_cast [B_352, r, h3]
    rfl
  | false =>
    obtain ⟨ρ', h3⟩ := h2 hr
    push_cast [B_352, r, h3]
    rfl
end
end MP

set_option maxRecDepth 100000
set_option maxHeartbeats 4000000
set_option autoImplicit false
namespace MP
open PySem L2
local macro_rules
  | `(tactic| push_cast [$xs,*]) => `(tactic| simp (config := {dsimp := false, implicitDefEqProofs := false}) (disch := first | assumption | omega | (rw [sizeD_n]; omega) | decide) only [↓v_var, ↓v_lit, ↓v_glob, ↓v_bin, ↓v_cmp, ↓v_isN, ↓v_chain, ↓v_and, ↓v_or, ↓v_not, ↓v_ifx, ↓v_idx, ↓v_sl, ↓v_slS, ↓v_tup, ↓v_lst, ↓v_dic0, ↓v_comp, ↓v_cT, ↓v_cK, ↓v_call, ↓v_bi, ↓v_mth, ↓v_isi, ↓v_nil, ↓v_cons, ↓v_kno, ↓v_kyes, ↓v_pno, ↓v_pyes, ↓v_ie, ↓v_r1, ↓v_r2, ↓v_rev, ↓v_zip, ↓v_enum, ↓v_T, ↓w_asg, ↓w_own, ↓w_aug, ↓w_augS, ↓w_app, ↓w_appS, ↓w_drop, ↓w_ret, ↓w_retN, ↓w_ifs, ↓w_whl, ↓w_for, ↓w_rais, ↓w_tri, ↓v_isx, ↓w_asgX, ↓v_tzip, ↓v_rep, tz_ll, triF_n, triF_r, triF_e, triE_n, isx_n, isx_x, isNon_x, ↓w_pas, ↓w_fgt, ↓w_nil, ↓w_cons,
      bC_t, bC_f, bK_t, bK_f, bnd_o, bnd_e, bfl_o, bfl_e, sq_n, sq_r, sq_e, res_r, res_n, res_e, getS_s, intP_i, stO_s, runB_s, b_one, b_two, b_three, b_four, wp_one, wp_two, wp_three, mtOn_s, mtTxt, wipe_n, wipe_c, isNon_i, isNon_n, isNon_t, isNon_s, isNon_l, isNon_b, isNon_d, Res.opt_some, Res.calm_ok, Option.map_some, trn_map, trn_nil, trn_cons, consO_s, consO_n, trnG_map, trnG_fmap,
      List.set_cons_zero, List.set_cons_succ, List.getElem?_cons_zero, List.getElem?_cons_succ, List.length_cons, List.length_nil, List.length_map, List.length_range, List.map_map, Function.comp_def, b_add, b_sub, b_mul, b_mul2, b_div, b_mod, b_addS, b_addL, b_addT, a_add, a_sub, t_bl, t_int, t_str, t_lst, t_tup, t_non, len_l, len_t, len_s, it_l, it_t, it_s, rv_l, rv_t, ix_t0, ix_t1, ix_t2, ix_l0, ix_l1, ix_l2, bi_lt, bi_ll, bi_ls, bi_tl, bi_tt, bi_ib, bi_ii, bi_min, bi_max, bi_all, bi_any, bi_sum, c_lt, c_le, c_gt, c_ge, c_ltS, c_leS, c_gtS, c_geS, c_eqI, c_eqS, c_neI, c_neS, cl_i, cl_s, cl_b, cl_t, cl_l, cl_n, cl_d, tyD, List.any_cons, List.any_nil, Bool.not_true, Bool.not_false, Bool.or_false, Bool.or_true, Bool.false_or, Bool.true_or, bne_self_eq_false, bne_iff_ne, Bool.bne_true, Bool.bne_false, decide_true, decide_false, nc0, nc1, nc2, nc3, nc4, nc5, nc6, nc7, nc8, nc9, Nat.reduceAdd, Nat.reduceSub, Nat.reduceMul, Nat.reduceLT, Nat.reduceLeDiff, Int.reduceAdd, Int.reduceSub, Int.reduceMul, Int.reduceLT, Int.reduceLE, $xs,*])

/-! ### each second, each third -/
def evs {α : Type} : List α → List α
  | a :: _ :: l => a :: evs l
  | [a] => [a]
  | [] => []
def ths {α : Type} : List α → List α
  | a :: _ :: _ :: l => a :: ths l
  | [a, _] => [a]
  | [a] => [a]
  | [] => []
theorem qfm_congr {α β : Type} {f g : α → Option β} : ∀ {l : List α}, (∀ x ∈ l, f x = g x) → l.filterMap f = l.filterMap g
  | [], _ => rfl
  | x :: l, h => by rw [List.filterMap_cons, List.filterMap_cons, h x List.mem_cons_self, qfm_congr fun y hy => h y (List.mem_cons_of_mem _ hy)]
theorem evs_fm {α : Type} : ∀ l : List α, (List.range ((l.length + 1) / 2)).filterMap (fun i => l[2 * i]?) = evs l
  | a :: b :: l => by
    have ih := evs_fm l
    rw [show ((a :: b :: l).length + 1) / 2 = (l.length + 1) / 2 + 1 by simp only [List.length_cons]; omega, List.range_succ_eq_map, List.filterMap_cons_some (by rfl), List.filterMap_map]
    show a :: _ = a :: evs l
    rw [← ih]
    refine congrArg (a :: ·) (qfm_congr fun i _ => ?_)
    show (a :: b :: l)[2 * (i + 1)]? = _
    rw [show 2 * (i + 1) = 2 * i + 2 by omega]
    rfl
  | [a] => by simp [evs, ths]
  | [] => by simp [evs, ths]
theorem ths_fm {α : Type} : ∀ l : List α, (List.range ((l.length + 2) / 3)).filterMap (fun i => l[3 * i]?) = ths l
  | a :: b :: c :: l => by
    have ih := ths_fm l
    rw [show ((a :: b :: c :: l).length + 2) / 3 = (l.length + 2) / 3 + 1 by simp only [List.length_cons]; omega, List.range_succ_eq_map, List.filterMap_cons_some (by rfl), List.filterMap_map]
    show a :: _ = a :: ths l
    rw [← ih]
    refine congrArg (a :: ·) (qfm_congr fun i _ => ?_)
    show (a :: b :: c :: l)[3 * (i + 1)]? = _
    rw [show 3 * (i + 1) = 3 * i + 3 by omega]
    rfl
  | [a, b] => by simp [ths, List.range_succ]
  | [a] => by simp [evs, ths]
  | [] => by simp [evs, ths]
theorem evs_map {α β : Type} (f : α → β) : ∀ l : List α, evs (l.map f) = (evs l).map f
  | a :: b :: l => congrArg (f a :: ·) (evs_map f l)
  | [a] => rfl
  | [] => rfl
theorem ths_map {α β : Type} (f : α → β) : ∀ l : List α, ths (l.map f) = (ths l).map f
  | a :: b :: c :: l => congrArg (f a :: ·) (ths_map f l)
  | [a, b] => rfl
  | [a] => rfl
  | [] => rfl
theorem pick2 (l : List D) (a : Nat) : slSD (.lst l) (some (a : Int)) 2 = some (.lst (evs (l.drop a))) := by
  rw [show slSD (.lst l) (some (a : Int)) 2 = some (.lst (pickL l (some (a : Int)) 2)) from rfl, ← evs_fm]
  unfold pickL sliceRange sliceBounds
  have e : (if max 0 (min (a : Int) (l.length : Int)) < (l.length : Int) then ((l.length : Int) - max 0 (min (a : Int) (l.length : Int)) + 2 - 1) / 2 else 0).toNat = ((l.drop a).length + 1) / 2 := by
    rw [List.length_drop]
    split <;> omega
  simp only [Option.getD_some, show (2 : Int) > 0 by decide, show ¬ (a : Int) < 0 by omega, if_true, if_false, e, List.filterMap_map, Function.comp_def]
  refine congrArg (fun z => some (D.lst z)) (qfm_congr fun i hi => ?_)
  have := List.mem_range.mp hi
  rw [List.length_drop] at this
  rw [show (max 0 (min (a : Int) (l.length : Int)) + 2 * (i : Int)).toNat = a + 2 * i by omega, List.getElem?_drop]
theorem pick3 (l : List D) (a : Nat) : slSD (.lst l) (some (a : Int)) 3 = some (.lst (ths (l.drop a))) := by
  rw [show slSD (.lst l) (some (a : Int)) 3 = some (.lst (pickL l (some (a : Int)) 3)) from rfl, ← ths_fm]
  unfold pickL sliceRange sliceBounds
  have e : (if max 0 (min (a : Int) (l.length : Int)) < (l.length : Int) then ((l.length : Int) - max 0 (min (a : Int) (l.length : Int)) + 3 - 1) / 3 else 0).toNat = ((l.drop a).length + 2) / 3 := by
    rw [List.length_drop]
    split <;> omega
  simp only [Option.getD_some, show (3 : Int) > 0 by decide, show ¬ (a : Int) < 0 by omega, if_true, if_false, e, List.filterMap_map, Function.comp_def]
  refine congrArg (fun z => some (D.lst z)) (qfm_congr fun i hi => ?_)
  have := List.mem_range.mp hi
  rw [List.length_drop] at this
  rw [show (max 0 (min (a : Int) (l.length : Int)) + 3 * (i : Int)).toNat = a + 3 * i by omega, List.getElem?_drop]
theorem pick2s (ws : List (List Nat)) (a : Nat) : slSD (.lst (ws.map D.str)) (some (a : Int)) 2 = some (.lst ((evs (ws.drop a)).map D.str)) := by rw [pick2, ← List.map_drop, evs_map]
theorem pick3s (ws : List (List Nat)) (a : Nat) : slSD (.lst (ws.map D.str)) (some (a : Int)) 3 = some (.lst ((ths (ws.drop a)).map D.str)) := by rw [pick3, ← List.map_drop, ths_map]
theorem evs_mem {α : Type} : ∀ {l : List α} {x : α}, x ∈ evs l → x ∈ l
  | a :: b :: l, x, h => by
    rcases List.mem_cons.mp h with h | h
    · rw [h]; exact List.mem_cons_self
    · exact List.mem_cons_of_mem _ (List.mem_cons_of_mem _ (evs_mem h))
  | [a], x, h => h
  | [], x, h => h
theorem ths_mem {α : Type} : ∀ {l : List α} {x : α}, x ∈ ths l → x ∈ l
  | a :: b :: c :: l, x, h => by
    rcases List.mem_cons.mp h with h | h
    · rw [h]; exact List.mem_cons_self
    · exact List.mem_cons_of_mem _ (List.mem_cons_of_mem _ (List.mem_cons_of_mem _ (ths_mem h)))
  | [a, b], x, h => by
    have : x = a := by simpa [ths] using h
    rw [this]; exact List.mem_cons_self
  | [a], x, h => h
  | [], x, h => h
theorem evs_len {α : Type} : ∀ l : List α, (evs l).length = (l.length + 1) / 2
  | a :: b :: l => by rw [evs, List.length_cons, evs_len l, List.length_cons, List.length_cons]; omega
  | [a] => by simp [evs, ths]
  | [] => by simp [evs, ths]
theorem ths_len {α : Type} : ∀ l : List α, (ths l).length = (l.length + 2) / 3
  | a :: b :: c :: l => by rw [ths, List.length_cons, ths_len l, List.length_cons, List.length_cons, List.length_cons]; omega
  | [a, b] => by simp [ths, List.range_succ]
  | [a] => by simp [evs, ths]
  | [] => by simp [evs, ths]
/-! ### nodes -/
def leafW : List Nat := [108, 101, 97, 102]
def branchW : List Nat := [98, 114, 97, 110, 99, 104]
inductive Nd where | leaf (b : List Nat) (cells : List (List Nat × Nat)) | branch (marks : List (List Nat)) (kids : List (Nat × Nat))
def cellD (c : List Nat × Nat) : D := .tup [.str c.1, .int (c.2 : Nat)]
def kidD (c : Nat × Nat) : D := .tup [.int (c.1 : Nat), .int (c.2 : Nat)]
def ndD : Nd → D
  | .leaf b cs => .tup [.str leafW, .str b, .tup (cs.map cellD)]
  | .branch ms ks => .tup [.str branchW, .tup (ms.map D.str), .tup (ks.map kidD)]
def dr1 (w : List Nat) : List Nat := w.drop 1
def rdLeaf (ws : List (List Nat)) : Option Nd :=
  if decide (ws.length % 2 = 0) && txtOk (ws.getD 1 []) && (evs (ws.drop 2)).all txtOk && (evs (ws.drop 3)).all (numOk 60) && risR ((evs (ws.drop 2)).map dr1) && (shrV ((evs (ws.drop 2)).map dr1)).isEmpty && (!(evs (ws.drop 2)).isEmpty || (dr1 (ws.getD 1 [])).isEmpty)
  then some (.leaf (dr1 (ws.getD 1 [])) (List.zip ((evs (ws.drop 2)).map dr1) ((evs (ws.drop 3)).map valD))) else none
def rdBranch (ws : List (List Nat)) : Option Nd :=
  if decide (ws.length % 3 = 0) && (ths (ws.drop 3)).all txtOk && (ths (ws.drop 1)).all (numOk 6) && (ths (ws.drop 2)).all (numOk 6) && risR ((ths (ws.drop 3)).map dr1)
  then some (.branch ((ths (ws.drop 3)).map dr1) (List.zip ((ths (ws.drop 1)).map valD) ((ths (ws.drop 2)).map valD))) else none
/-- the words, told or refused -/
def rdR (r : Option Nd) (m : Mu) : Res D := match r with
  | some nd => .ok (ndD nd) m
  | none => .err 9 m
theorem rdR_s {nd : Nd} {m : Mu} : rdR (some nd) m = .ok (ndD nd) m := rfl
theorem rdR_n {m : Mu} : rdR none m = .err 9 m := rfl
theorem zip_cells (a : List (List Nat)) (b : List Nat) : List.zipWith (fun x y => D.tup [x, y]) (a.map D.str) (b.map fun i => D.int (i : Nat)) = (List.zip a b).map cellD := by
  rw [List.zipWith_map, List.zip, List.map_zipWith]
  rfl
theorem zip_kids (a b : List Nat) : List.zipWith (fun x y => D.tup [x, y]) (a.map fun i => D.int (i : Nat)) (b.map fun i => D.int (i : Nat)) = (List.zip a b).map kidD := by
  rw [List.zipWith_map, List.zip, List.map_zipWith]
  rfl
section
variable {n : Nat} {m : Mu}
theorem leafin_ok {ws : List (List Nat)} (h0 : ws ≠ []) (hl : ws.length ≤ 50000) (hw : ∀ w ∈ ws, w.length ≤ 50000) : callF M sb (n + 2) 353 [.lst (ws.map D.str)] m = rdR (rdLeaf ws) m := by
  rw [u_353]
  by_cases h1 : ws.length % 2 = 0
  · have q1 : ¬ (ws.length : Int) % 2 = 1 := by omega
    have hlen : 1 < ws.length := by
      have := List.length_pos_iff.mpr h0
      omega
    have i1 : idxD (.lst (ws.map D.str)) (.int 1) = some (.str (ws.getD 1 [])) := ix_lm D.str [] (k := 1) hlen
    have s2 := pick2s ws 2
    have s3 := pick2s ws 3
    rw [nc2] at s2
    rw [nc3] at s3
    cases h2 : txtOk (ws.getD 1 []) with
    | false =>
      have e : rdLeaf ws = none := by unfold rdLeaf; rw [h2]; simp
      rw [e]
      have t := txtIn_ok (n := n) (m := m) (w := ws.getD 1 [])
      rw [h2] at t
      push_cast [B_353, q1, i1, t]
      rfl
    | true =>
      have t := txtIn_ok (n := n) (m := m) (w := ws.getD 1 [])
      rw [h2] at t
      have t : callF M sb (n + 1) 351 [.str (ws.getD 1 [])] m = .ok (.str (dr1 (ws.getD 1 []))) m := t
      have x2 := trX_all (C := ⟨callF M sb (n + 1), sb⟩) (tg := .one 4) (e := .call 351 (.cons (.var 4) .nil)) (ρ := [some (.lst (ws.map D.str)), some (.str (dr1 (ws.getD 1 []))), none, none, none]) D.str (fun w => .str (dr1 w)) txtOk 9 (evs (ws.drop 2)) (fun x hx m => by
        show evE _ _ [some (.lst (ws.map D.str)), some (.str (dr1 (ws.getD 1 []))), none, none, some (.str x)] m = _
        push_cast [txtIn_ok]
        rfl) m
      cases h3 : (evs (ws.drop 2)).all txtOk with
      | false =>
        have e : rdLeaf ws = none := by unfold rdLeaf; rw [h3]; simp
        rw [e]
        rw [h3] at x2
        push_cast [B_353, q1, i1, t, s2, x2]
        rfl
      | true =>
        rw [h3] at x2
        have x2 : trX _ _ _ _ _ m = .ok (((evs (ws.drop 2)).map fun w => D.str (dr1 w))) m := x2
        have x3 := trX_all (C := ⟨callF M sb (n + 1), sb⟩) (tg := .one 4) (e := .call 350 (.cons (.var 4) (.cons (.glob "VALUE_FIGURES" (.int 60)) .nil))) (ρ := [some (.lst (ws.map D.str)), some (.str (dr1 (ws.getD 1 []))), some (.lst ((evs (ws.drop 2)).map fun w => D.str (dr1 w))), none, none]) D.str (fun w => .int (valD w : Nat)) (numOk 60) 9 (evs (ws.drop 3)) (fun x hx m => by
          show evE _ _ [some (.lst (ws.map D.str)), some (.str (dr1 (ws.getD 1 []))), some (.lst ((evs (ws.drop 2)).map fun w => D.str (dr1 w))), none, some (.str x)] m = _
          have := numIn_ok (n := n) (m := m) (w := x) (k := 60) (by decide)
          rw [show ((60 : Nat) : Int) = 60 from rfl] at this
          push_cast [this]) m
        cases h4 : (evs (ws.drop 3)).all (numOk 60) with
        | false =>
          have e : rdLeaf ws = none := by unfold rdLeaf; rw [h4]; simp
          rw [e]
          rw [h4] at x3
          push_cast [B_353, q1, i1, t, s2, x2, s3, x3]
          rfl
        | true =>
          rw [h4] at x3
          have x3 : trX _ _ _ _ _ m = .ok (((evs (ws.drop 3)).map fun w => D.int (valD w : Nat))) m := x3
          have em : (evs (ws.drop 2)).map (fun w => D.str (dr1 w)) = ((evs (ws.drop 2)).map dr1).map D.str := by rw [List.map_map]; rfl
          have em3 : (evs (ws.drop 3)).map (fun w => D.int (valD w : Nat)) = ((evs (ws.drop 3)).map valD).map fun i => D.int (i : Nat) := by rw [List.map_map]; rfl
          have hm : ∀ x ∈ (evs (ws.drop 2)).map dr1, x.length ≤ 50000 := fun x hx => by
            obtain ⟨y, hy, e⟩ := List.mem_map.mp hx
            have := hw y (List.mem_of_mem_drop (evs_mem hy))
            rw [← e]
            unfold dr1
            rw [List.length_drop]
            omega
          have hc : ((evs (ws.drop 2)).map dr1).length ≤ 50000 := by
            rw [List.length_map, evs_len, List.length_drop]; omega
          have rs := need_ok (n := n) (m := m) (l := (evs (ws.drop 2)).map dr1) (by omega)
          have sh := shared_b n m ((evs (ws.drop 2)).map dr1) hm
          have hz : ((evs (ws.drop 2)).map dr1).isEmpty = (evs (ws.drop 2)).isEmpty := List.isEmpty_map
          have hzz := zip_cells ((evs (ws.drop 2)).map dr1) ((evs (ws.drop 3)).map valD)
          rw [em] at x2 x3
          rw [em3] at x3
          have un : rdLeaf ws = if risR ((evs (ws.drop 2)).map dr1) && (shrV ((evs (ws.drop 2)).map dr1)).isEmpty && (!((evs (ws.drop 2)).map dr1).isEmpty || (dr1 (ws.getD 1 [])).isEmpty) then some (.leaf (dr1 (ws.getD 1 [])) (List.zip ((evs (ws.drop 2)).map dr1) ((evs (ws.drop 3)).map valD))) else none := by
            unfold rdLeaf
            rw [h2, h3, h4, decide_eq_true h1, hz]
            rfl
          rw [un]
          generalize (evs (ws.drop 2)).map dr1 = R at *
          generalize (evs (ws.drop 3)).map valD = V at *
          generalize dr1 (ws.getD 1 []) = b at *
          cases h5 : risR R with
          | false =>
            rw [h5] at rs
            push_cast [B_353, q1, i1, t, s2, x2, s3, x3, rs]
            rfl
          | true =>
            rw [h5] at rs
            have rs : callF M sb (n + 1) 352 [.lst (R.map D.str)] m = .ok .non m := rs
            by_cases h6 : shrV R = []
            · cases h7 : R.isEmpty with
              | true =>
                by_cases h8 : b = []
                · subst h8
                  push_cast [B_353, q1, i1, t, s2, x2, s3, x3, rs, sh, h6, List.isEmpty_map, h7, hzz]
                  rfl
                · have h8' : b.isEmpty = false := by cases b with | nil => exact absurd rfl h8 | cons _ _ => rfl
                  push_cast [B_353, q1, i1, t, s2, x2, s3, x3, rs, sh, h6, List.isEmpty_map, h7, h8]
                  rw [h8']
                  rfl
              | false =>
                push_cast [B_353, q1, i1, t, s2, x2, s3, x3, rs, sh, h6, List.isEmpty_map, h7, hzz]
                rfl
            · have h6' : (shrV R).isEmpty = false := by cases he : shrV R with | nil => exact absurd he h6 | cons _ _ => rfl
              push_cast [B_353, q1, i1, t, s2, x2, s3, x3, rs, sh, h6]
              rw [h6']
              rfl
  · have q1 : (ws.length : Int) % 2 = 1 := by omega
    have e : rdLeaf ws = none := by unfold rdLeaf; rw [decide_eq_false h1]; simp
    rw [e]
    push_cast [B_353, q1]
    rfl
end
end MP

set_option maxRecDepth 100000
set_option maxHeartbeats 4000000
set_option autoImplicit false
namespace MP
open PySem L2
local macro_rules
  | `(tactic| push_cast [$xs,*]) => `(tactic| simp (config := {dsimp := false, implicitDefEqProofs := false}) (disch := first | assumption | omega | (rw [sizeD_n]; omega) | decide) only [↓v_var, ↓v_lit, ↓v_glob, ↓v_bin, ↓v_cmp, ↓v_isN, ↓v_chain, ↓v_and, ↓v_or, ↓v_not, ↓v_ifx, ↓v_idx, ↓v_sl, ↓v_slS, ↓v_tup, ↓v_lst, ↓v_dic0, ↓v_comp, ↓v_cT, ↓v_cK, ↓v_call, ↓v_bi, ↓v_mth, ↓v_isi, ↓v_nil, ↓v_cons, ↓v_kno, ↓v_kyes, ↓v_pno, ↓v_pyes, ↓v_ie, ↓v_r1, ↓v_r2, ↓v_rev, ↓v_zip, ↓v_enum, ↓v_T, ↓w_asg, ↓w_own, ↓w_aug, ↓w_augS, ↓w_app, ↓w_appS, ↓w_drop, ↓w_ret, ↓w_retN, ↓w_ifs, ↓w_whl, ↓w_for, ↓w_rais, ↓w_tri, ↓v_isx, ↓w_asgX, ↓v_tzip, ↓v_rep, tz_ll, triF_n, triF_r, triF_e, triE_n, isx_n, isx_x, isNon_x, ↓w_pas, ↓w_fgt, ↓w_nil, ↓w_cons,
      bC_t, bC_f, bK_t, bK_f, bnd_o, bnd_e, bfl_o, bfl_e, sq_n, sq_r, sq_e, res_r, res_n, res_e, getS_s, intP_i, stO_s, runB_s, b_one, b_two, b_three, b_four, wp_one, wp_two, wp_three, mtOn_s, mtTxt, wipe_n, wipe_c, isNon_i, isNon_n, isNon_t, isNon_s, isNon_l, isNon_b, isNon_d, Res.opt_some, Res.calm_ok, Option.map_some, trn_map, trn_nil, trn_cons, consO_s, consO_n, trnG_map, trnG_fmap,
      List.set_cons_zero, List.set_cons_succ, List.getElem?_cons_zero, List.getElem?_cons_succ, List.length_cons, List.length_nil, List.length_map, List.length_range, List.map_map, Function.comp_def, b_add, b_sub, b_mul, b_mul2, b_div, b_mod, b_addS, b_addL, b_addT, a_add, a_sub, t_bl, t_int, t_str, t_lst, t_tup, t_non, len_l, len_t, len_s, it_l, it_t, it_s, rv_l, rv_t, ix_t0, ix_t1, ix_t2, ix_l0, ix_l1, ix_l2, bi_lt, bi_ll, bi_ls, bi_tl, bi_tt, bi_ib, bi_ii, bi_min, bi_max, bi_all, bi_any, bi_sum, c_lt, c_le, c_gt, c_ge, c_ltS, c_leS, c_gtS, c_geS, c_eqI, c_eqS, c_neI, c_neS, cl_i, cl_s, cl_b, cl_t, cl_l, cl_n, cl_d, tyD, List.any_cons, List.any_nil, Bool.not_true, Bool.not_false, Bool.or_false, Bool.or_true, Bool.false_or, Bool.true_or, bne_self_eq_false, bne_iff_ne, Bool.bne_true, Bool.bne_false, decide_true, decide_false, nc0, nc1, nc2, nc3, nc4, nc5, nc6, nc7, nc8, nc9, Nat.reduceAdd, Nat.reduceSub, Nat.reduceMul, Nat.reduceLT, Nat.reduceLeDiff, Int.reduceAdd, Int.reduceSub, Int.reduceMul, Int.reduceLT, Int.reduceLE, $xs,*])

section
variable {n : Nat} {m : Mu}
theorem branchin_ok {ws : List (List Nat)} (h0 : ws ≠ []) (hl : ws.length ≤ 50000) : callF M sb (n + 2) 354 [.lst (ws.map D.str)] m = rdR (rdBranch ws) m := by
  rw [u_354]
  by_cases h1 : ws.length % 3 = 0
  · have hlen : 3 ≤ ws.length := by
      have := List.length_pos_iff.mpr h0
      omega
    have q0 : ¬ (ws.length : Int) < 3 := by omega
    have q1 : (ws.length : Int) % 3 = 0 := by omega
    have s1 := pick3s ws 1
    have s2 := pick3s ws 2
    have s3 := pick3s ws 3
    rw [nc1] at s1
    rw [nc2] at s2
    rw [nc3] at s3
    have x1 := trX_all (C := ⟨callF M sb (n + 1), sb⟩) (tg := .one 4) (e := .call 351 (.cons (.var 4) .nil)) (ρ := [some (.lst (ws.map D.str)), none, none, none, none]) D.str (fun w => .str (dr1 w)) txtOk 9 (ths (ws.drop 3)) (fun x hx m => by
      show evE _ _ [some (.lst (ws.map D.str)), none, none, none, some (.str x)] m = _
      push_cast [txtIn_ok]
      rfl) m
    cases h2 : (ths (ws.drop 3)).all txtOk with
    | false =>
      have e : rdBranch ws = none := by unfold rdBranch; rw [h2]; simp
      rw [e]
      rw [h2] at x1
      push_cast [B_354, q0, q1, s3, x1]
      rfl
    | true =>
      rw [h2] at x1
      have x1 : trX _ _ _ _ _ m = .ok (((ths (ws.drop 3)).map fun w => D.str (dr1 w))) m := x1
      have x2 := trX_all (C := ⟨callF M sb (n + 1), sb⟩) (tg := .one 4) (e := .call 350 (.cons (.var 4) (.cons (.glob "PAGE_FIGURES" (.int 6)) .nil))) (ρ := [some (.lst (ws.map D.str)), some (.lst ((ths (ws.drop 3)).map fun w => D.str (dr1 w))), none, none, none]) D.str (fun w => .int (valD w : Nat)) (numOk 6) 9 (ths (ws.drop 1)) (fun x hx m => by
        show evE _ _ [some (.lst (ws.map D.str)), some (.lst ((ths (ws.drop 3)).map fun w => D.str (dr1 w))), none, none, some (.str x)] m = _
        have := numIn_ok (n := n) (m := m) (w := x) (k := 6) (by decide)
        rw [nc6] at this
        push_cast [this]) m
      cases h3 : (ths (ws.drop 1)).all (numOk 6) with
      | false =>
        have e : rdBranch ws = none := by unfold rdBranch; rw [h3]; simp
        rw [e]
        rw [h3] at x2
        push_cast [B_354, q0, q1, s3, x1, s1, x2]
        rfl
      | true =>
        rw [h3] at x2
        have x2 : trX _ _ _ _ _ m = .ok (((ths (ws.drop 1)).map fun w => D.int (valD w : Nat))) m := x2
        have x3 := trX_all (C := ⟨callF M sb (n + 1), sb⟩) (tg := .one 4) (e := .call 350 (.cons (.var 4) (.cons (.glob "PAGE_FIGURES" (.int 6)) .nil))) (ρ := [some (.lst (ws.map D.str)), some (.lst ((ths (ws.drop 3)).map fun w => D.str (dr1 w))), some (.lst ((ths (ws.drop 1)).map fun w => D.int (valD w : Nat))), none, none]) D.str (fun w => .int (valD w : Nat)) (numOk 6) 9 (ths (ws.drop 2)) (fun x hx m => by
          show evE _ _ [some (.lst (ws.map D.str)), some (.lst ((ths (ws.drop 3)).map fun w => D.str (dr1 w))), some (.lst ((ths (ws.drop 1)).map fun w => D.int (valD w : Nat))), none, some (.str x)] m = _
          have := numIn_ok (n := n) (m := m) (w := x) (k := 6) (by decide)
          rw [nc6] at this
          push_cast [this]) m
        cases h4 : (ths (ws.drop 2)).all (numOk 6) with
        | false =>
          have e : rdBranch ws = none := by unfold rdBranch; rw [h4]; simp
          rw [e]
          rw [h4] at x3
          push_cast [B_354, q0, q1, s3, x1, s1, x2, s2, x3]
          rfl
        | true =>
          rw [h4] at x3
          have x3 : trX _ _ _ _ _ m = .ok (((ths (ws.drop 2)).map fun w => D.int (valD w : Nat))) m := x3
          have em : (ths (ws.drop 3)).map (fun w => D.str (dr1 w)) = ((ths (ws.drop 3)).map dr1).map D.str := by rw [List.map_map]; rfl
          have em1 : (ths (ws.drop 1)).map (fun w => D.int (valD w : Nat)) = ((ths (ws.drop 1)).map valD).map fun i => D.int (i : Nat) := by rw [List.map_map]; rfl
          have em2 : (ths (ws.drop 2)).map (fun w => D.int (valD w : Nat)) = ((ths (ws.drop 2)).map valD).map fun i => D.int (i : Nat) := by rw [List.map_map]; rfl
          have hc : ((ths (ws.drop 3)).map dr1).length ≤ 50000 := by
            rw [List.length_map, ths_len, List.length_drop]; omega
          have rs := need_ok (n := n) (m := m) (l := (ths (ws.drop 3)).map dr1) (by omega)
          have hzz := zip_kids ((ths (ws.drop 1)).map valD) ((ths (ws.drop 2)).map valD)
          rw [em] at x1 x2 x3
          rw [em1] at x2 x3
          rw [em2] at x3
          have un : rdBranch ws = if risR ((ths (ws.drop 3)).map dr1) = true then some (.branch ((ths (ws.drop 3)).map dr1) (List.zip ((ths (ws.drop 1)).map valD) ((ths (ws.drop 2)).map valD))) else none := by
            unfold rdBranch
            rw [h2, h3, h4, decide_eq_true h1]
            rfl
          rw [un]
          generalize (ths (ws.drop 3)).map dr1 = R at *
          generalize (ths (ws.drop 1)).map valD = V at *
          generalize (ths (ws.drop 2)).map valD = U at *
          cases h5 : risR R with
          | false =>
            rw [h5] at rs
            push_cast [B_354, q0, q1, s3, x1, s1, x2, s2, x3, rs]
            rfl
          | true =>
            rw [h5] at rs
            have rs : callF M sb (n + 1) 352 [.lst (R.map D.str)] m = .ok .non m := rs
            push_cast [B_354, q0, q1, s3, x1, s1, x2, s2, x3, rs, hzz]
            rfl
  · have e : rdBranch ws = none := by unfold rdBranch; rw [decide_eq_false h1]; simp
    rw [e]
    by_cases q0 : (ws.length : Int) < 3
    · push_cast [B_354, q0]
      rfl
    · have q1 : ¬ (ws.length : Int) % 3 = 0 := by omega
      push_cast [B_354, q0, q1]
      rfl
/-- the text read -/
def spW (t : List Nat) : List (List Nat) := TL.spl [32] 0 [] t
def rdT (t : List Nat) : Option Nd := if (spW t).getD 0 [] = leafW then rdLeaf (spW t) else if (spW t).getD 0 [] = branchW then rdBranch (spW t) else none
theorem spW_ne (t : List Nat) : spW t ≠ [] := spl_ne 32 t []
theorem spW_len {t : List Nat} (h : t.length < 50000) : (spW t).length ≤ 50000 ∧ ∀ w ∈ spW t, w.length ≤ 50000 := by
  have := spl_many 32 t []
  exact ⟨by have := this.1; unfold spW; omega, fun w hw => by have := this.2 w hw; simp at this; omega⟩
theorem spW_ok {t : List Nat} (h : t.length < 50000) : mtD .ssplit (.str t) [.str [32]] = some (.lst ((spW t).map D.str)) := split_ok (by decide) (by omega)
theorem ix_w0 {ws : List (List Nat)} (h : ws ≠ []) : idxD (.lst (ws.map D.str)) (.int 0) = some (.str (ws.getD 0 [])) := ix_lm D.str [] (k := 0) (List.length_pos_iff.mpr h)
theorem nodeof_ok {t : List Nat} (h : t.length < 50000) : callF M sb (n + 3) 355 [.str t] m = rdR (rdT t) m := by
  rw [u_355]
  have hs := spW_ok h
  have hn := spW_ne t
  obtain ⟨l1, l2⟩ := spW_len h
  have i0 := ix_w0 hn
  by_cases h1 : (spW t).getD 0 [] = leafW
  · have e : rdT t = rdLeaf (spW t) := by unfold rdT; rw [if_pos h1]
    have c := leafin_ok (n := n) (m := m) hn l1 l2
    rw [e]
    rw [h1] at i0
    unfold leafW at i0
    cases hr : rdLeaf (spW t) with
    | none =>
      rw [hr, rdR_n] at c
      rw [rdR_n]
      push_cast [B_355, hs, i0, c]
    | some nd =>
      rw [hr, rdR_s] at c
      rw [rdR_s]
      push_cast [B_355, hs, i0, c]
  · have h1' : ¬ (spW t).getD 0 [] = [108, 101, 97, 102] := h1
    by_cases h2 : (spW t).getD 0 [] = branchW
    · have e : rdT t = rdBranch (spW t) := by unfold rdT; rw [if_neg h1, if_pos h2]
      have c := branchin_ok (n := n) (m := m) hn l1
      rw [e]
      rw [h2] at i0
      unfold branchW at i0
      have ne : ¬ ([98, 114, 97, 110, 99, 104] : List Nat) = [108, 101, 97, 102] := by decide
      cases hr : rdBranch (spW t) with
      | none =>
        rw [hr, rdR_n] at c
        rw [rdR_n]
        push_cast [B_355, hs, i0, ne, c]
      | some nd =>
        rw [hr, rdR_s] at c
        rw [rdR_s]
        push_cast [B_355, hs, i0, ne, c]
    · have e : rdT t = none := by unfold rdT; rw [if_neg h1, if_neg h2]
      have h2' : ¬ (spW t).getD 0 [] = [98, 114, 97, 110, 99, 104] := h2
      rw [e, rdR_n]
      push_cast [B_355, hs, i0, h1', h2']
/-! ### the law's own reading -/
def ndO (r : Option Nd) : D := match r with
  | some nd => ndD nd
  | none => .non
theorem none_in {α : Type} {p : α → Bool} {f : α → D} (hf : ∀ x, (f x).flat = true ∧ (f x) ≠ .non) (hq : ∀ x, PyData.eqv (f x).toPy .none = false) : ∀ l : List α, cmpD .isin .non (.lst (l.map fun x => if p x = true then f x else .non)) = some (!l.all p) := fun l => by
  have fl : ∀ l : List α, D.flats (l.map fun x => if p x = true then f x else .non) = true := fun l => by
    induction l with
    | nil => rfl
    | cons x l ih =>
      rw [List.map_cons, D.flats, ih]
      cases p x with
      | true => rw [if_pos rfl, (hf x).1]; rfl
      | false => rfl
  show (if D.non.flat = true ∧ D.flats (l.map fun x => if p x = true then f x else .non) = true ∧ D.non.dep ≤ 60 then some ((l.map fun x => if p x = true then f x else .non).any fun y => PyData.eqv y.toPy D.non.toPy) else none) = _
  rw [if_pos ⟨rfl, fl l, by decide⟩]
  refine congrArg some ?_
  induction l with
  | nil => rfl
  | cons x l ih =>
    rw [List.map_cons, List.any_cons, List.all_cons, ih]
    cases p x with
    | true =>
      have : PyData.eqv (f x).toPy (D.toPy .non) = false := hq x
      rw [if_pos rfl, this]
      rfl
    | false =>
      rw [if_neg Bool.false_ne_true]
      rfl
theorem none_inS (p : List Nat → Bool) (f : List Nat → List Nat) (l : List (List Nat)) : cmpD .isin .non (.lst (l.map fun x => if p x = true then .str (f x) else .non)) = some (!l.all p) := none_in (fun x => ⟨rfl, fun h => by cases h⟩) (fun x => rfl) l
theorem none_inI (p : List Nat → Bool) (f : List Nat → Nat) (l : List (List Nat)) : cmpD .isin .non (.lst (l.map fun x => if p x = true then .int (f x : Nat) else .non)) = some (!l.all p) := none_in (fun x => ⟨rfl, fun h => by cases h⟩) (fun x => rfl) l
theorem map_if_all {p : List Nat → Bool} {f : List Nat → D} {l : List (List Nat)} (h : l.all p = true) : l.map (fun x => if p x = true then f x else .non) = l.map f := List.map_congr_left fun x hx => by rw [if_pos (List.all_eq_true.mp h x hx)]
end
end MP

set_option maxRecDepth 100000
set_option maxHeartbeats 4000000
set_option autoImplicit false
namespace MP
open PySem L2
local macro_rules
  | `(tactic| push_cast [$xs,*]) => `(tactic| simp (config := {dsimp := false, implicitDefEqProofs := false}) (disch := first | assumption | omega | (rw [sizeD_n]; omega) | decide) only [↓v_var, ↓v_lit, ↓v_glob, ↓v_bin, ↓v_cmp, ↓v_isN, ↓v_chain, ↓v_and, ↓v_or, ↓v_not, ↓v_ifx, ↓v_idx, ↓v_sl, ↓v_slS, ↓v_tup, ↓v_lst, ↓v_dic0, ↓v_comp, ↓v_cT, ↓v_cK, ↓v_call, ↓v_bi, ↓v_mth, ↓v_isi, ↓v_nil, ↓v_cons, ↓v_kno, ↓v_kyes, ↓v_pno, ↓v_pyes, ↓v_ie, ↓v_r1, ↓v_r2, ↓v_rev, ↓v_zip, ↓v_enum, ↓v_T, ↓w_asg, ↓w_own, ↓w_aug, ↓w_augS, ↓w_app, ↓w_appS, ↓w_drop, ↓w_ret, ↓w_retN, ↓w_ifs, ↓w_whl, ↓w_for, ↓w_rais, ↓w_tri, ↓v_isx, ↓w_asgX, ↓v_tzip, ↓v_rep, tz_ll, triF_n, triF_r, triF_e, triE_n, isx_n, isx_x, isNon_x, ↓w_pas, ↓w_fgt, ↓w_nil, ↓w_cons,
      bC_t, bC_f, bK_t, bK_f, bnd_o, bnd_e, bfl_o, bfl_e, sq_n, sq_r, sq_e, res_r, res_n, res_e, getS_s, intP_i, stO_s, runB_s, b_one, b_two, b_three, b_four, wp_one, wp_two, wp_three, mtOn_s, mtTxt, wipe_n, wipe_c, isNon_i, isNon_n, isNon_t, isNon_s, isNon_l, isNon_b, isNon_d, Res.opt_some, Res.calm_ok, Option.map_some, trn_map, trn_nil, trn_cons, consO_s, consO_n, trnG_map, trnG_fmap,
      List.set_cons_zero, List.set_cons_succ, List.getElem?_cons_zero, List.getElem?_cons_succ, List.length_cons, List.length_nil, List.length_map, List.length_range, List.map_map, Function.comp_def, b_add, b_sub, b_mul, b_mul2, b_div, b_mod, b_addS, b_addL, b_addT, a_add, a_sub, t_bl, t_int, t_str, t_lst, t_tup, t_non, len_l, len_t, len_s, it_l, it_t, it_s, rv_l, rv_t, ix_t0, ix_t1, ix_t2, ix_l0, ix_l1, ix_l2, bi_lt, bi_ll, bi_ls, bi_tl, bi_tt, bi_ib, bi_ii, bi_min, bi_max, bi_all, bi_any, bi_sum, c_lt, c_le, c_gt, c_ge, c_ltS, c_leS, c_gtS, c_geS, c_eqI, c_eqS, c_neI, c_neS, cl_i, cl_s, cl_b, cl_t, cl_l, cl_n, cl_d, tyD, List.any_cons, List.any_nil, Bool.not_true, Bool.not_false, Bool.or_false, Bool.or_true, Bool.false_or, Bool.true_or, bne_self_eq_false, bne_iff_ne, Bool.bne_true, Bool.bne_false, decide_true, decide_false, nc0, nc1, nc2, nc3, nc4, nc5, nc6, nc7, nc8, nc9, Nat.reduceAdd, Nat.reduceSub, Nat.reduceMul, Nat.reduceLT, Nat.reduceLeDiff, Int.reduceAdd, Int.reduceSub, Int.reduceMul, Int.reduceLT, Int.reduceLE, $xs,*])

/-! ### rising rows -/
theorem ris_cons {x y : List Nat} {l : List (List Nat)} : risR (x :: y :: l) = (ltS x y && risR (y :: l)) := by
  unfold risR
  rw [show (x :: y :: l).length - 1 = ((y :: l).length - 1) + 1 by simp, List.range_succ_eq_map, List.all_cons, List.all_map]
  rfl
theorem ris_one {x : List Nat} : risR [x] = true := rfl
theorem ris_tail {x : List Nat} {l : List (List Nat)} (h : risR (x :: l) = true) : risR l = true := by
  cases l with
  | nil => rfl
  | cons y l => rw [ris_cons, Bool.and_eq_true] at h; exact h.2
theorem ltS_tr {a b c : List Nat} (h1 : ltS a b = true) (h2 : ltS b c = true) : ltS a c = true := ltS_iff.mpr (List.lt_trans (ltS_iff.mp h1) (ltS_iff.mp h2))
theorem ris_lt : ∀ {l : List (List Nat)} {x : List Nat}, risR (x :: l) = true → ∀ y ∈ l, ltS x y = true
  | [], _, _, y, hy => by cases hy
  | z :: l, x, h, y, hy => by
    rw [ris_cons, Bool.and_eq_true] at h
    rcases List.mem_cons.mp hy with e | e
    · rw [e]; exact h.1
    · exact ltS_tr h.1 (ris_lt h.2 y e)
theorem ltS_asym {a b : List Nat} (h : ltS a b = true) : ltS b a = false := by
  cases h2 : ltS b a with
  | false => rfl
  | true => exact absurd (ltS_iff.mp (ltS_tr h h2)) (List.lt_irrefl _)
theorem min_first : ∀ {l : List (List Nat)} {x : List Nat}, (∀ y ∈ l, ltS x y = true) → minS x l = x
  | [], _, _ => rfl
  | y :: l, x, h => by
    unfold minS
    rw [if_neg (by rw [ltS_asym (h y List.mem_cons_self)]; exact Bool.false_ne_true)]
    exact min_first fun z hz => h z (List.mem_cons_of_mem _ hz)
theorem max_last : ∀ {l : List (List Nat)} {x : List Nat}, risR (x :: l) = true → maxS x l = (x :: l).getLast (List.cons_ne_nil _ _)
  | [], _, _ => rfl
  | y :: l, x, h => by
    rw [ris_cons, Bool.and_eq_true] at h
    unfold maxS
    rw [if_pos h.1, max_last h.2]
    rfl
theorem shr_ris {x : List Nat} {l : List (List Nat)} (h : risR (x :: l) = true) : shrV (x :: l) = lcp x ((x :: l).getLast (List.cons_ne_nil _ _)) := by
  show lcp (minS x l) (maxS x l) = _
  rw [min_first (ris_lt h), max_last h]
theorem lcp_self : ∀ x : List Nat, lcp x x = x
  | [] => rfl
  | a :: x => by rw [lcp, if_pos rfl, lcp_self x]
theorem lcp_nil_iff {x z : List Nat} (h : ltS x z = true) : lcp x z = [] ↔ x.take 1 ≠ z.take 1 := by
  cases z with
  | nil => exact absurd (ltS_iff.mp h) (List.not_lt_nil _)
  | cons b z =>
    cases x with
    | nil => simp [lcp]
    | cons a x =>
      rw [lcp]
      by_cases e : a = b
      · rw [if_pos e]; simp [e]
      · rw [if_neg e]; simp [e]
/-! ### the text of a node -/
def cellW (c : List Nat × Nat) : List (List Nat) := [61 :: c.1, numS c.2]
def brW : List (List Nat) → List (Nat × Nat) → List (List Nat)
  | _, [] => []
  | [], k :: _ => [numS k.1, numS k.2]
  | m :: ms, k :: ks => numS k.1 :: numS k.2 :: (61 :: m) :: brW ms ks
def ndW : Nd → List (List Nat)
  | .leaf b cs => leafW :: (61 :: b) :: cs.flatMap cellW
  | .branch ms ks => branchW :: brW ms ks
def jn : List (List Nat) → List Nat
  | [] => []
  | p :: l => p ++ l.flatMap fun w => 32 :: w
def ntext (nd : Nd) : List Nat := jn (ndW nd)
theorem jn_join : ∀ l : List (List Nat), TL.joinL [32] l = jn l
  | [] => rfl
  | [p] => by simp [TL.joinL, jn]
  | p :: q :: r => by
    rw [joinL_cons (by simp), jn_join (q :: r)]
    simp [jn]
theorem jn_app {a b : List (List Nat)} (h : a ≠ []) : jn (a ++ b) = jn a ++ b.flatMap fun w => 32 :: w := by
  cases a with
  | nil => exact absurd rfl h
  | cons p a => simp [jn]
def Sg (w : List Nat) : Prop := ∀ x ∈ w, x ∈ sgnL
inductive NdOk : Nd → Prop
  | leaf {b : List Nat} {cs : List (List Nat × Nat)} : Sg b → (∀ c ∈ cs, Sg c.1 ∧ c.2 < 10 ^ 60) → risR (cs.map (·.1)) = true → shrV (cs.map (·.1)) = [] → (cs = [] → b = []) → NdOk (.leaf b cs)
  | branch {ms : List (List Nat)} {ks : List (Nat × Nat)} : ks.length = ms.length + 1 → (∀ w ∈ ms, Sg w) → risR ms = true → (∀ k ∈ ks, k.1 < 10 ^ 6 ∧ k.2 < 10 ^ 6) → NdOk (.branch ms ks)
theorem sg_no32 {w : List Nat} (h : Sg w) : 32 ∉ 61 :: w := fun q => by
  rcases List.mem_cons.mp q with q | q
  · exact absurd q (by decide)
  · have := h _ q
    revert this
    decide
theorem num_no32 (i : Nat) : 32 ∉ numS i := fun q => absurd (dnumS_dig i 32 q).1 (by decide)
theorem txtOk_of {w : List Nat} (h : Sg w) : txtOk (61 :: w) = true := by
  unfold txtOk
  rw [show (61 :: w).take 1 = [61] from rfl, decide_eq_true rfl, Bool.true_and]
  exact List.all_eq_true.mpr fun x hx => decide_eq_true (h x hx)
theorem num_head : ∀ (i : Nat), 1 ≤ i → ∃ c r, numS i = c :: r ∧ c ≠ 48 := fun i => by
  induction i using Nat.strongRecOn with
  | _ i ih =>
    intro h
    by_cases h10 : i < 10
    · exact ⟨48 + i, [], TL.numL_lt h10, by omega⟩
    · obtain ⟨c, r, e, hc⟩ := ih (i / 10) (by omega) (by omega)
      exact ⟨c, r ++ [48 + i % 10], by rw [show numS i = numS (i / 10) ++ [48 + i % 10] from TL.numL_step (by omega), e]; rfl, hc⟩
theorem numOk_of {i k : Nat} (hk : 0 < k) (h : i < 10 ^ k) : numOk k (numS i) = true := by
  unfold numOk
  rw [decide_eq_true (dnumS_pos i), decide_eq_true (dnumS_len hk h), List.all_eq_true.mpr fun x hx => decide_eq_true (qfig_iff.mpr (dnumS_dig i x hx))]
  by_cases h1 : 1 < (numS i).length
  · have h0 : 1 ≤ i := by
      by_cases h0 : i = 0
      · subst h0
        rw [show numS 0 = [48] from TL.numL_lt (by decide)] at h1
        exact absurd h1 (by decide)
      · omega
    obtain ⟨c, r, e, hc⟩ := num_head i h0
    rw [e]
    simp [hc]
  · simp [h1]
theorem val_num (i : Nat) : valD (numS i) = i := TL.numL_val i
/-- figures without a nought ahead are a number's -/
theorem qnum_of : ∀ (k : Nat) (f : List Nat), f.length = k + 1 → (∀ x ∈ f, isDig x) → (1 < f.length → f[0]? ≠ some 48) → ∃ i, numS i = f := fun k => by
  induction k with
  | zero =>
    intro f hf hd _
    match f, hf with
    | [d], _ =>
      have := hd d List.mem_cons_self
      unfold isDig at this
      refine ⟨d - 48, ?_⟩
      rw [show numS (d - 48) = [48 + (d - 48)] from TL.numL_lt (by omega), show 48 + (d - 48) = d by omega]
  | succ k ih =>
    intro f hf hd h0
    have hne : f ≠ [] := fun e => by rw [e] at hf; simp at hf
    have e := List.dropLast_concat_getLast hne
    have hg : f.dropLast.length = k + 1 := by rw [List.length_dropLast, hf]; rfl
    have hdd := hd _ (List.getLast_mem hne)
    unfold isDig at hdd
    have hh : f.dropLast[0]? = f[0]? := by
      match f, hf with
      | a :: b :: r, _ => rfl
    obtain ⟨j, hj⟩ := ih f.dropLast hg (fun x hx => hd x ((List.dropLast_sublist f).subset hx)) (fun _ => by rw [hh]; exact h0 (by omega))
    have hj0 : j ≠ 0 := by
      intro q
      subst q
      rw [show numS 0 = [48] from TL.numL_lt (by decide)] at hj
      rw [← hj] at hh
      exact h0 (by omega) hh.symm
    refine ⟨10 * j + (f.getLast hne - 48), ?_⟩
    rw [show numS (10 * j + (f.getLast hne - 48)) = numS ((10 * j + (f.getLast hne - 48)) / 10) ++ [48 + (10 * j + (f.getLast hne - 48)) % 10] from TL.numL_step (by omega), show (10 * j + (f.getLast hne - 48)) / 10 = j by omega, show (10 * j + (f.getLast hne - 48)) % 10 = f.getLast hne - 48 by omega, hj, show 48 + (f.getLast hne - 48) = f.getLast hne by omega, e]
theorem num_back {w : List Nat} {k : Nat} (h : numOk k w = true) : numS (valD w) = w := by
  unfold numOk at h
  simp only [Bool.and_eq_true, decide_eq_true_eq, Bool.not_eq_true', List.all_eq_true] at h
  obtain ⟨⟨⟨h1, h2⟩, h3⟩, h4⟩ := h
  obtain ⟨i, e⟩ := qnum_of (w.length - 1) w (by omega) (fun x hx => qfig_iff.mp (h3 x hx)) fun q q2 => by
    rw [decide_eq_true q, decide_eq_true q2] at h4
    cases h4
  rw [← e, val_num]
theorem txt_back {w : List Nat} (h : txtOk w = true) : 61 :: dr1 w = w := by
  unfold txtOk at h
  rw [Bool.and_eq_true, decide_eq_true_eq] at h
  cases w with
  | nil => exact absurd h.1 (by decide)
  | cons a r =>
    have := h.1
    simp at this
    rw [this]
    rfl
/-! ### a leaf's words -/
theorem evs_cells : ∀ cs : List (List Nat × Nat), evs (cs.flatMap cellW) = cs.map (fun c => 61 :: c.1) ∧ evs ((cs.flatMap cellW).drop 1) = cs.map (fun c => numS c.2)
  | [] => ⟨by simp [evs], by simp [evs]⟩
  | c :: cs => by
    obtain ⟨h1, h2⟩ := evs_cells cs
    rw [List.flatMap_cons]
    refine ⟨?_, ?_⟩
    · show evs ((61 :: c.1) :: numS c.2 :: cs.flatMap cellW) = _
      rw [evs, h1]; rfl
    · show evs (numS c.2 :: cs.flatMap cellW) = _
      cases cs with
      | nil => simp [evs]
      | cons d ds =>
        rw [show (d :: ds).flatMap cellW = (61 :: d.1) :: numS d.2 :: ds.flatMap cellW from rfl] at h2 ⊢
        rw [evs]
        rw [show ((61 :: d.1) :: numS d.2 :: ds.flatMap cellW).drop 1 = numS d.2 :: ds.flatMap cellW from rfl] at h2
        rw [h2]; rfl
theorem cells_len : ∀ cs : List (List Nat × Nat), (cs.flatMap cellW).length = 2 * cs.length
  | [] => rfl
  | c :: cs => by
    rw [List.flatMap_cons, List.length_append, cells_len cs, List.length_cons]
    show 2 + _ = _
    omega
theorem dr1_61 (w : List Nat) : dr1 (61 :: w) = w := rfl
theorem rd_leaf {b : List Nat} {cs : List (List Nat × Nat)} (h : NdOk (.leaf b cs)) : rdLeaf (ndW (.leaf b cs)) = some (.leaf b cs) := by
  cases h with
  | leaf hb hc hr hs h0 =>
    obtain ⟨e1, e2⟩ := evs_cells cs
    unfold rdLeaf
    have d2 : (ndW (.leaf b cs)).drop 2 = cs.flatMap cellW := rfl
    have d3 : (ndW (.leaf b cs)).drop 3 = (cs.flatMap cellW).drop 1 := rfl
    have g1 : (ndW (.leaf b cs)).getD 1 [] = 61 :: b := rfl
    have l0 : (ndW (.leaf b cs)).length % 2 = 0 := by
      show (leafW :: (61 :: b) :: cs.flatMap cellW).length % 2 = 0
      rw [List.length_cons, List.length_cons, cells_len]
      omega
    have m1 : (cs.map fun c => 61 :: c.1).map dr1 = cs.map (·.1) := by rw [List.map_map]; rfl
    have m2 : (cs.map fun c => numS c.2).map valD = cs.map (·.2) := by
      rw [List.map_map]
      exact List.map_congr_left fun c _ => val_num c.2
    rw [d2, d3, g1, e1, e2, m1, m2, decide_eq_true l0, txtOk_of hb, hr, hs, dr1_61]
    have a1 : (cs.map fun c => 61 :: c.1).all txtOk = true := List.all_eq_true.mpr fun x hx => by
      obtain ⟨c, q, e⟩ := List.mem_map.mp hx
      rw [← e]
      exact txtOk_of (hc c q).1
    have a2 : (cs.map fun c => numS c.2).all (numOk 60) = true := List.all_eq_true.mpr fun x hx => by
      obtain ⟨c, q, e⟩ := List.mem_map.mp hx
      rw [← e]
      exact numOk_of (by decide) (hc c q).2
    rw [a1, a2]
    have z : (!(cs.map fun c => 61 :: c.1).isEmpty || b.isEmpty) = true := by
      cases cs with
      | nil => rw [h0 rfl]; rfl
      | cons c cs => rfl
    rw [z]
    have zz : List.zip (cs.map (·.1)) (cs.map (·.2)) = cs := by
      induction cs with
      | nil => rfl
      | cons c cs ih => exact congrArg (c :: ·) (by
          clear ih e1 e2 d2 d3 g1 l0 m1 m2 a1 a2 z hr hs h0 hc
          induction cs with
          | nil => rfl
          | cons c cs ih => exact congrArg (c :: ·) ih)
    rw [zz]
    rfl
/-- words by twos -/
theorem by_two : ∀ {l : List (List Nat)}, l.length % 2 = 0 → (∀ w ∈ evs l, txtOk w = true) → (∀ w ∈ evs (l.drop 1), numOk 60 w = true) → (List.zip ((evs l).map dr1) ((evs (l.drop 1)).map valD)).flatMap cellW = l
  | [], _, _, _ => by simp [evs]
  | [a], h, _, _ => by simp at h
  | a :: b :: l, h, h1, h2 => by
    have e : evs ((a :: b :: l).drop 1) = b :: evs (l.drop 1) := by
      show evs (b :: l) = _
      cases l with
      | nil => simp [evs]
      | cons c l => rw [evs]; rfl
    rw [e] at h2 ⊢
    rw [evs] at h1 ⊢
    have ih := by_two (l := l) (by simp only [List.length_cons] at h; omega) (fun w hw => h1 w (List.mem_cons_of_mem _ hw)) (fun w hw => h2 w (List.mem_cons_of_mem _ hw))
    rw [List.map_cons, List.map_cons, List.zip_cons_cons, List.flatMap_cons, ih]
    show [61 :: dr1 a, numS (valD b)] ++ l = _
    rw [txt_back (h1 a List.mem_cons_self), num_back (h2 b List.mem_cons_self)]
    rfl
theorem leaf_back {ws : List (List Nat)} {nd : Nd} (h0 : ws.getD 0 [] = leafW) (h : rdLeaf ws = some nd) : ndW nd = ws := by
  unfold rdLeaf at h
  split at h
  · rename_i hc
    cases h
    simp only [Bool.and_eq_true, decide_eq_true_eq] at hc
    obtain ⟨⟨⟨⟨⟨⟨h1, h2⟩, h3⟩, h4⟩, h5⟩, h6⟩, h7⟩ := hc
    match ws, h0, h1, h2, h3, h4 with
    | [], h0, _, _, _, _ => exact absurd h0 (by decide)
    | [a], _, h1, _, _, _ => simp at h1
    | a :: b :: l, h0, h1, h2, h3, h4 =>
      show leafW :: (61 :: dr1 b) :: (List.zip ((evs l).map dr1) ((evs (l.drop 1)).map valD)).flatMap cellW = _
      rw [by_two (l := l) (by simp only [List.length_cons] at h1; omega) (fun w hw => List.all_eq_true.mp h3 w hw) (fun w hw => List.all_eq_true.mp h4 w hw), txt_back (w := b) h2]
      rw [show leafW = a from h0.symm]
  · cases h
/-! ### a branch's words -/
theorem ths_br : ∀ {ms : List (List Nat)} {ks : List (Nat × Nat)}, ks.length = ms.length + 1 → ths (brW ms ks) = ks.map (fun k => numS k.1) ∧ ths ((brW ms ks).drop 1) = ks.map (fun k => numS k.2) ∧ ths ((brW ms ks).drop 2) = ms.map (fun w => 61 :: w) ∧ (brW ms ks).length + 1 = 3 * ks.length
  | [], [], h => by simp at h
  | [], [k], _ => by simp [brW, ths]
  | [], _ :: _ :: _, h => by simp at h
  | m :: ms, [], h => by simp at h
  | m :: ms, k :: ks, h => by
    obtain ⟨h1, h2, h3, h4⟩ := ths_br (ms := ms) (ks := ks) (by simpa using h)
    rw [brW]
    refine ⟨?_, ?_, ?_, ?_⟩
    · rw [ths, h1]; rfl
    · show ths (numS k.2 :: (61 :: m) :: brW ms ks) = _
      match ms, ks, h with
      | [], [k2], _ => simp [brW, ths]
      | m2 :: ms, k2 :: ks, h =>
        rw [brW] at h2 ⊢
        rw [ths]
        rw [show (numS k2.1 :: numS k2.2 :: (61 :: m2) :: brW ms ks).drop 1 = numS k2.2 :: (61 :: m2) :: brW ms ks from rfl] at h2
        rw [h2]; rfl
    · show ths ((61 :: m) :: brW ms ks) = _
      match ms, ks, h with
      | [], [k2], _ => simp [brW, ths]
      | m2 :: ms, k2 :: ks, h =>
        rw [brW] at h3 ⊢
        rw [ths]
        rw [show (numS k2.1 :: numS k2.2 :: (61 :: m2) :: brW ms ks).drop 2 = (61 :: m2) :: brW ms ks from rfl] at h3
        rw [h3]; rfl
    · simp only [List.length_cons]
      omega
theorem zip_two : ∀ ks : List (Nat × Nat), List.zip (ks.map (·.1)) (ks.map (·.2)) = ks
  | [] => rfl
  | k :: ks => congrArg (k :: ·) (zip_two ks)
theorem rd_branch {ms : List (List Nat)} {ks : List (Nat × Nat)} (h : NdOk (.branch ms ks)) : rdBranch (ndW (.branch ms ks)) = some (.branch ms ks) := by
  cases h with
  | branch hl hm hr hk =>
    obtain ⟨e1, e2, e3, e4⟩ := ths_br hl
    unfold rdBranch
    have d1 : (ndW (.branch ms ks)).drop 1 = brW ms ks := rfl
    have d2 : (ndW (.branch ms ks)).drop 2 = (brW ms ks).drop 1 := rfl
    have d3 : (ndW (.branch ms ks)).drop 3 = (brW ms ks).drop 2 := rfl
    have l0 : (ndW (.branch ms ks)).length % 3 = 0 := by
      show (branchW :: brW ms ks).length % 3 = 0
      rw [List.length_cons]
      omega
    have m1 : (ks.map fun c => numS c.1).map valD = ks.map (·.1) := by
      rw [List.map_map]
      exact List.map_congr_left fun c _ => val_num c.1
    have m2 : (ks.map fun c => numS c.2).map valD = ks.map (·.2) := by
      rw [List.map_map]
      exact List.map_congr_left fun c _ => val_num c.2
    have m3 : (ms.map fun w => 61 :: w).map dr1 = ms := by
      rw [List.map_map]
      exact (List.map_congr_left fun c _ => rfl).trans (List.map_id ms)
    rw [d1, d2, d3, e1, e2, e3, m1, m2, m3, decide_eq_true l0, hr, zip_two]
    have a1 : (ms.map fun c => 61 :: c).all txtOk = true := List.all_eq_true.mpr fun x hx => by
      obtain ⟨c, q, e⟩ := List.mem_map.mp hx
      rw [← e]
      exact txtOk_of (hm c q)
    have a2 : (ks.map fun c => numS c.1).all (numOk 6) = true := List.all_eq_true.mpr fun x hx => by
      obtain ⟨c, q, e⟩ := List.mem_map.mp hx
      rw [← e]
      exact numOk_of (by decide) (hk c q).1
    have a3 : (ks.map fun c => numS c.2).all (numOk 6) = true := List.all_eq_true.mpr fun x hx => by
      obtain ⟨c, q, e⟩ := List.mem_map.mp hx
      rw [← e]
      exact numOk_of (by decide) (hk c q).2
    rw [a1, a2, a3]
    rfl
theorem by_three : ∀ {l : List (List Nat)}, l.length % 3 = 2 → (∀ w ∈ ths (l.drop 2), txtOk w = true) → (∀ w ∈ ths l, numOk 6 w = true) → (∀ w ∈ ths (l.drop 1), numOk 6 w = true) → brW ((ths (l.drop 2)).map dr1) (List.zip ((ths l).map valD) ((ths (l.drop 1)).map valD)) = l
  | [], h, _, _, _ => by simp at h
  | [a], h, _, _, _ => by simp at h
  | [a, b], _, h1, h2, h3 => by
    have h2' := h2 a (by simp [ths])
    have h3' := h3 b (by simp [ths])
    simp [ths, brW, num_back h2', num_back h3']
  | [a, b, c], h, _, _, _ => by simp at h
  | [a, b, c, d], h, _, _, _ => by simp at h
  | a :: b :: c :: d :: e :: l, h, h1, h2, h3 => by
    have e0 : ths (a :: b :: c :: d :: e :: l) = a :: ths (d :: e :: l) := by rw [ths]
    have e1 : ths ((a :: b :: c :: d :: e :: l).drop 1) = b :: ths ((d :: e :: l).drop 1) := by
      show ths (b :: c :: d :: e :: l) = b :: ths (e :: l)
      rw [ths]
    have e2 : ths ((a :: b :: c :: d :: e :: l).drop 2) = c :: ths ((d :: e :: l).drop 2) := by
      show ths (c :: d :: e :: l) = c :: ths l
      rw [ths]
    rw [e2] at h1 ⊢
    rw [e0] at h2 ⊢
    rw [e1] at h3 ⊢
    have ih := by_three (l := d :: e :: l) (by simp only [List.length_cons] at h ⊢; omega) (fun w hw => h1 w (List.mem_cons_of_mem _ hw)) (fun w hw => h2 w (List.mem_cons_of_mem _ hw)) (fun w hw => h3 w (List.mem_cons_of_mem _ hw))
    rw [List.map_cons, List.map_cons, List.map_cons, List.zip_cons_cons, brW, ih, txt_back (h1 c List.mem_cons_self), num_back (h2 a List.mem_cons_self), num_back (h3 b List.mem_cons_self)]
theorem branch_back {ws : List (List Nat)} {nd : Nd} (h0 : ws.getD 0 [] = branchW) (h : rdBranch ws = some nd) : ndW nd = ws := by
  unfold rdBranch at h
  split at h
  · rename_i hc
    cases h
    simp only [Bool.and_eq_true, decide_eq_true_eq] at hc
    obtain ⟨⟨⟨⟨h1, h2⟩, h3⟩, h4⟩, h5⟩ := hc
    match ws, h0, h1, h2, h3, h4 with
    | [], h0, _, _, _, _ => exact absurd h0 (by decide)
    | a :: l, h0, h1, h2, h3, h4 =>
      show branchW :: brW ((ths (l.drop 2)).map dr1) (List.zip ((ths l).map valD) ((ths (l.drop 1)).map valD)) = _
      rw [by_three (by simp only [List.length_cons] at h1; omega) (fun w hw => List.all_eq_true.mp h2 w hw) (fun w hw => List.all_eq_true.mp h3 w hw) (fun w hw => List.all_eq_true.mp h4 w hw)]
      rw [show branchW = a from h0.symm]
  · cases h
/-! ### reading and writing -/
theorem rdT_back {t : List Nat} {nd : Nd} (h : rdT t = some nd) : ntext nd = t := by
  have : jn (spW t) = t := by
    rw [← jn_join]
    exact join_spl 32 t []
  unfold rdT at h
  unfold ntext
  split at h
  · rename_i q
    rw [leaf_back q h, this]
  · split at h
    · rename_i q
      rw [branch_back q h, this]
    · cases h
theorem ndW_free : ∀ {nd : Nd}, NdOk nd → ∀ w ∈ ndW nd, 32 ∉ w
  | _, .leaf (b := b) (cs := cs) hb hc hr hs h0, w, hw => by
    rcases List.mem_cons.mp hw with e | hw
    · rw [e]; decide
    · rcases List.mem_cons.mp hw with e | hw
      · rw [e]; exact sg_no32 hb
      · obtain ⟨c, q, hw⟩ := List.mem_flatMap.mp hw
        rcases List.mem_cons.mp hw with e | hw
        · rw [e]; exact sg_no32 (hc c q).1
        · rw [List.mem_singleton.mp hw]; exact num_no32 _
  | _, .branch (ms := ms) (ks := ks) hl hm hr hk, w, hw => by
    rcases List.mem_cons.mp hw with e | hw
    · rw [e]; decide
    · have go : ∀ (ms : List (List Nat)) (ks : List (Nat × Nat)), (∀ w ∈ ms, Sg w) → w ∈ brW ms ks → 32 ∉ w := fun ms => by
        induction ms with
        | nil =>
          intro ks _ h
          cases ks with
          | nil => simp [brW] at h
          | cons k ks =>
            rw [brW] at h
            rcases List.mem_cons.mp h with e | h
            · rw [e]; exact num_no32 _
            · rw [List.mem_singleton.mp h]; exact num_no32 _
        | cons m ms ih =>
          intro ks hm h
          cases ks with
          | nil => simp [brW] at h
          | cons k ks =>
            rw [brW] at h
            rcases List.mem_cons.mp h with e | h
            · rw [e]; exact num_no32 _
            · rcases List.mem_cons.mp h with e | h
              · rw [e]; exact num_no32 _
              · rcases List.mem_cons.mp h with e | h
                · rw [e]; exact sg_no32 (hm m List.mem_cons_self)
                · exact ih ks (fun w hw => hm w (List.mem_cons_of_mem _ hw)) h
      exact go ms ks hm hw
theorem ndW_ne (nd : Nd) : ndW nd ≠ [] := by cases nd <;> simp [ndW]
theorem spW_ntext {nd : Nd} (h : NdOk nd) : spW (ntext nd) = ndW nd := by
  unfold spW ntext
  rw [← jn_join]
  exact TL.spl_join (ndW_ne nd) (ndW_free h)
theorem rdT_ntext {nd : Nd} (h : NdOk nd) : rdT (ntext nd) = some nd := by
  unfold rdT
  rw [spW_ntext h]
  cases nd with
  | leaf b cs => rw [if_pos (by rfl), rd_leaf h]
  | branch ms ks =>
    rw [if_neg (by show ¬ branchW = leafW; decide), if_pos (by rfl), rd_branch h]
end MP

set_option maxRecDepth 100000
set_option maxHeartbeats 4000000
set_option autoImplicit false
namespace MP
open PySem L2
local macro_rules
  | `(tactic| push_cast [$xs,*]) => `(tactic| simp (config := {dsimp := false, implicitDefEqProofs := false}) (disch := first | assumption | omega | (rw [sizeD_n]; omega) | decide) only [↓v_var, ↓v_lit, ↓v_glob, ↓v_bin, ↓v_cmp, ↓v_isN, ↓v_chain, ↓v_and, ↓v_or, ↓v_not, ↓v_ifx, ↓v_idx, ↓v_sl, ↓v_slS, ↓v_tup, ↓v_lst, ↓v_dic0, ↓v_comp, ↓v_cT, ↓v_cK, ↓v_call, ↓v_bi, ↓v_mth, ↓v_isi, ↓v_nil, ↓v_cons, ↓v_kno, ↓v_kyes, ↓v_pno, ↓v_pyes, ↓v_ie, ↓v_r1, ↓v_r2, ↓v_rev, ↓v_zip, ↓v_enum, ↓v_T, ↓w_asg, ↓w_own, ↓w_aug, ↓w_augS, ↓w_app, ↓w_appS, ↓w_drop, ↓w_ret, ↓w_retN, ↓w_ifs, ↓w_whl, ↓w_for, ↓w_rais, ↓w_tri, ↓v_isx, ↓w_asgX, ↓v_tzip, ↓v_rep, tz_ll, triF_n, triF_r, triF_e, triE_n, isx_n, isx_x, isNon_x, ↓w_pas, ↓w_fgt, ↓w_nil, ↓w_cons,
      bC_t, bC_f, bK_t, bK_f, bnd_o, bnd_e, bfl_o, bfl_e, sq_n, sq_r, sq_e, res_r, res_n, res_e, getS_s, intP_i, stO_s, runB_s, b_one, b_two, b_three, b_four, wp_one, wp_two, wp_three, mtOn_s, mtTxt, wipe_n, wipe_c, isNon_i, isNon_n, isNon_t, isNon_s, isNon_l, isNon_b, isNon_d, Res.opt_some, Res.calm_ok, Option.map_some, trn_map, trn_nil, trn_cons, consO_s, consO_n, trnG_map, trnG_fmap,
      List.set_cons_zero, List.set_cons_succ, List.getElem?_cons_zero, List.getElem?_cons_succ, List.length_cons, List.length_nil, List.length_map, List.length_range, List.map_map, Function.comp_def, b_add, b_sub, b_mul, b_mul2, b_div, b_mod, b_addS, b_addL, b_addT, a_add, a_sub, t_bl, t_int, t_str, t_lst, t_tup, t_non, len_l, len_t, len_s, it_l, it_t, it_s, rv_l, rv_t, ix_t0, ix_t1, ix_t2, ix_l0, ix_l1, ix_l2, bi_lt, bi_ll, bi_ls, bi_tl, bi_tt, bi_ib, bi_ii, bi_min, bi_max, bi_all, bi_any, bi_sum, c_lt, c_le, c_gt, c_ge, c_ltS, c_leS, c_gtS, c_geS, c_eqI, c_eqS, c_neI, c_neS, cl_i, cl_s, cl_b, cl_t, cl_l, cl_n, cl_d, tyD, List.any_cons, List.any_nil, Bool.not_true, Bool.not_false, Bool.or_false, Bool.or_true, Bool.false_or, Bool.true_or, bne_self_eq_false, bne_iff_ne, Bool.bne_true, Bool.bne_false, decide_true, decide_false, nc0, nc1, nc2, nc3, nc4, nc5, nc6, nc7, nc8, nc9, Nat.reduceAdd, Nat.reduceSub, Nat.reduceMul, Nat.reduceLT, Nat.reduceLeDiff, Int.reduceAdd, Int.reduceSub, Int.reduceMul, Int.reduceLT, Int.reduceLE, $xs,*])

/-! ### writing a node -/
theorem addS_b {a b : List Nat} (h : a.length + b.length ≤ 200000) : binD .add (.str a) (.str b) = some (.str (a ++ b)) := b_addS (by rw [sizeD_n]; omega)
theorem jn_cut (p : List Nat) (l r : List (List Nat)) : (jn (p :: l)).length ≤ (jn (p :: (l ++ r))).length := by
  rw [show p :: (l ++ r) = (p :: l) ++ r from rfl, jn_app (by simp), List.length_append]
  omega
theorem jn_mem : ∀ {l : List (List Nat)} {w : List Nat}, w ∈ l → w.length ≤ (jn l).length
  | p :: l, w, h => by
    rcases List.mem_cons.mp h with e | e
    · rw [e]; simp [jn]
    · have : w.length ≤ (l.flatMap fun w => 32 :: w).length := by
        obtain ⟨s, t, e2⟩ := List.append_of_mem e
        rw [e2, List.flatMap_append, List.flatMap_cons]
        simp only [List.length_append, List.length_cons]
        omega
      simp only [jn, List.length_append]
      omega
theorem jn_count : ∀ l : List (List Nat), (l.map List.length).sum + l.length ≤ (jn l).length + 1
  | [] => by simp
  | p :: l => by
    have : ∀ l : List (List Nat), (l.map List.length).sum + l.length = (l.flatMap fun w => 32 :: w).length := fun l => by
      induction l with
      | nil => rfl
      | cons w l ih =>
        rw [List.flatMap_cons, List.length_append, ← ih]
        simp only [List.map_cons, List.sum_cons, List.length_cons]
        omega
    have := this l
    simp only [jn, List.length_append, List.map_cons, List.sum_cons, List.length_cons]
    omega
theorem join_jn {l : List (List Nat)} (h : (jn l).length < 50000) : mtD .sjoin (.str [32]) [.lst (l.map D.str)] = some (.str (jn l)) := by
  have c := jn_count l
  have := mt_joinD (f := id) (l := l) (a := [32]) (by rw [List.map_id]; simp only [List.length_singleton]; omega) (by rw [List.map_id, jn_join]; omega)
  rw [List.map_id, jn_join] at this
  exact this
/-- numbers that can be written -/
inductive NdV : Nd → Prop
  | leaf {b : List Nat} {cs : List (List Nat × Nat)} : (∀ c ∈ cs, c.2 < 10 ^ 60) → NdV (.leaf b cs)
  | branch {ms : List (List Nat)} {ks : List (Nat × Nat)} : ks.length = ms.length + 1 → (∀ k ∈ ks, k.1 < 10 ^ 60 ∧ k.2 < 10 ^ 60) → NdV (.branch ms ks)
def pf (ms : List (List Nat)) (ks : List (Nat × Nat)) (j : Nat) : List (List Nat) := (brW ms ks).take (3 * j - 1)
theorem br_drop : ∀ (j : Nat) {ms : List (List Nat)} {ks : List (Nat × Nat)}, ks.length = ms.length + 1 → j < ks.length → (brW ms ks).drop (3 * j) = brW (ms.drop j) (ks.drop j)
  | 0, _, _, _, _ => rfl
  | j + 1, [], [], h, _ => by simp at h
  | j + 1, [], [k], _, h => by simp at h
  | j + 1, [], _ :: _ :: _, h, _ => by simp at h
  | j + 1, m :: ms, [], h, _ => by simp at h
  | j + 1, m :: ms, k :: ks, h, hj => by
    rw [brW, show 3 * (j + 1) = 3 * j + 3 by omega]
    exact br_drop j (by simpa using h) (by simpa using hj)
theorem pf_step {ms : List (List Nat)} {ks : List (Nat × Nat)} (h : ks.length = ms.length + 1) {j : Nat} (hj : j < ks.length) : pf ms ks (j + 1) = (pf ms ks j ++ if 0 < j then [61 :: ms.getD (j - 1) []] else []) ++ [numS (ks.getD j (0, 0)).1, numS (ks.getD j (0, 0)).2] := by
  have two : ∀ i, i < ks.length → (brW ms ks).take (3 * i + 2) = (brW ms ks).take (3 * i) ++ [numS (ks.getD i (0, 0)).1, numS (ks.getD i (0, 0)).2] := fun i hi => by
    rw [List.take_add, br_drop i h hi]
    have e : ks.drop i = ks.getD i (0, 0) :: ks.drop (i + 1) := by
      rw [List.drop_eq_getElem_cons hi, List.getD_eq_getElem?_getD, List.getElem?_eq_getElem hi]; rfl
    rw [e]
    cases ms.drop i with
    | nil => rfl
    | cons m r => rfl
  unfold pf
  rw [show 3 * (j + 1) - 1 = 3 * j + 2 by omega, two j hj]
  refine congrArg (· ++ _) ?_
  by_cases h0 : 0 < j
  · rw [if_pos h0]
    obtain ⟨i, rfl⟩ : ∃ i, j = i + 1 := ⟨j - 1, by omega⟩
    rw [show 3 * (i + 1) - 1 = 3 * i + 2 by omega, show 3 * (i + 1) = 3 * i + 2 + 1 by omega, List.take_add (i := 3 * i + 2)]
    refine congrArg (fun z => (brW ms ks).take (3 * i + 2) ++ z) ?_
    rw [← List.drop_drop, br_drop i h (by omega)]
    have e : ks.drop i = ks.getD i (0, 0) :: ks.drop (i + 1) := by
      rw [List.drop_eq_getElem_cons (by omega : i < ks.length), List.getD_eq_getElem?_getD, List.getElem?_eq_getElem (by omega : i < ks.length)]; rfl
    have e2 : ms.drop i = ms.getD i [] :: ms.drop (i + 1) := by
      rw [List.drop_eq_getElem_cons (by omega : i < ms.length), List.getD_eq_getElem?_getD, List.getElem?_eq_getElem (by omega : i < ms.length)]; rfl
    rw [e, e2]
    rfl
  · have : j = 0 := by omega
    subst this
    rfl
theorem pf_all {ms : List (List Nat)} {ks : List (Nat × Nat)} (h : ks.length = ms.length + 1) : pf ms ks ks.length = brW ms ks := by
  have := (ths_br h).2.2.2
  unfold pf
  rw [List.take_of_length_le (by omega)]
theorem pf_le (ms : List (List Nat)) (ks : List (Nat × Nat)) (j : Nat) : (jn (branchW :: pf ms ks j)).length ≤ (jn (branchW :: brW ms ks)).length := by
  have := jn_cut branchW ((brW ms ks).take (3 * j - 1)) ((brW ms ks).drop (3 * j - 1))
  rw [List.take_append_drop] at this
  exact this
theorem enum_kids (ks : List (Nat × Nat)) : enumD (.tup (ks.map kidD)) = some ((List.range ks.length).map fun j => .tup [.int (j : Nat), kidD (ks.getD j (0, 0))]) := by
  show some ((ks.map kidD).zipIdx.map fun p => D.tup [.int (p.2 : Nat), p.1]) = _
  refine congrArg some (List.ext_getElem? fun i => ?_)
  rw [List.getElem?_map, List.getElem?_zipIdx, List.getElem?_map, List.getElem?_map]
  by_cases h : i < ks.length
  · rw [List.getElem?_eq_getElem h, List.getElem?_range h]
    simp [List.getD_eq_getElem?_getD, List.getElem?_eq_getElem h]
  · rw [List.getElem?_eq_none (by omega), List.getElem?_eq_none (by rw [List.length_range]; omega)]
    rfl
section
variable {n : Nat} {m : Mu}
theorem leafwords_ok {b : List Nat} {cs : List (List Nat × Nat)} (hv : NdV (.leaf b cs)) (hl : (ntext (.leaf b cs)).length < 50000) : callF M sb (n + 1) 347 [ndD (.leaf b cs)] m = .ok (.lst ((ndW (.leaf b cs)).map D.str)) m := by
  rw [u_347]
  cases hv with
  | leaf hv =>
    have hb : b.length < 50000 := by
      have := jn_mem (l := ndW (.leaf b cs)) (w := 61 :: b) (by simp [ndW])
      unfold ntext at hl
      simp only [List.length_cons] at this
      omega
    have hc : ∀ c ∈ cs, c.1.length < 50000 := fun c hc => by
      have := jn_mem (l := ndW (.leaf b cs)) (w := 61 :: c.1) (by
        simp only [ndW, List.mem_cons, List.mem_flatMap]
        exact .inr (.inr ⟨c, hc, by simp [cellW]⟩))
      unfold ntext at hl
      simp only [List.length_cons] at this
      omega
    have hn : 2 * cs.length + 2 ≤ 50000 := by
      have := jn_count (ndW (.leaf b cs))
      have e : (ndW (.leaf b cs)).length = 2 * cs.length + 2 := by
        show (leafW :: (61 :: b) :: cs.flatMap cellW).length = _
        rw [List.length_cons, List.length_cons, cells_len]
      unfold ntext at hl
      omega
    have s0 : binD .add (.str [61]) (.str b) = some (.str (61 :: b)) := addS_b (by simp only [List.length_singleton]; omega)
    have loop := for_pre (tg := .many [2, 3]) (b := fun ρ m => evSs ⟨callF M sb n, sb⟩ B_347_b0 ρ m) (z := .mk) (enc := cellD) (l := cs) (fun p => [some (ndD (.leaf b cs)), some (.lst ((leafW :: (61 :: b) :: p.flatMap cellW).map D.str)), none, none]) (fun _ => m) (fun p x q e => by
      have hx : x ∈ cs := by rw [e]; simp
      have hp : p.length ≤ cs.length := by rw [e]; simp
      have s1 : binD .add (.str [61]) (.str x.1) = some (.str (61 :: x.1)) := addS_b (by have := hc x hx; simp only [List.length_singleton]; omega)
      have s2 := dstr_num (hv x hx)
      have s3 : binD .add (.lst ((leafW :: (61 :: b) :: p.flatMap cellW).map D.str)) (.lst [.str (61 :: x.1), .str (numS x.2)]) = some (.lst ((leafW :: (61 :: b) :: (p ++ [x]).flatMap cellW).map D.str)) := by
        rw [b_addL (by
          rw [sizeD_n, List.length_map, List.length_cons, List.length_cons, cells_len]
          simp only [List.length_cons, List.length_nil]
          omega)]
        rw [List.flatMap_append]
        simp [cellW]
      unfold cellD
      generalize (leafW :: (61 :: b) :: p.flatMap cellW).map D.str = A at *
      generalize (leafW :: (61 :: b) :: (p ++ [x]).flatMap cellW).map D.str = A' at *
      push_cast [B_347_b0, s1, s2, s3])
    simp only [List.flatMap_nil, List.map_cons, List.map_nil, ndD] at loop
    unfold leafW at loop
    unfold ndD ndW leafW
    rw [List.map_cons, List.map_cons]
    push_cast [B_347, s0, loop]
theorem branchwords_ok {ms : List (List Nat)} {ks : List (Nat × Nat)} (hv : NdV (.branch ms ks)) (hl : (ntext (.branch ms ks)).length < 50000) : callF M sb (n + 1) 348 [ndD (.branch ms ks)] m = .ok (.lst ((ndW (.branch ms ks)).map D.str)) m := by
  rw [u_348]
  cases hv with
  | branch hm hv =>
    have hl' : (jn (branchW :: brW ms ks)).length < 50000 := hl
    have hc := jn_count (branchW :: brW ms ks)
    rw [List.length_cons] at hc
    have hp : ∀ j, (pf ms ks j).length ≤ 50000 := fun j => by
      unfold pf
      rw [List.length_take]
      omega
    have hmw : ∀ w ∈ ms, w.length < 50000 := fun w hw => by
      have h3 := (ths_br hm).2.2.1
      have : 61 :: w ∈ brW ms ks := by
        have : 61 :: w ∈ ms.map (fun w => 61 :: w) := List.mem_map.mpr ⟨w, hw, rfl⟩
        rw [← h3] at this
        exact List.mem_of_mem_drop (ths_mem this)
      have := jn_mem (l := branchW :: brW ms ks) (List.mem_cons_of_mem _ this)
      rw [List.length_cons] at this
      omega
    have loop := for_rng (tg := .many [2, 3]) (b := fun ρ m => evSs ⟨callF M sb n, sb⟩ B_348_b0 ρ m) (z := .mk) (enc := fun j => .tup [.int (j : Nat), kidD (ks.getD j (0, 0))]) (n := ks.length) (fun j => [some (ndD (.branch ms ks)), some (.lst ((branchW :: pf ms ks j).map D.str)), none, none]) (fun _ => m) (fun j hj => by
      have hk : ks.getD j (0, 0) ∈ ks := by
        rw [List.getD_eq_getElem?_getD, List.getElem?_eq_getElem hj]
        exact List.getElem_mem hj
      have n1 := dstr_num (hv _ hk).1
      have n2 := dstr_num (hv _ hk).2
      have st := pf_step hm hj
      have hpj := hp j
      by_cases h0 : 0 < j
      · rw [if_pos h0] at st
        have q0 : (0 : Int) < (j : Int) := by omega
        have i1 : idxD (.tup (ms.map D.str)) (.int ((j : Int) - 1)) = some (.str (ms.getD (j - 1) [])) := by
          rw [show (j : Int) - 1 = ((j - 1 : Nat) : Int) by omega]
          refine ix_tn ?_
          rw [List.getElem?_map, List.getElem?_eq_getElem (by omega : j - 1 < ms.length), List.getD_eq_getElem?_getD, List.getElem?_eq_getElem (by omega : j - 1 < ms.length)]
          rfl
        have hw := hmw (ms.getD (j - 1) []) (by
          rw [List.getD_eq_getElem?_getD, List.getElem?_eq_getElem (by omega : j - 1 < ms.length)]
          exact List.getElem_mem _)
        have s1 : binD .add (.str [61]) (.str (ms.getD (j - 1) [])) = some (.str (61 :: ms.getD (j - 1) [])) := addS_b (by simp only [List.length_singleton]; omega)
        have la : ((branchW :: pf ms ks j).map D.str).length < sizeD := by rw [List.length_map, List.length_cons, sizeD_n]; omega
        have s3 : binD .add (.lst ((branchW :: pf ms ks j).map D.str ++ [D.str (61 :: ms.getD (j - 1) [])])) (.lst [.str (numS (ks.getD j (0, 0)).1), .str (numS (ks.getD j (0, 0)).2)]) = some (.lst ((branchW :: pf ms ks (j + 1)).map D.str)) := by
          rw [b_addL (by
            rw [sizeD_n, List.length_append, List.length_map, List.length_cons]
            simp only [List.length_cons, List.length_nil]
            omega), st]
          simp
        unfold kidD ndD
        generalize (branchW :: pf ms ks j).map D.str = A at *
        generalize (branchW :: pf ms ks (j + 1)).map D.str = A' at *
        push_cast [B_348_b0, q0, i1, s1, la, n1, n2, s3]
      · rw [if_neg h0] at st
        have q0 : ¬ (0 : Int) < (j : Int) := by omega
        have s3 : binD .add (.lst ((branchW :: pf ms ks j).map D.str)) (.lst [.str (numS (ks.getD j (0, 0)).1), .str (numS (ks.getD j (0, 0)).2)]) = some (.lst ((branchW :: pf ms ks (j + 1)).map D.str)) := by
          rw [b_addL (by
            rw [sizeD_n, List.length_map, List.length_cons]
            simp only [List.length_cons, List.length_nil]
            omega), st]
          simp
        unfold kidD ndD
        generalize (branchW :: pf ms ks j).map D.str = A at *
        generalize (branchW :: pf ms ks (j + 1)).map D.str = A' at *
        push_cast [B_348_b0, q0, n1, n2, s3])
    rw [pf_all hm] at loop
    have e0 : pf ms ks 0 = [] := rfl
    have en := enum_kids ks
    simp only [e0, List.map_cons, List.map_nil, ndD] at loop
    unfold ndD ndW
    rw [List.map_cons]
    unfold branchW at loop ⊢
    push_cast [B_348, en, loop]
end
end MP

set_option maxRecDepth 100000
set_option maxHeartbeats 4000000
set_option autoImplicit false
namespace MP
open PySem L2
local macro_rules
  | `(tactic| push_cast [$xs,*]) => `(tactic| simp (config := {dsimp := false, implicitDefEqProofs := false}) (disch := first | assumption | omega | (rw [sizeD_n]; omega) | decide) only [↓v_var, ↓v_lit, ↓v_glob, ↓v_bin, ↓v_cmp, ↓v_isN, ↓v_chain, ↓v_and, ↓v_or, ↓v_not, ↓v_ifx, ↓v_idx, ↓v_sl, ↓v_slS, ↓v_tup, ↓v_lst, ↓v_dic0, ↓v_comp, ↓v_cT, ↓v_cK, ↓v_call, ↓v_bi, ↓v_mth, ↓v_isi, ↓v_nil, ↓v_cons, ↓v_kno, ↓v_kyes, ↓v_pno, ↓v_pyes, ↓v_ie, ↓v_r1, ↓v_r2, ↓v_rev, ↓v_zip, ↓v_enum, ↓v_T, ↓w_asg, ↓w_own, ↓w_aug, ↓w_augS, ↓w_app, ↓w_appS, ↓w_drop, ↓w_ret, ↓w_retN, ↓w_ifs, ↓w_whl, ↓w_for, ↓w_rais, ↓w_tri, ↓v_isx, ↓w_asgX, ↓v_tzip, ↓v_rep, tz_ll, triF_n, triF_r, triF_e, triE_n, isx_n, isx_x, isNon_x, ↓w_pas, ↓w_fgt, ↓w_nil, ↓w_cons,
      bC_t, bC_f, bK_t, bK_f, bnd_o, bnd_e, bfl_o, bfl_e, sq_n, sq_r, sq_e, res_r, res_n, res_e, getS_s, intP_i, stO_s, runB_s, b_one, b_two, b_three, b_four, wp_one, wp_two, wp_three, mtOn_s, mtTxt, wipe_n, wipe_c, isNon_i, isNon_n, isNon_t, isNon_s, isNon_l, isNon_b, isNon_d, Res.opt_some, Res.calm_ok, Option.map_some, trn_map, trn_nil, trn_cons, consO_s, consO_n, trnG_map, trnG_fmap,
      List.set_cons_zero, List.set_cons_succ, List.getElem?_cons_zero, List.getElem?_cons_succ, List.length_cons, List.length_nil, List.length_map, List.length_range, List.map_map, Function.comp_def, b_add, b_sub, b_mul, b_mul2, b_div, b_mod, b_addS, b_addL, b_addT, a_add, a_sub, t_bl, t_int, t_str, t_lst, t_tup, t_non, len_l, len_t, len_s, it_l, it_t, it_s, rv_l, rv_t, ix_t0, ix_t1, ix_t2, ix_l0, ix_l1, ix_l2, bi_lt, bi_ll, bi_ls, bi_tl, bi_tt, bi_ib, bi_ii, bi_min, bi_max, bi_all, bi_any, bi_sum, c_lt, c_le, c_gt, c_ge, c_ltS, c_leS, c_gtS, c_geS, c_eqI, c_eqS, c_neI, c_neS, cl_i, cl_s, cl_b, cl_t, cl_l, cl_n, cl_d, tyD, List.any_cons, List.any_nil, Bool.not_true, Bool.not_false, Bool.or_false, Bool.or_true, Bool.false_or, Bool.true_or, bne_self_eq_false, bne_iff_ne, Bool.bne_true, Bool.bne_false, decide_true, decide_false, nc0, nc1, nc2, nc3, nc4, nc5, nc6, nc7, nc8, nc9, Nat.reduceAdd, Nat.reduceSub, Nat.reduceMul, Nat.reduceLT, Nat.reduceLeDiff, Int.reduceAdd, Int.reduceSub, Int.reduceMul, Int.reduceLT, Int.reduceLE, $xs,*])

theorem qc_neB {a b : Bool} : cmpD .ne (.bl a) (.bl b) = some (a != b) := by
  show (eqD (.bl a) (.bl b)).map (!·) = _
  unfold eqD
  rw [if_pos ⟨rfl, rfl, .inl (Nat.zero_le _)⟩]
  cases a <;> cases b <;> rfl
section
variable {n : Nat} {m : Mu}
theorem nodetext_ok {nd : Nd} (hv : NdV nd) (hl : (ntext nd).length < 50000) : callF M sb (n + 2) 349 [ndD nd] m = .ok (.str (ntext nd)) m := by
  rw [u_349]
  have j := join_jn (l := ndW nd) hl
  cases nd with
  | leaf b cs =>
    have w := leafwords_ok (n := n) (m := m) hv hl
    unfold ndD leafW at w ⊢
    unfold ntext
    push_cast [B_349, w, j]
  | branch ms ks =>
    have w := branchwords_ok (n := n) (m := m) hv hl
    have ne : ¬ ([98, 114, 97, 110, 99, 104] : List Nat) = [108, 101, 97, 102] := by decide
    unfold ndD branchW at w ⊢
    unfold ntext
    push_cast [B_349, w, j, ne]
theorem jn_snoc {p : List Nat} {l : List (List Nat)} {w : List Nat} : jn (p :: (l ++ [w])) = jn (p :: l) ++ 32 :: w := by
  rw [show p :: (l ++ [w]) = (p :: l) ++ [w] from rfl, jn_app (by simp)]
  simp
theorem jn_two {p : List Nat} {l : List (List Nat)} {w x : List Nat} : jn (p :: (l ++ [w, x])) = jn (p :: l) ++ (32 :: w ++ 32 :: x) := by
  rw [show p :: (l ++ [w, x]) = (p :: l) ++ [w, x] from rfl, jn_app (by simp)]
  simp
theorem lnodetext_ok {nd : Nd} (hv : NdV nd) (hl : (ntext nd).length < 50000) : callF M sb (n + 1) 360 [ndD nd] m = .ok (.str (ntext nd)) m := by
  rw [u_360]
  cases hv with
  | leaf hv =>
    rename_i b cs
    have e0 : jn [leafW, 61 :: b] = [108, 101, 97, 102, 32, 61] ++ b := by simp [jn, leafW]
    have lp : ∀ p q, cs = p ++ q → (jn (leafW :: ([61 :: b] ++ p.flatMap cellW))).length < 50000 := fun p q e => by
      have := jn_cut leafW ([61 :: b] ++ p.flatMap cellW) (q.flatMap cellW)
      rw [List.append_assoc, ← List.flatMap_append, ← e] at this
      exact Nat.lt_of_le_of_lt this hl
    have s0 : binD .add (.str [108, 101, 97, 102, 32, 61]) (.str b) = some (.str (jn [leafW, 61 :: b])) := by
      rw [e0]
      refine addS_b ?_
      have := lp [] cs rfl
      simp only [List.flatMap_nil, List.append_nil] at this
      rw [e0, List.length_append] at this
      omega
    have loop := for_pre (tg := .many [3, 4]) (b := fun ρ m => evSs ⟨callF M sb n, sb⟩ B_360_b0 ρ m) (z := .mk) (enc := cellD) (l := cs) (fun p => [some (ndD (.leaf b cs)), some (.str (jn (leafW :: ([61 :: b] ++ p.flatMap cellW)))), none, none, none]) (fun _ => m) (fun p x q e => by
      have hx : x ∈ cs := by rw [e]; simp
      have l2 := lp (p ++ [x]) q (by rw [e]; simp)
      have ej : jn (leafW :: ([61 :: b] ++ (p ++ [x]).flatMap cellW)) = jn (leafW :: ([61 :: b] ++ p.flatMap cellW)) ++ ([32, 61] ++ x.1 ++ [32] ++ numS x.2) := by
        rw [List.flatMap_append, ← List.append_assoc, show [x].flatMap cellW = [61 :: x.1, numS x.2] by simp [cellW], jn_two]
        simp
      rw [ej] at l2 ⊢
      generalize jn (leafW :: ([61 :: b] ++ p.flatMap cellW)) = T at *
      simp only [List.length_append, List.length_cons, List.length_nil] at l2
      have s1 : binD .add (.str T) (.str [32, 61]) = some (.str (T ++ [32, 61])) := addS_b (by simp only [List.length_cons, List.length_nil]; omega)
      have s2 : binD .add (.str (T ++ [32, 61])) (.str x.1) = some (.str (T ++ [32, 61] ++ x.1)) := addS_b (by simp only [List.length_append, List.length_cons, List.length_nil]; omega)
      have s3 : binD .add (.str (T ++ [32, 61] ++ x.1)) (.str [32]) = some (.str (T ++ [32, 61] ++ x.1 ++ [32])) := addS_b (by simp only [List.length_append, List.length_cons, List.length_nil]; omega)
      have s4 : binD .add (.str (T ++ [32, 61] ++ x.1 ++ [32])) (.str (numS x.2)) = some (.str (T ++ ([32, 61] ++ x.1 ++ [32] ++ numS x.2))) := by
        rw [addS_b (by simp only [List.length_append, List.length_cons, List.length_nil]; omega)]
        simp
      have s5 := dstr_num (hv x hx)
      unfold cellD
      push_cast [B_360_b0, s1, s2, s3, s4, s5])
    simp only [List.flatMap_nil, List.append_nil, ndD] at loop
    have et : jn (leafW :: ([61 :: b] ++ cs.flatMap cellW)) = ntext (.leaf b cs) := rfl
    rw [et] at loop
    unfold ndD
    generalize ntext (.leaf b cs) = T at *
    generalize jn [leafW, 61 :: b] = T0 at *
    unfold leafW at loop ⊢
    push_cast [B_360, s0, loop]
  | branch hm hv =>
    rename_i ms ks
    have lp : ∀ j, (jn (branchW :: pf ms ks j)).length < 50000 := fun j => Nat.lt_of_le_of_lt (pf_le ms ks j) hl
    have loop := for_rng (tg := .one 2) (b := fun ρ m => evSs ⟨callF M sb n, sb⟩ B_360_b1 ρ m) (z := .mk) (enc := fun j => .int (j : Nat)) (n := ks.length) (fun j => [some (ndD (.branch ms ks)), some (.str (jn (branchW :: pf ms ks j))), none, none, none]) (fun _ => m) (fun j hj => by
      have hk : ks.getD j (0, 0) ∈ ks := by
        rw [List.getD_eq_getElem?_getD, List.getElem?_eq_getElem hj]
        exact List.getElem_mem hj
      have n1 := dstr_num (hv _ hk).1
      have n2 := dstr_num (hv _ hk).2
      have st := pf_step hm hj
      have l2 := lp (j + 1)
      have i2 : idxD (.tup (ks.map kidD)) (.int (j : Int)) = some (kidD (ks.getD j (0, 0))) := by
        refine ix_tn ?_
        rw [List.getElem?_map, List.getElem?_eq_getElem hj, List.getD_eq_getElem?_getD, List.getElem?_eq_getElem hj]
        rfl
      generalize ks.getD j (0, 0) = kk at *
      by_cases h0 : 0 < j
      · rw [if_pos h0] at st
        have q0 : (0 : Int) < (j : Int) := by omega
        have i1 : idxD (.tup (ms.map D.str)) (.int ((j : Int) - 1)) = some (.str (ms.getD (j - 1) [])) := by
          rw [show (j : Int) - 1 = ((j - 1 : Nat) : Int) by omega]
          refine ix_tn ?_
          rw [List.getElem?_map, List.getElem?_eq_getElem (by omega : j - 1 < ms.length), List.getD_eq_getElem?_getD, List.getElem?_eq_getElem (by omega : j - 1 < ms.length)]
          rfl
        generalize ms.getD (j - 1) [] = w at *
        have ej : jn (branchW :: pf ms ks (j + 1)) = jn (branchW :: pf ms ks j) ++ ([32, 61] ++ w ++ [32] ++ numS kk.1 ++ [32] ++ numS kk.2) := by
          rw [st, jn_two, jn_snoc]
          simp
        rw [ej] at l2 ⊢
        generalize jn (branchW :: pf ms ks j) = T at *
        simp only [List.length_append, List.length_cons, List.length_nil] at l2
        have s1 : binD .add (.str T) (.str [32, 61]) = some (.str (T ++ [32, 61])) := addS_b (by simp only [List.length_cons, List.length_nil]; omega)
        have s2 : binD .add (.str (T ++ [32, 61])) (.str w) = some (.str (T ++ [32, 61] ++ w)) := addS_b (by simp only [List.length_append, List.length_cons, List.length_nil]; omega)
        have s3 : binD .add (.str (T ++ [32, 61] ++ w)) (.str [32]) = some (.str (T ++ [32, 61] ++ w ++ [32])) := addS_b (by simp only [List.length_append, List.length_cons, List.length_nil]; omega)
        have s4 : binD .add (.str (T ++ [32, 61] ++ w ++ [32])) (.str (numS kk.1)) = some (.str (T ++ [32, 61] ++ w ++ [32] ++ numS kk.1)) := addS_b (by simp only [List.length_append, List.length_cons, List.length_nil]; omega)
        have s5 : binD .add (.str (T ++ [32, 61] ++ w ++ [32] ++ numS kk.1)) (.str [32]) = some (.str (T ++ [32, 61] ++ w ++ [32] ++ numS kk.1 ++ [32])) := addS_b (by simp only [List.length_append, List.length_cons, List.length_nil]; omega)
        have s6 : binD .add (.str (T ++ [32, 61] ++ w ++ [32] ++ numS kk.1 ++ [32])) (.str (numS kk.2)) = some (.str (T ++ ([32, 61] ++ w ++ [32] ++ numS kk.1 ++ [32] ++ numS kk.2))) := by
          rw [addS_b (by simp only [List.length_append, List.length_cons, List.length_nil]; omega)]
          simp
        unfold ndD
        rw [show kidD kk = .tup [.int (kk.1 : Nat), .int (kk.2 : Nat)] from rfl] at i2
        push_cast [B_360_b1, q0, i1, i2, s1, s2, s3, s4, s5, s6, n1, n2]
      · rw [if_neg h0] at st
        have q0 : ¬ (0 : Int) < (j : Int) := by omega
        have ej : jn (branchW :: pf ms ks (j + 1)) = jn (branchW :: pf ms ks j) ++ ([32] ++ numS kk.1 ++ [32] ++ numS kk.2) := by
          rw [st, List.append_nil, jn_two]
          simp
        rw [ej] at l2 ⊢
        generalize jn (branchW :: pf ms ks j) = T at *
        simp only [List.length_append, List.length_cons, List.length_nil] at l2
        have s3 : binD .add (.str T) (.str [32]) = some (.str (T ++ [32])) := addS_b (by simp only [List.length_append, List.length_cons, List.length_nil]; omega)
        have s4 : binD .add (.str (T ++ [32])) (.str (numS kk.1)) = some (.str (T ++ [32] ++ numS kk.1)) := addS_b (by simp only [List.length_append, List.length_cons, List.length_nil]; omega)
        have s5 : binD .add (.str (T ++ [32] ++ numS kk.1)) (.str [32]) = some (.str (T ++ [32] ++ numS kk.1 ++ [32])) := addS_b (by simp only [List.length_append, List.length_cons, List.length_nil]; omega)
        have s6 : binD .add (.str (T ++ [32] ++ numS kk.1 ++ [32])) (.str (numS kk.2)) = some (.str (T ++ ([32] ++ numS kk.1 ++ [32] ++ numS kk.2))) := by
          rw [addS_b (by simp only [List.length_append, List.length_cons, List.length_nil]; omega)]
          simp
        unfold ndD
        rw [show kidD kk = .tup [.int (kk.1 : Nat), .int (kk.2 : Nat)] from rfl] at i2
        push_cast [B_360_b1, q0, i2, s3, s4, s5, s6, n1, n2])
    rw [pf_all hm] at loop
    have hc := jn_count (branchW :: brW ms ks)
    have hl' : (jn (branchW :: brW ms ks)).length < 50000 := hl
    have h4 := (ths_br hm).2.2.2
    rw [List.length_cons] at hc
    have r := rng1_n (n := ks.length) (by omega)
    have e0 : jn (branchW :: pf ms ks 0) = branchW := by simp [pf, jn]
    have et : jn (branchW :: brW ms ks) = ntext (.branch ms ks) := rfl
    rw [e0, et] at loop
    have ne : ¬ ([98, 114, 97, 110, 99, 104] : List Nat) = [108, 101, 97, 102] := by decide
    simp only [ndD] at loop
    unfold ndD
    generalize ntext (.branch ms ks) = T at *
    unfold branchW at loop ⊢
    push_cast [B_360, r, loop, ne]
/-! ### alike -/
mutual
def alB : D → Bool
  | .non | .bl _ | .int _ | .str _ => true
  | .tup l | .lst l => decide (l.length ≤ 100000) && alBs l
  | _ => false
def alBs : List D → Bool
  | [] => true
  | d :: ds => alB d && alBs ds
end
theorem alBs_mem : ∀ {l : List D} {x : D}, alBs l = true → x ∈ l → alB x = true ∧ x.dep ≤ D.deps l
  | y :: l, x, h, hx => by
    rw [alBs, Bool.and_eq_true] at h
    rw [D.deps]
    rcases List.mem_cons.mp hx with e | e
    · rw [e]; exact ⟨h.1, Nat.le_max_left ..⟩
    · have := alBs_mem h.2 e
      exact ⟨this.1, Nat.le_trans this.2 (Nat.le_max_right ..)⟩
theorem alike_self : ∀ (k : Nat) {d : D} {n : Nat}, d.dep ≤ k → alB d = true → callF M sb (n + k + 1) 29 [d, d] m = .ok (.bl true) m := fun k => by
  induction k with
  | zero =>
    intro d n hd ha
    rw [Nat.add_zero, u_29]
    cases d with
    | non => push_cast [B_29]
    | bl b =>
      have e : cmpD .eq (.bl b) (.bl b) = some true := by cases b <;> rfl
      push_cast [B_29, qc_neB, e]
    | int i => push_cast [B_29, qc_neB]
    | str s => push_cast [B_29, qc_neB]
    | tup l => simp [D.dep] at hd
    | lst l => simp [D.dep] at hd
    | dic l => cases ha
    | obj i => cases ha
    | exc i => cases ha
  | succ k ih =>
    intro d n hd ha
    rw [show n + (k + 1) + 1 = (n + k + 1) + 1 by omega, u_29]
    have hc : ∀ {l : List D} {d : D} (i : Nat → D), (l.length ≤ 100000) → (∀ j, j < l.length → idxD d (.int (j : Nat)) = some (i j) ∧ alB (i j) = true ∧ (i j).dep ≤ k) → trnL (cT ⟨callF M sb (n + k + 1), sb⟩ (.one 2) (.yes (.not1 (.call 29 (.cons (.idx (.var 0) (.var 2)) (.cons (.idx (.var 1) (.var 2)) .nil))))) (.var 2) [some d, some d, none]) ((List.range l.length).map fun j => D.int (j : Nat)) m .mk = .ok [] m := fun {l d} i hl hx => by
      rw [trn_map, trnG_fil (fun _ => false) (fun j => D.int (j : Nat))]
      · simp
      · intro j hj
        have hj' := List.mem_range.mp hj
        obtain ⟨g1, g2, g3⟩ := hx j hj'
        have l1 := ih (n := n) g3 g2
        push_cast [g1, l1]
        rfl
    cases d with
    | non => push_cast [B_29]
    | bl b =>
      have e : cmpD .eq (.bl b) (.bl b) = some true := by cases b <;> rfl
      push_cast [B_29, qc_neB, e]
    | int i => push_cast [B_29, qc_neB]
    | str s => push_cast [B_29, qc_neB]
    | tup l =>
      rw [alB, Bool.and_eq_true, decide_eq_true_eq] at ha
      rw [D.dep] at hd
      have hr := rng1_n (n := l.length) ha.1
      have hc := hc (l := l) (d := .tup l) (fun j => l.getD j .non) ha.1 (fun j hj => by
        have hm : l.getD j .non ∈ l := by
          rw [List.getD_eq_getElem?_getD, List.getElem?_eq_getElem hj]
          exact List.getElem_mem hj
        have := alBs_mem ha.2 hm
        refine ⟨ix_tn ?_, this.1, by omega⟩
        rw [List.getD_eq_getElem?_getD, List.getElem?_eq_getElem hj]
        rfl)
      push_cast [B_29, -trn_map, qc_neB, hr, hc, c_eq00]
    | lst l =>
      rw [alB, Bool.and_eq_true, decide_eq_true_eq] at ha
      rw [D.dep] at hd
      have hr := rng1_n (n := l.length) ha.1
      have hc := hc (l := l) (d := .lst l) (fun j => l.getD j .non) ha.1 (fun j hj => by
        have hm : l.getD j .non ∈ l := by
          rw [List.getD_eq_getElem?_getD, List.getElem?_eq_getElem hj]
          exact List.getElem_mem hj
        have := alBs_mem ha.2 hm
        refine ⟨ix_ln ?_, this.1, by omega⟩
        rw [List.getD_eq_getElem?_getD, List.getElem?_eq_getElem hj]
        rfl)
      push_cast [B_29, -trn_map, qc_neB, hr, hc, c_eq00]
    | dic l => cases ha
    | obj i => cases ha
    | exc i => cases ha
end
end MP

set_option maxRecDepth 100000
set_option maxHeartbeats 4000000
set_option autoImplicit false
namespace MP
open PySem L2
local macro_rules
  | `(tactic| push_cast [$xs,*]) => `(tactic| simp (config := {dsimp := false, implicitDefEqProofs := false}) (disch := first | assumption | omega | (rw [sizeD_n]; omega) | decide) only [↓v_var, ↓v_lit, ↓v_glob, ↓v_bin, ↓v_cmp, ↓v_isN, ↓v_chain, ↓v_and, ↓v_or, ↓v_not, ↓v_ifx, ↓v_idx, ↓v_sl, ↓v_slS, ↓v_tup, ↓v_lst, ↓v_dic0, ↓v_comp, ↓v_cT, ↓v_cK, ↓v_call, ↓v_bi, ↓v_mth, ↓v_isi, ↓v_nil, ↓v_cons, ↓v_kno, ↓v_kyes, ↓v_pno, ↓v_pyes, ↓v_ie, ↓v_r1, ↓v_r2, ↓v_rev, ↓v_zip, ↓v_enum, ↓v_T, ↓w_asg, ↓w_own, ↓w_aug, ↓w_augS, ↓w_app, ↓w_appS, ↓w_drop, ↓w_ret, ↓w_retN, ↓w_ifs, ↓w_whl, ↓w_for, ↓w_rais, ↓w_tri, ↓v_isx, ↓w_asgX, ↓v_tzip, ↓v_rep, tz_ll, triF_n, triF_r, triF_e, triE_n, isx_n, isx_x, isNon_x, ↓w_pas, ↓w_fgt, ↓w_nil, ↓w_cons,
      bC_t, bC_f, bK_t, bK_f, bnd_o, bnd_e, bfl_o, bfl_e, sq_n, sq_r, sq_e, res_r, res_n, res_e, getS_s, intP_i, stO_s, runB_s, b_one, b_two, b_three, b_four, wp_one, wp_two, wp_three, mtOn_s, mtTxt, wipe_n, wipe_c, isNon_i, isNon_n, isNon_t, isNon_s, isNon_l, isNon_b, isNon_d, Res.opt_some, Res.calm_ok, Option.map_some, trn_map, trn_nil, trn_cons, consO_s, consO_n, trnG_map, trnG_fmap,
      List.set_cons_zero, List.set_cons_succ, List.getElem?_cons_zero, List.getElem?_cons_succ, List.length_cons, List.length_nil, List.length_map, List.length_range, List.map_map, Function.comp_def, b_add, b_sub, b_mul, b_mul2, b_div, b_mod, b_addS, b_addL, b_addT, a_add, a_sub, t_bl, t_int, t_str, t_lst, t_tup, t_non, len_l, len_t, len_s, it_l, it_t, it_s, rv_l, rv_t, ix_t0, ix_t1, ix_t2, ix_l0, ix_l1, ix_l2, bi_lt, bi_ll, bi_ls, bi_tl, bi_tt, bi_ib, bi_ii, bi_min, bi_max, bi_all, bi_any, bi_sum, c_lt, c_le, c_gt, c_ge, c_ltS, c_leS, c_gtS, c_geS, c_eqI, c_eqS, c_neI, c_neS, cl_i, cl_s, cl_b, cl_t, cl_l, cl_n, cl_d, tyD, List.any_cons, List.any_nil, Bool.not_true, Bool.not_false, Bool.or_false, Bool.or_true, Bool.false_or, Bool.true_or, bne_self_eq_false, bne_iff_ne, Bool.bne_true, Bool.bne_false, decide_true, decide_false, nc0, nc1, nc2, nc3, nc4, nc5, nc6, nc7, nc8, nc9, Nat.reduceAdd, Nat.reduceSub, Nat.reduceMul, Nat.reduceLT, Nat.reduceLeDiff, Int.reduceAdd, Int.reduceSub, Int.reduceMul, Int.reduceLT, Int.reduceLE, $xs,*])

/-! ### a drawn node -/
def Rs (l : List (List Nat)) : Prop := l.Pairwise fun a b => ltS a b = true
theorem ris_of_pw : ∀ {l : List (List Nat)}, Rs l → risR l = true
  | [], _ => rfl
  | [x], _ => rfl
  | x :: y :: l, h => by
    have h' : (∀ z ∈ y :: l, ltS x z = true) ∧ Rs (y :: l) := List.pairwise_cons.mp h
    rw [ris_cons, h'.1 y List.mem_cons_self, ris_of_pw h'.2]
    rfl
theorem tri_L : ∀ a b : List Nat, a < b ∨ a = b ∨ b < a
  | [], [] => .inr (.inl rfl)
  | [], _ :: _ => .inl (List.nil_lt_cons ..)
  | _ :: _, [] => .inr (.inr (List.nil_lt_cons ..))
  | x :: a, y :: b => by
    rcases Nat.lt_trichotomy x y with h | h | h
    · exact .inl (List.cons_lt_cons_iff.mpr (.inl h))
    · subst h
      rcases tri_L a b with q | q | q
      · exact .inl (List.cons_lt_cons_iff.mpr (.inr ⟨rfl, q⟩))
      · exact .inr (.inl (by rw [q]))
      · exact .inr (.inr (List.cons_lt_cons_iff.mpr (.inr ⟨rfl, q⟩)))
    · exact .inr (.inr (List.cons_lt_cons_iff.mpr (.inl h)))
theorem ltS_tri {a b : List Nat} (h : leS a b = true) (n : a ≠ b) : ltS a b = true := by
  have h1 : ¬ b < a := leS_nlt h
  refine ltS_iff.mpr ?_
  rcases tri_L a b with h | h | h
  · exact h
  · exact absurd h n
  · exact absurd h h1
theorem sort_rs {l : List (List Nat)} (h : l.Nodup) : Rs (sortL leS l) := by
  have p := sort_pw l
  have nd : (sortL leS l).Nodup := (sortL_perm (le := leS) l).nodup_iff.mpr h
  exact (p.and nd).imp fun ⟨a, b⟩ => ltS_tri a b
/-- what lies between texts of one first sign -/
theorem between {c : Nat} {x y z : List Nat} (h1 : ltS (c :: x) y = true) (h2 : ltS y (c :: z) = true) : ∃ w, y = c :: w := by
  have h1 := ltS_iff.mp h1
  have h2 := ltS_iff.mp h2
  cases y with
  | nil => exact absurd h1 (List.not_lt_nil _)
  | cons d w =>
    rcases List.cons_lt_cons_iff.mp h1 with a | a
    · rcases List.cons_lt_cons_iff.mp h2 with b | b
      · omega
      · omega
    · exact ⟨w, by rw [a.1]⟩
theorem ltS_cons {c : Nat} {x y : List Nat} : ltS (c :: x) (c :: y) = ltS x y := by
  unfold ltS
  rw [decide_eq_decide, List.cons_lt_cons_iff]
  constructor
  · intro h
    rcases h with h | h
    · omega
    · exact h.2
  · exact fun h => .inr ⟨rfl, h⟩
theorem rs_last {x : List Nat} {l : List (List Nat)} (h : Rs (x :: l)) : (x :: l).getLast (List.cons_ne_nil _ _) = x ∧ l = [] ∨ ltS x ((x :: l).getLast (List.cons_ne_nil _ _)) = true := by
  cases l with
  | nil => exact .inl ⟨rfl, rfl⟩
  | cons y l =>
    right
    have h' := (List.pairwise_cons.mp h).1
    rw [List.getLast_cons (List.cons_ne_nil _ _)]
    exact h' _ (List.getLast_mem _)
theorem rs_all {c : Nat} {x : List Nat} {l : List (List Nat)} {z : List Nat} (h : Rs ((c :: x) :: l)) (hz : ((c :: x) :: l).getLast (List.cons_ne_nil _ _) = c :: z) : ∀ y ∈ (c :: x) :: l, ∃ w, y = c :: w := fun y hy => by
  rcases List.mem_cons.mp hy with e | hy'
  · exact ⟨x, e⟩
  · have h1 : ltS (c :: x) y = true := (List.pairwise_cons.mp h).1 y hy'
    have e := List.dropLast_concat_getLast (List.cons_ne_nil (c :: x) l)
    rw [hz] at e
    rw [← e] at hy
    rcases List.mem_append.mp hy with q | q
    · have h2 : ltS y (c :: z) = true := by
        have : Rs (((c :: x) :: l).dropLast ++ [c :: z]) := by rw [e]; exact h
        exact (List.pairwise_append.mp this).2.2 y q (c :: z) (List.mem_singleton.mpr rfl)
      exact between h1 h2
    · exact ⟨z, List.mem_singleton.mp q⟩
theorem rs_chop {c : Nat} {l : List (List Nat)} (h : Rs l) (ha : ∀ y ∈ l, ∃ w, y = c :: w) : Rs (l.map dr1) := by
  unfold Rs
  rw [List.pairwise_map]
  refine List.Pairwise.imp_of_mem (fun {a b} hx hy hxy => ?_) h
  obtain ⟨u, e⟩ := ha a hx
  obtain ⟨v, e2⟩ := ha b hy
  subst e e2
  rw [ltS_cons] at hxy
  exact hxy
/-- keys of a dict of texts -/
def pairD (p : List Nat × Nat) : D := .tup [.str p.1, .int (p.2 : Nat)]
theorem pairs_map : ∀ l : List (List Nat × Nat), pairsOf (l.map pairD) = some (l.map fun p => (Sum.inr (S p.1), D.int (p.2 : Nat)))
  | [] => rfl
  | p :: l => by
    show (pairsOf (l.map pairD)).map _ = _
    rw [pairs_map l]; rfl
theorem put_keys {l : List (Key × D)} {k : Key} {v : D} : (k ∈ l.map (·.1) → (putDK l k v).map (·.1) = l.map (·.1)) ∧ (k ∉ l.map (·.1) → (putDK l k v).map (·.1) = l.map (·.1) ++ [k]) := by
  unfold putDK
  have e : (l.any fun kv => decide (kv.1 = k)) = true ↔ k ∈ l.map (·.1) := by
    rw [List.any_eq_true, List.mem_map]
    exact ⟨fun ⟨x, h1, h2⟩ => ⟨x, h1, of_decide_eq_true h2⟩, fun ⟨x, h1, h2⟩ => ⟨x, h1, decide_eq_true h2⟩⟩
  refine ⟨fun h => ?_, fun h => ?_⟩
  · rw [if_pos (e.mpr h), List.map_map]
    refine List.map_congr_left fun p _ => ?_
    show (if p.1 = k then (p.1, v) else p).1 = p.1
    split <;> rfl
  · rw [if_neg (fun q => h (e.mp q)), List.map_append]; rfl
theorem merge_keys : ∀ (ps : List (List Nat × Nat)) (acc : List (Key × D)) (ss : List (List Nat)), acc.map (·.1) = ss.map (fun s => Sum.inr (S s)) → ss.Nodup → ∃ ts : List (List Nat), (mergeDK acc (ps.map fun p => (Sum.inr (S p.1), D.int (p.2 : Nat)))).map (·.1) = ts.map (fun s => Sum.inr (S s)) ∧ ts.Nodup ∧ (∀ s ∈ ts, s ∈ ss ∨ ∃ p ∈ ps, p.1 = s) ∧ ts.length ≤ ss.length + ps.length
  | [], acc, ss, h, hn => ⟨ss, h, hn, fun s hs => .inl hs, Nat.le_refl _⟩
  | p :: ps, acc, ss, h, hn => by
    have hmem : (Sum.inr (S p.1) ∈ acc.map (·.1)) ↔ p.1 ∈ ss := by
      rw [h, List.mem_map]
      exact ⟨fun ⟨s, h1, h2⟩ => by rw [← S_inj (Sum.inr.inj h2)]; exact h1, fun q => ⟨p.1, q, rfl⟩⟩
    have pk := put_keys (l := acc) (k := Sum.inr (S p.1)) (v := .int (p.2 : Nat))
    show ∃ ts : List (List Nat), (mergeDK (putDK acc (Sum.inr (S p.1)) (.int (p.2 : Nat))) (ps.map fun p => (Sum.inr (S p.1), D.int (p.2 : Nat)))).map (·.1) = _ ∧ _
    by_cases q : p.1 ∈ ss
    · have pk := pk.1 (hmem.mpr q)
      rw [h] at pk
      obtain ⟨ts, h1, h2, h3, h4⟩ := merge_keys ps _ ss pk hn
      refine ⟨ts, h1, h2, fun s hs => ?_, by rw [List.length_cons]; omega⟩
      rcases h3 s hs with w | ⟨r, w, e⟩
      · exact .inl w
      · exact .inr ⟨r, List.mem_cons_of_mem _ w, e⟩
    · have pk := pk.2 (fun w => q (hmem.mp w))
      rw [h] at pk
      obtain ⟨ts, h1, h2, h3, h4⟩ := merge_keys ps _ (ss ++ [p.1]) (by rw [pk, List.map_append]; rfl) (by
        rw [List.nodup_append]
        refine ⟨hn, by simp, fun a ha b hb => ?_⟩
        rw [List.mem_singleton.mp hb]
        exact fun e => q (e ▸ ha))
      refine ⟨ts, h1, h2, fun s hs => ?_, by rw [List.length_append, List.length_singleton] at h4; rw [List.length_cons]; omega⟩
      rcases h3 s hs with w | ⟨r, w, e⟩
      · rcases List.mem_append.mp w with w | w
        · exact .inl w
        · exact .inr ⟨p, List.mem_cons_self, (List.mem_singleton.mp w).symm⟩
      · exact .inr ⟨r, List.mem_cons_of_mem _ w, e⟩
theorem keysS_kd : ∀ {l : List (Key × D)} {ss : List (List Nat)}, l.map (·.1) = ss.map (fun s => Sum.inr (S s)) → keysS (kdD l) = some ss
  | [], [], _ => rfl
  | [], _ :: _, h => by simp at h
  | _ :: _, [], h => by simp at h
  | p :: l, s :: ss, h => by
    obtain ⟨h1, h2⟩ := List.cons.inj h
    have ih := keysS_kd h2
    unfold kdD at ih ⊢
    rw [List.map_cons]
    obtain ⟨k, v⟩ := p
    have h1 : k = Sum.inr (S s) := h1
    subst h1
    show (keysS _).map _ = _
    rw [ih]
    show some (tl (S s) :: ss) = _
    rw [tl_S]
theorem dict_sorted (ps : List (List Nat × Nat)) (h : ps.length ≤ 60) : ∃ (dl : List (D × D)) (ss : List (List Nat)), biD .dict [.lst (ps.map pairD)] = some (.dic dl) ∧ biD .sorted [.dic dl] = some (.lst (ss.map D.str)) ∧ Rs ss ∧ (∀ s ∈ ss, ∃ p ∈ ps, p.1 = s) ∧ ss.length ≤ ps.length := by
  obtain ⟨ts, h1, h2, h3, h4⟩ := merge_keys ps [] [] rfl (List.nodup_nil)
  rw [List.length_nil, Nat.zero_add] at h4
  have k := keysS_kd h1
  have hp := sortL_perm (le := leS) ts
  have hlen : (kdD (mergeDK [] (ps.map fun p => (Sum.inr (S p.1), D.int (p.2 : Nat))))).length = ts.length := by
    have := congrArg List.length h1
    rw [List.length_map, List.length_map] at this
    unfold kdD
    rw [List.length_map, this]
  refine ⟨kdD (mergeDK [] (ps.map fun p => (Sum.inr (S p.1), D.int (p.2 : Nat)))), sortL leS ts, ?_, ?_, sort_rs h2, fun s hs => ?_, by rw [hp.length_eq]; exact h4⟩
  · show (pairsOf (ps.map pairD)).map _ = _
    rw [pairs_map]; rfl
  · show (if _ < 64 then (keysS _).map _ else none) = _
    rw [if_pos (by rw [hlen]; omega), k]; rfl
  · rcases h3 s (hp.mem_iff.mp hs) with w | w
    · cases w
    · exact w
section
variable {n : Nat} {m : Mu}
theorem value_ok {c : Int} (h0 : 0 ≤ c) (h1 : c < 2147483587) : ∃ v : Nat, v < 10 ^ 60 ∧ callF M sb (n + 1) 141 [.int c] m = .ok (.int (v : Nat)) m := by
  rw [u_141]
  have hp : binD .pow (.int 10) (.int 60) = some (.int (10 ^ 60)) := b_pow 10 60 (by decide) (by decide)
  have hZ : (0 : Int) < 10 ^ 60 := by decide
  have hZ2 : (10 : Int) ≤ 10 ^ 60 := by decide
  have hZ3 : (10 : Int) ^ 60 = ((10 ^ 60 : Nat) : Int) := by decide
  generalize (10 : Int) ^ 60 = Z at *
  have hr : rng1D (.int 7) = some ((List.range 7).map fun j => D.int (j : Nat)) := rng1_n (n := 7) (by decide)
  obtain ⟨ρ', m', e, b, hb0, hb1, hρ, hm⟩ := for_rinv (tg := .one 2) (b := fun ρ m => evSs ⟨callF M sb n, sb⟩ B_141_b0 ρ m) (z := .mk) (enc := fun j => .int (j : Nat)) (n := 7) (ρ := [some (.int c), some (.int 1), none]) (m := m)
    (fun _ ρ m' => ∃ b : Int, 0 ≤ b ∧ b < Z ∧ ρ = [some (.int c), some (.int b), none] ∧ m' = m) ⟨1, by decide, by omega, rfl, rfl⟩ (fun j ρ m' hj ⟨b, hb0, hb1, hρ, hm⟩ => by
      subst hρ hm
      have s1 : binD .mul (.int b) (.int (c + (j : Int))) = some (.int (b * (c + (j : Int)))) := by
        show (if mulOk b (c + (j : Int)) = true then some (D.int (b * (c + (j : Int)))) else none) = _
        rw [if_pos]
        unfold mulOk
        rw [decide_eq_true (show (c + (j : Int)).natAbs < 2 ^ 64 by omega), Bool.or_true, Bool.true_or]
      have s2 : binD .mod (.int (b * (c + (j : Int)))) (.int Z) = some (.int (b * (c + (j : Int)) % Z)) := b_mod hZ
      exact ⟨_, _, by push_cast [B_141_b0, hp, s1, s2], b * (c + (j : Int)) % Z, Int.emod_nonneg _ (by omega), Int.emod_lt_of_pos _ hZ, rfl, rfl⟩)
  subst hρ hm
  have s3 : binD .mod (.int c) (.int 10) = some (.int (c % 10)) := b_mod (by decide)
  rcases (show c / 10 % 2 = 0 ∨ c / 10 % 2 = 1 by omega) with q | q
  · refine ⟨(c % 10).toNat, by omega, ?_⟩
    rw [Int.toNat_of_nonneg (by omega)]
    push_cast [B_141, hr, e, q]
  · refine ⟨b.toNat, by omega, ?_⟩
    rw [Int.toNat_of_nonneg hb0]
    push_cast [B_141, hr, e, q]
def someR : List Nat := [65, 55, 116, 46, 98, 76, 48, 57, 122, 65, 116, 49]
theorem rest_ok (c : Int) {k : Nat} (hk : k ≤ 10) : ∃ s : List Nat, Sg s ∧ s.length = k ∧ callF M sb (n + 1) 358 [.int c, .int (k : Int)] m = .ok (.str s) m := by
  rw [u_358]
  have hr := rng1_n (n := k) (by omega)
  obtain ⟨ρ', m', e, c', s, h1, h2, hρ, hm⟩ := for_rinv (tg := .one 4) (b := fun ρ m => evSs ⟨callF M sb n, sb⟩ B_358_b0 ρ m) (z := .mk) (enc := fun j => .int (j : Nat)) (n := k) (ρ := [some (.int c), some (.int (k : Int)), some (.str someR), some (.str []), none]) (m := m)
    (fun j ρ m' => ∃ (c' : Int) (s : List Nat), Sg s ∧ s.length = j ∧ ρ = [some (.int c'), some (.int (k : Int)), some (.str someR), some (.str s), none] ∧ m' = m) ⟨c, [], fun _ h => absurd h List.not_mem_nil, rfl, rfl, rfl⟩ (fun j ρ m' hj ⟨c', s, h1, h2, hρ, hm⟩ => by
      subst hρ hm
      obtain ⟨x, hx, ix⟩ := ix_modS (L := someR) (by decide) c' (k := 12) rfl
      have s1 : binD .add (.str s) (.str [x]) = some (.str (s ++ [x])) := addS_b (by rw [List.length_singleton]; omega)
      refine ⟨_, _, by push_cast [B_358_b0, ix, s1], c' / 12 + 7919 * (j : Int), s ++ [x], fun y hy => ?_, by rw [List.length_append, List.length_singleton, h2], rfl, rfl⟩
      rcases List.mem_append.mp hy with hy | hy
      · exact h1 y hy
      · rw [List.mem_singleton.mp hy]
        exact (show ∀ x ∈ someR, x ∈ sgnL by decide) x hx)
  subst hρ hm
  refine ⟨s, h1, h2, ?_⟩
  unfold someR at e
  push_cast [B_358, hr, e]
end
end MP

set_option maxRecDepth 100000
set_option maxHeartbeats 4000000
set_option autoImplicit false
namespace MP
open PySem L2
local macro_rules
  | `(tactic| push_cast [$xs,*]) => `(tactic| simp (config := {dsimp := false, implicitDefEqProofs := false}) (disch := first | assumption | omega | (rw [sizeD_n]; omega) | decide) only [↓v_var, ↓v_lit, ↓v_glob, ↓v_bin, ↓v_cmp, ↓v_isN, ↓v_chain, ↓v_and, ↓v_or, ↓v_not, ↓v_ifx, ↓v_idx, ↓v_sl, ↓v_slS, ↓v_tup, ↓v_lst, ↓v_dic0, ↓v_comp, ↓v_cT, ↓v_cK, ↓v_call, ↓v_bi, ↓v_mth, ↓v_isi, ↓v_nil, ↓v_cons, ↓v_kno, ↓v_kyes, ↓v_pno, ↓v_pyes, ↓v_ie, ↓v_r1, ↓v_r2, ↓v_rev, ↓v_zip, ↓v_enum, ↓v_T, ↓w_asg, ↓w_own, ↓w_aug, ↓w_augS, ↓w_app, ↓w_appS, ↓w_drop, ↓w_ret, ↓w_retN, ↓w_ifs, ↓w_whl, ↓w_for, ↓w_rais, ↓w_tri, ↓v_isx, ↓w_asgX, ↓v_tzip, ↓v_rep, tz_ll, triF_n, triF_r, triF_e, triE_n, isx_n, isx_x, isNon_x, ↓w_pas, ↓w_fgt, ↓w_nil, ↓w_cons,
      bC_t, bC_f, bK_t, bK_f, bnd_o, bnd_e, bfl_o, bfl_e, sq_n, sq_r, sq_e, res_r, res_n, res_e, getS_s, intP_i, stO_s, runB_s, b_one, b_two, b_three, b_four, wp_one, wp_two, wp_three, mtOn_s, mtTxt, wipe_n, wipe_c, isNon_i, isNon_n, isNon_t, isNon_s, isNon_l, isNon_b, isNon_d, Res.opt_some, Res.calm_ok, Option.map_some, trn_map, trn_nil, trn_cons, consO_s, consO_n, trnG_map, trnG_fmap,
      List.set_cons_zero, List.set_cons_succ, List.getElem?_cons_zero, List.getElem?_cons_succ, List.length_cons, List.length_nil, List.length_map, List.length_range, List.map_map, Function.comp_def, b_add, b_sub, b_mul, b_mul2, b_div, b_mod, b_addS, b_addL, b_addT, a_add, a_sub, t_bl, t_int, t_str, t_lst, t_tup, t_non, len_l, len_t, len_s, it_l, it_t, it_s, rv_l, rv_t, ix_t0, ix_t1, ix_t2, ix_l0, ix_l1, ix_l2, bi_lt, bi_ll, bi_ls, bi_tl, bi_tt, bi_ib, bi_ii, bi_min, bi_max, bi_all, bi_any, bi_sum, c_lt, c_le, c_gt, c_ge, c_ltS, c_leS, c_gtS, c_geS, c_eqI, c_eqS, c_neI, c_neS, cl_i, cl_s, cl_b, cl_t, cl_l, cl_n, cl_d, tyD, List.any_cons, List.any_nil, Bool.not_true, Bool.not_false, Bool.or_false, Bool.or_true, Bool.false_or, Bool.true_or, bne_self_eq_false, bne_iff_ne, Bool.bne_true, Bool.bne_false, decide_true, decide_false, nc0, nc1, nc2, nc3, nc4, nc5, nc6, nc7, nc8, nc9, Nat.reduceAdd, Nat.reduceSub, Nat.reduceMul, Nat.reduceLT, Nat.reduceLeDiff, Int.reduceAdd, Int.reduceSub, Int.reduceMul, Int.reduceLT, Int.reduceLE, $xs,*])

theorem qtrn_exG {α β : Type} {f : α → Mu → Res (Option D)} {m : Mu} (enc : β → D) (P : β → Prop) : ∀ {l : List α}, (∀ x ∈ l, ∃ p : β, P p ∧ f x m = .ok (some (enc p)) m) → ∃ k : List β, (∀ p ∈ k, P p) ∧ k.length = l.length ∧ trnG f l m = .ok (k.map enc) m
  | [], _ => ⟨[], fun _ h => (by cases h), rfl, rfl⟩
  | x :: l, h => by
    obtain ⟨p, hp, e⟩ := h x List.mem_cons_self
    obtain ⟨k, hk, e1, e2⟩ := qtrn_exG enc P fun y hy => h y (List.mem_cons_of_mem _ hy)
    refine ⟨p :: k, fun q hq => ?_, by rw [List.length_cons, List.length_cons, e1], ?_⟩
    · rcases List.mem_cons.mp hq with h | h
      · subst h; exact hp
      · exact hk q h
    · rw [trnG, e, Res.bind_ok, e2, Res.bind_ok]
      rfl
theorem ix_last {x : List Nat} {l : List (List Nat)} : idxD (.lst ((x :: l).map D.str)) (.int (-1)) = some (.str ((x :: l).getLast (List.cons_ne_nil _ _))) := by
  show (placeD ((x :: l).map D.str).length (-1)).bind (((x :: l).map D.str)[·]?) = _
  rw [List.length_map]
  have e : placeD (x :: l).length (-1) = some l.length := by
    unfold placeD
    rw [if_neg (by decide), if_pos (by rw [List.length_cons]; omega)]
    rw [List.length_cons]
    congr 1
    omega
  rw [e]
  show ((x :: l).map D.str)[l.length]? = _
  rw [List.getElem?_map, List.getLast_eq_getElem, List.getElem?_eq_getElem (by rw [List.length_cons]; omega)]
  rfl
theorem enum_strs (R : List (List Nat)) : enumD (.lst (R.map D.str)) = some ((List.range R.length).map fun j => .tup [.int (j : Nat), .str (R.getD j [])]) := by
  show some ((R.map D.str).zipIdx.map fun p => D.tup [.int (p.2 : Nat), p.1]) = _
  refine congrArg some (List.ext_getElem? fun i => ?_)
  rw [List.getElem?_map, List.getElem?_zipIdx, List.getElem?_map, List.getElem?_map]
  by_cases h : i < R.length
  · rw [List.getElem?_eq_getElem h, List.getElem?_range h]
    simp [List.getD_eq_getElem?_getD, List.getElem?_eq_getElem h]
  · rw [List.getElem?_eq_none (by omega), List.getElem?_eq_none (by rw [List.length_range]; omega)]
    rfl
theorem jn_le {l : List (List Nat)} {M : Nat} (h : ∀ w ∈ l, w.length ≤ M) : (jn l).length ≤ l.length * (M + 1) := by
  have go : ∀ l : List (List Nat), (∀ w ∈ l, w.length ≤ M) → (l.flatMap fun w => 32 :: w).length ≤ l.length * (M + 1) := fun l => by
    induction l with
    | nil => intro _; simp
    | cons w l ih =>
      intro h
      have h1 := h w List.mem_cons_self
      have h2 := ih fun x hx => h x (List.mem_cons_of_mem _ hx)
      rw [List.flatMap_cons, List.length_append, List.length_cons, List.length_cons, Nat.add_mul]
      omega
  cases l with
  | nil => simp [jn]
  | cons p l =>
    have h1 := h p List.mem_cons_self
    have h2 := go l fun x hx => h x (List.mem_cons_of_mem _ hx)
    rw [jn, List.length_append, List.length_cons, Nat.add_mul]
    omega
theorem shr_end {R : List (List Nat)} (hr : Rs R) (h : (∃ l, R = [] :: l) ∨ ∃ x l c d s t, R = x :: l ∧ x = c :: s ∧ (x :: l).getLast (List.cons_ne_nil _ _) = d :: t ∧ c ≠ d) : shrV R = [] := by
  rcases h with ⟨l, e⟩ | ⟨x, l, c, d, s, t, e, ex, ez, hn⟩
  · subst e
    rw [shr_ris (ris_of_pw hr)]
    rfl
  · subst e
    rw [shr_ris (ris_of_pw hr), ez, ex]
    rw [lcp, if_neg hn]
/-- what is drawn is a node, and not long -/
structure Drn (nd : Nd) : Prop where
  ok : NdOk nd
  v : NdV nd
  sz : (ntext nd).length < 5000
theorem lt_60 {i : Nat} (h : i < 10 ^ 6) : i < 10 ^ 60 := Nat.lt_of_lt_of_le h (by decide)
theorem drn_leaf {b : List Nat} {cs : List (List Nat × Nat)} (h : NdOk (.leaf b cs)) (hb : b.length ≤ 50) (hc : ∀ c ∈ cs, c.1.length ≤ 50) (hn : cs.length ≤ 10) : Drn (.leaf b cs) := by
  have h' := h
  cases h with
  | leaf g1 g2 g3 g4 g5 =>
    refine ⟨h', .leaf fun c q => (g2 c q).2, ?_⟩
    have := jn_le (l := ndW (.leaf b cs)) (M := 60) fun w hw => by
      rcases List.mem_cons.mp hw with e | hw
      · rw [e]; decide
      · rcases List.mem_cons.mp hw with e | hw
        · rw [e, List.length_cons]; omega
        · obtain ⟨c, q, hw⟩ := List.mem_flatMap.mp hw
          rcases List.mem_cons.mp hw with e | hw
          · rw [e, List.length_cons]
            have := hc c q
            omega
          · rw [List.mem_singleton.mp hw]
            exact dnumS_len (by decide) (g2 c q).2
    have l : (ndW (.leaf b cs)).length = 2 * cs.length + 2 := by
      show (leafW :: (61 :: b) :: cs.flatMap cellW).length = _
      rw [List.length_cons, List.length_cons, cells_len]
    unfold ntext
    rw [l] at this
    have : (2 * cs.length + 2) * (60 + 1) ≤ 22 * 61 := Nat.mul_le_mul_right _ (by omega)
    omega
theorem drn_branch {ms : List (List Nat)} {ks : List (Nat × Nat)} (h : NdOk (.branch ms ks)) (hb : ∀ w ∈ ms, w.length ≤ 50) (hn : ks.length ≤ 20) : Drn (.branch ms ks) := by
  have h' := h
  cases h with
  | branch g1 g2 g3 g4 =>
    refine ⟨h', .branch g1 fun k q => ⟨lt_60 (g4 k q).1, lt_60 (g4 k q).2⟩, ?_⟩
    have hw0 : ∀ (ms : List (List Nat)) (ks : List (Nat × Nat)), (∀ w ∈ ms, w.length ≤ 50) → (∀ k ∈ ks, k.1 < 10 ^ 6 ∧ k.2 < 10 ^ 6) → ∀ w ∈ brW ms ks, w.length ≤ 60 := fun ms => by
      have nl : ∀ {i : Nat}, i < 10 ^ 6 → (numS i).length ≤ 60 := fun h => Nat.le_trans (dnumS_len (k := 6) (by decide) h) (by decide)
      induction ms with
      | nil =>
        intro ks _ hk w h
        cases ks with
        | nil => simp [brW] at h
        | cons k ks =>
          rw [brW] at h
          have := hk k List.mem_cons_self
          rcases List.mem_cons.mp h with e | h
          · rw [e]; exact nl this.1
          · rw [List.mem_singleton.mp h]; exact nl this.2
      | cons m ms ih =>
        intro ks hm hk w h
        cases ks with
        | nil => simp [brW] at h
        | cons k ks =>
          rw [brW] at h
          have := hk k List.mem_cons_self
          rcases List.mem_cons.mp h with e | h
          · rw [e]; exact nl this.1
          · rcases List.mem_cons.mp h with e | h
            · rw [e]; exact nl this.2
            · rcases List.mem_cons.mp h with e | h
              · rw [e, List.length_cons]
                have := hm m List.mem_cons_self
                omega
              · exact ih ks (fun w hw => hm w (List.mem_cons_of_mem _ hw)) (fun w hw => hk w (List.mem_cons_of_mem _ hw)) w h
    have := jn_le (l := ndW (.branch ms ks)) (M := 60) fun w hw => by
      rcases List.mem_cons.mp hw with e | hw
      · rw [e]; decide
      · exact hw0 ms ks hb g4 w hw
    have l : (ndW (.branch ms ks)).length = 3 * ks.length := by
      show (branchW :: brW ms ks).length = _
      rw [List.length_cons, (ths_br g1).2.2.2]
    unfold ntext
    rw [l] at this
    have : (3 * ks.length) * (60 + 1) ≤ 60 * 61 := Nat.mul_le_mul_right _ (by omega)
    omega
section
variable {n : Nat} {m : Mu}
theorem cnd_nil {ns : List Int} {k : Int} {R : List (List Nat)} {b : List Nat} (i0 : idxD (.lst (R.map D.str)) (.int 0) = some (.str [])) : evT ⟨callF M sb n, sb⟩ B_359_c0 [some (SC ns), some (.int k), none, none, none, some (.lst (R.map D.str)), some (.str b), none, none, none] m = .ok false m := by
  by_cases q : R.length = 1
  · have q' : (R.length : Int) = 1 := by omega
    push_cast [B_359_c0, i0, q']
  · have q' : ¬ (R.length : Int) = 1 := by omega
    push_cast [B_359_c0, i0, q']
theorem cnd_one {ns : List Int} {k : Int} {R : List (List Nat)} {b x : List Nat} (i0 : idxD (.lst (R.map D.str)) (.int 0) = some (.str x)) (ne : x ≠ []) (q' : (R.length : Int) = 1) : evT ⟨callF M sb n, sb⟩ B_359_c0 [some (SC ns), some (.int k), none, none, none, some (.lst (R.map D.str)), some (.str b), none, none, none] m = .ok true m := by
  push_cast [B_359_c0, i0, q', ne]
theorem cnd_two {ns : List Int} {k : Int} {R : List (List Nat)} {b x z : List Nat} {c d : Nat} (i0 : idxD (.lst (R.map D.str)) (.int 0) = some (.str x)) (ne : x ≠ []) (q' : ¬ (R.length : Int) = 1) (i9 : idxD (.lst (R.map D.str)) (.int (-1)) = some (.str z)) (ic : idxD (.str x) (.int 0) = some (.str [c])) (id : idxD (.str z) (.int 0) = some (.str [d])) : evT ⟨callF M sb n, sb⟩ B_359_c0 [some (SC ns), some (.int k), none, none, none, some (.lst (R.map D.str)), some (.str b), none, none, none] m = .ok (decide ([c] = [d])) m := by
  push_cast [B_359_c0, i0, i9, q', ne, ic, id]
theorem bod {ns : List Int} {k : Int} {R : List (List Nat)} {b x : List Nat} {c : Nat} (i0 : idxD (.lst (R.map D.str)) (.int 0) = some (.str x)) (ic : idxD (.str x) (.int 0) = some (.str [c])) (s1 : binD .add (.str b) (.str [c]) = some (.str (b ++ [c]))) : evSs ⟨callF M sb n, sb⟩ B_359_b1 [some (SC ns), some (.int k), none, none, none, some (.lst (R.map D.str)), some (.str b), none, none, none] m = .nxt [some (SC ns), some (.int k), none, none, none, some (.lst (R.map fun w => D.str (w.drop 1))), some (.str (b ++ [c])), none, none, none] m := by
  push_cast [B_359_b1, i0, ic, s1, sl1_from]
theorem drawn_ok {ns : List Int} (hl : ns.length ≤ 63) {k : Nat} (hk : k ≤ 1000) : ∃ nd, Drn nd ∧ callF M sb (n + 2) 359 [SC ns, .int (k : Int)] m = .ok (ndD nd) m := by
  rw [u_359]
  have cc : ∀ {k : Int}, 0 ≤ k → k ≤ 10 ^ 9 → ∀ m, callF M sb (n + 1) 7 [SC ns, .int k] m = .ok (.int (cellV ns k)) m := fun h0 h1 m => cell_ok2 n hl h0 h1 m
  have c0 := cc (k := (k : Int)) (by omega) (by omega) m
  have lo := cellV_lo ns (k : Int)
  have hi := cellV_hi ns (k : Int)
  generalize cellV ns (k : Int) = c at *
  have r1 : rng1D (.int (c / 4 % 7)) = some ((List.range (c / 4 % 7).toNat).map fun k => D.int (k : Nat)) := rng1_i (by omega) (by omega)
  obtain ⟨ps, hp, lp, tr⟩ := qtrn_exG (f := fun x m' => cT ⟨callF M sb (n + 1), sb⟩ (.one 8) .no (.tup (.cons (.call 358 (.cons (.call 7 (.cons (.var 0) (.cons (.bin .add (.bin .add (.bin .mul (.lit (.int 100)) (.var 1)) (.lit (.int 700))) (.var 8)) .nil))) (.cons (.bin .mod (.bin .add (.var 8) (.bin .fdiv (.var 2) (.lit (.int 196)))) (.lit (.int 4))) .nil))) (.cons (.var 8) .nil))) [some (SC ns), some (.int k), some (.int c), some (.int (c / 4 % 7)), none, none, none, none, none, none] (.int (x : Nat)) m') (m := m) pairD (fun p => Sg p.1 ∧ p.1.length ≤ 3) (l := List.range (c / 4 % 7).toNat) (fun j hj => by
    have hj := List.mem_range.mp hj
    have e1 := cc (k := 100 * (k : Int) + 700 + (j : Int)) (by omega) (by omega) m
    obtain ⟨s, g1, g2, g3⟩ := rest_ok (n := n) (m := m) (cellV ns (100 * (k : Int) + 700 + (j : Int))) (k := (((j : Int) + c / 196) % 4).toNat) (by omega)
    rw [Int.toNat_of_nonneg (by omega)] at g3
    refine ⟨(s, j), ⟨g1, by show s.length ≤ 3; omega⟩, ?_⟩
    push_cast [e1, g3]
    rfl)
  rw [List.length_range] at lp
  obtain ⟨dl, R, d1, d2, hR, hRm, hRl⟩ := dict_sorted ps (by omega)
  have hRs : ∀ s ∈ R, Sg s ∧ s.length ≤ 3 := fun s hs => by
    obtain ⟨p, q, e⟩ := hRm s hs
    rw [← e]
    exact hp p q
  have hR6 : R.length ≤ 6 := by omega
  have tr' : trnL (cT ⟨callF M sb (n + 1), sb⟩ (.one 8) .no (.tup (.cons (.call 358 (.cons (.call 7 (.cons (.var 0) (.cons (.bin .add (.bin .add (.bin .mul (.lit (.int 100)) (.var 1)) (.lit (.int 700))) (.var 8)) .nil))) (.cons (.bin .mod (.bin .add (.var 8) (.bin .fdiv (.var 2) (.lit (.int 196)))) (.lit (.int 4))) .nil))) (.cons (.var 8) .nil))) [some (SC ns), some (.int k), some (.int c), some (.int (c / 4 % 7)), none, none, none, none, none, none]) ((List.range (c / 4 % 7).toNat).map fun k => D.int (k : Nat)) m .mk = .ok (ps.map pairD) m := by
    rw [trn_map]
    exact tr
  by_cases h4 : c % 4 = 0
  · have p6 : binD .pow (.int 10) (.int 6) = some (.int 1000000) := b_pow 10 6 (by decide) (by decide)
    have r2 : rng1D (.int ((R.length : Int) + 1)) = some ((List.range (R.length + 1)).map fun k => D.int (k : Nat)) := rng1_n (n := R.length + 1) (by omega)
    obtain ⟨ks, hks, lks, tk⟩ := qtrn_exG (f := fun x m' => cT ⟨callF M sb (n + 1), sb⟩ (.one 8) .no (.tup (.cons (.bin .mod (.call 7 (.cons (.var 0) (.cons (.bin .add (.lit (.int 40)) (.var 8)) .nil))) (.bin .pow (.lit (.int 10)) (.lit (.int 6)))) (.cons (.bin .mod (.call 7 (.cons (.var 0) (.cons (.bin .add (.bin .add (.lit (.int 60)) (.var 8)) (.var 1)) .nil))) (.lit (.int 500))) .nil))) [some (SC ns), some (.int k), some (.int c), some (.int (c / 4 % 7)), some (.dic dl), some (.lst (R.map D.str)), none, none, none, none] (.int (x : Nat)) m') (m := m) kidD (fun p => p.1 < 10 ^ 6 ∧ p.2 < 10 ^ 6) (l := List.range (R.length + 1)) (fun j hj => by
      have hj := List.mem_range.mp hj
      have e1 := cc (k := 40 + (j : Int)) (by omega) (by omega) m
      have e2 := cc (k := 60 + (j : Int) + (k : Int)) (by omega) (by omega) m
      have l1 := cellV_lo ns (40 + (j : Int))
      have l2 := cellV_lo ns (60 + (j : Int) + (k : Int))
      generalize cellV ns (40 + (j : Int)) = u at *
      generalize cellV ns (60 + (j : Int) + (k : Int)) = w at *
      refine ⟨((u % 1000000).toNat, (w % 500).toNat), ⟨by show (u % 1000000).toNat < 10 ^ 6; omega, by show (w % 500).toNat < 10 ^ 6; omega⟩, ?_⟩
      unfold kidD
      rw [Int.toNat_of_nonneg (by omega), Int.toNat_of_nonneg (by omega)]
      push_cast [e1, e2, p6])
    have tk' : trnL (cT ⟨callF M sb (n + 1), sb⟩ (.one 8) .no (.tup (.cons (.bin .mod (.call 7 (.cons (.var 0) (.cons (.bin .add (.lit (.int 40)) (.var 8)) .nil))) (.bin .pow (.lit (.int 10)) (.lit (.int 6)))) (.cons (.bin .mod (.call 7 (.cons (.var 0) (.cons (.bin .add (.bin .add (.lit (.int 60)) (.var 8)) (.var 1)) .nil))) (.lit (.int 500))) .nil))) [some (SC ns), some (.int k), some (.int c), some (.int (c / 4 % 7)), some (.dic dl), some (.lst (R.map D.str)), none, none, none, none]) ((List.range (R.length + 1)).map fun k => D.int (k : Nat)) m .mk = .ok (ks.map kidD) m := by
      rw [trn_map]
      exact tk
    rw [List.length_range] at lks
    refine ⟨.branch R ks, drn_branch (.branch lks (fun w hw => (hRs w hw).1) (ris_of_pw hR) hks) (fun w hw => by have := (hRs w hw).2; omega) (by omega), ?_⟩
    unfold ndD branchW
    push_cast [B_359, -trn_map, c0, r1, tr', d1, d2, h4, r2, tk']
  · obtain ⟨b0, g1, g2, g3⟩ := rest_ok (n := n) (m := m) (c / 28) (k := (c / 9 % 5).toNat) (by omega)
    rw [Int.toNat_of_nonneg (by omega)] at g3
    by_cases hR0 : R = []
    · subst hR0
      refine ⟨.leaf [] [], drn_leaf (.leaf (fun _ h => absurd h List.not_mem_nil) (fun _ h => absurd h List.not_mem_nil) rfl rfl fun _ => rfl) (by decide) (fun _ h => absurd h List.not_mem_nil) (by decide), ?_⟩
      rw [List.map_nil] at d2
      unfold ndD leafW
      push_cast [B_359, -trn_map, c0, r1, tr', d1, d2, h4, g3, c_eq00]
      rfl
    · have q0 : cmpD .eq (.lst (R.map D.str)) (.lst []) = some false := by
        rw [c_eqS0]
        cases R with
        | nil => exact absurd rfl hR0
        | cons _ _ => rfl
      obtain ⟨ρ', m', ew, R', b', w1, w2, w3, w4, w5, w6, w7, hρ, hm⟩ := whl_inv (c := fun ρ m => evT ⟨callF M sb (n + 1), sb⟩ B_359_c0 ρ m) (b := fun ρ m => evSs ⟨callF M sb (n + 1), sb⟩ B_359_b1 ρ m) (z := .mk) (y := .mk) (ρ := [some (SC ns), some (.int k), none, none, none, some (.lst (R.map D.str)), some (.str b0), none, none, none]) (m := m)
        (fun j ρ m' => ∃ (x : List Nat) (l : List (List Nat)) (b : List Nat), Rs (x :: l) ∧ (∀ s ∈ x :: l, Sg s ∧ s.length ≤ 3) ∧ l.length ≤ 5 ∧ Sg b ∧ b.length + j ≤ 10 ∧ x.length = j ∧ ρ = [some (SC ns), some (.int k), none, none, none, some (.lst ((x :: l).map D.str)), some (.str b), none, none, none] ∧ m' = m)
        (fun ρ m' => ∃ (R : List (List Nat)) (b : List Nat), Rs R ∧ (∀ s ∈ R, Sg s ∧ s.length ≤ 3) ∧ R.length ≤ 6 ∧ R ≠ [] ∧ Sg b ∧ b.length ≤ 10 ∧ shrV R = [] ∧ ρ = [some (SC ns), some (.int k), none, none, none, some (.lst (R.map D.str)), some (.str b), none, none, none] ∧ m' = m)
        (n := (R.getD 0 []).length) (by
          cases R with
          | nil => exact absurd rfl hR0
          | cons x l =>
            have := (hRs x List.mem_cons_self).2
            show x.length < 100000
            omega) (by
          cases R with
          | nil => exact absurd rfl hR0
          | cons x l =>
            have := (hRs x List.mem_cons_self).2
            rw [List.length_cons] at hR6
            exact ⟨x, l, b0, hR, hRs, by omega, g1, by show b0.length + x.length ≤ 10; omega, rfl, rfl, rfl⟩)
        (fun j ρ m' ⟨x, l, b, h1, h2, h3, h5, h6, h7, hρ, hm⟩ => by
          subst hρ hm
          have i0 : idxD (.lst ((x :: l).map D.str)) (.int 0) = some (.str x) := by rw [List.map_cons]; exact ix_l0
          have i9 := ix_last (x := x) (l := l)
          have rl := rs_last h1
          have stop : ((∃ l', x :: l = [] :: l') ∨ ∃ x' l' c d s t, x :: l = x' :: l' ∧ x' = c :: s ∧ (x' :: l').getLast (List.cons_ne_nil _ _) = d :: t ∧ c ≠ d) → shrV (x :: l) = [] := shr_end h1
          have post := fun h => (⟨x :: l, b, h1, h2, by rw [List.length_cons]; omega, List.cons_ne_nil _ _, h5, by omega, h, rfl, rfl⟩ : ∃ (R : List (List Nat)) (b' : List Nat), Rs R ∧ (∀ s ∈ R, Sg s ∧ s.length ≤ 3) ∧ R.length ≤ 6 ∧ R ≠ [] ∧ Sg b' ∧ b'.length ≤ 10 ∧ shrV R = [] ∧ [some (SC ns), some (.int k), none, none, none, some (.lst ((x :: l).map D.str)), some (.str b), none, none, none] = [some (SC ns), some (.int k), none, none, none, some (.lst (R.map D.str)), some (.str b'), none, none, none] ∧ m' = m')
          have body : ∀ {c : Nat} {s : List Nat}, x = c :: s → (∀ y ∈ x :: l, ∃ w, y = c :: w) → ∃ ρ2 m2, evSs ⟨callF M sb (n + 1), sb⟩ B_359_b1 [some (SC ns), some (.int k), none, none, none, some (.lst ((x :: l).map D.str)), some (.str b), none, none, none] m' = .nxt ρ2 m2 ∧ ∃ n', n' < j ∧ ∃ (x : List Nat) (l : List (List Nat)) (b : List Nat), Rs (x :: l) ∧ (∀ s ∈ x :: l, Sg s ∧ s.length ≤ 3) ∧ l.length ≤ 5 ∧ Sg b ∧ b.length + n' ≤ 10 ∧ x.length = n' ∧ ρ2 = [some (SC ns), some (.int k), none, none, none, some (.lst ((x :: l).map D.str)), some (.str b), none, none, none] ∧ m2 = m' := fun {c s} ex ha => by
            have s1 : binD .add (.str b) (.str [c]) = some (.str (b ++ [c])) := addS_b (by rw [List.length_singleton]; omega)
            have ic : idxD (.str x) (.int 0) = some (.str [c]) := by rw [ex]; exact ix_sn (i := 0) rfl
            have em : ((x :: l).map fun w => D.str (w.drop 1)) = (dr1 x :: l.map dr1).map D.str := by
              rw [List.map_cons, List.map_cons, List.map_map]; rfl
            have hx := h2 x List.mem_cons_self
            refine ⟨[some (SC ns), some (.int k), none, none, none, some (.lst ((dr1 x :: l.map dr1).map D.str)), some (.str (b ++ [c])), none, none, none], m', ?_, j - 1, by rw [ex, List.length_cons] at h7; omega, dr1 x, l.map dr1, b ++ [c], rs_chop h1 ha, fun y hy => ?_, by rw [List.length_map]; exact h3, fun y hy => ?_, ?_, ?_, rfl, rfl⟩
            · rw [← em]
              exact bod i0 ic s1
            · rw [← List.map_cons (f := dr1)] at hy
              obtain ⟨z, hz, e⟩ := List.mem_map.mp hy
              rw [← e]
              have := h2 z hz
              exact ⟨fun q hq => this.1 q (List.mem_of_mem_drop hq), by unfold dr1; rw [List.length_drop]; omega⟩
            · rcases List.mem_append.mp hy with hy | hy
              · exact h5 y hy
              · rw [List.mem_singleton.mp hy]
                exact hx.1 c (by rw [ex]; exact List.mem_cons_self)
            · rw [List.length_append, List.length_singleton]
              rw [ex, List.length_cons] at h7
              omega
            · unfold dr1
              rw [List.length_drop, h7]
          cases x with
          | nil =>
            left
            refine ⟨m', ?_, post (stop (.inl ⟨l, rfl⟩))⟩
            exact cnd_nil i0
          | cons c s =>
            have ic : idxD (.str (c :: s)) (.int 0) = some (.str [c]) := ix_sn (i := 0) rfl
            have ne : ¬ (c :: s : List Nat) = [] := List.cons_ne_nil _ _
            cases l with
            | nil =>
              right
              refine ⟨m', ?_, body rfl fun y hy => ⟨s, List.mem_singleton.mp hy⟩⟩
              exact cnd_one i0 ne rfl
            | cons y l =>
              have hz : ltS (c :: s) (((c :: s) :: y :: l).getLast (List.cons_ne_nil _ _)) = true := by
                rcases rl with q | q
                · exact absurd q.2 (List.cons_ne_nil _ _)
                · exact q
              cases hg : ((c :: s) :: y :: l).getLast (List.cons_ne_nil _ _) with
              | nil => rw [hg] at hz; exact absurd (ltS_iff.mp hz) (List.not_lt_nil _)
              | cons d t =>
                rw [hg] at i9
                have id : idxD (.str (d :: t)) (.int 0) = some (.str [d]) := ix_sn (i := 0) rfl
                have q' : ¬ (((c :: s) :: y :: l).length : Int) = 1 := by simp only [List.length_cons]; omega
                by_cases hcd : c = d
                · right
                  refine ⟨m', ?_, body rfl (rs_all h1 (by rw [hg, hcd]))⟩
                  rw [cnd_two i0 ne q' i9 ic id, decide_eq_true (by rw [hcd])]
                · left
                  refine ⟨m', ?_, post (stop (.inr ⟨c :: s, y :: l, c, d, s, t, rfl, rfl, hg, hcd⟩))⟩
                  rw [cnd_two i0 ne q' i9 ic id, decide_eq_false (fun q => hcd (by simpa using q))])
      subst hρ hm
      have hv : ∀ j : Nat, ∃ v : Nat, v < 10 ^ 60 ∧ (j ≤ 100 → callF M sb (n + 1) 141 [.int (cellV ns ((j : Int) + (k : Int)))] m' = .ok (.int (v : Nat)) m') := fun j => by
        obtain ⟨v, h1, h2⟩ := value_ok (n := n) (m := m') (cellV_lo ns ((j : Int) + (k : Int))) (cellV_hi ns ((j : Int) + (k : Int)))
        exact ⟨v, h1, fun _ => h2⟩
      obtain ⟨vf, hvf⟩ := Classical.axiomOfChoice hv
      have fs : ((List.range R'.length).map fun j => (R'.getD j [], vf j)).map (·.1) = R' := by
        refine List.ext_getElem? fun i => ?_
        rw [List.map_map, List.getElem?_map]
        by_cases h : i < R'.length
        · rw [List.getElem?_range h, List.getElem?_eq_getElem h]
          simp [List.getD_eq_getElem?_getD, List.getElem?_eq_getElem h]
        · rw [List.getElem?_eq_none (by rw [List.length_range]; omega), List.getElem?_eq_none (by omega)]
          rfl
      have mem : ∀ j ∈ List.range R'.length, R'.getD j [] ∈ R' := fun j hj => by
        have hj := List.mem_range.mp hj
        rw [List.getD_eq_getElem?_getD, List.getElem?_eq_getElem hj]
        exact List.getElem_mem hj
      refine ⟨.leaf b' ((List.range R'.length).map fun j => (R'.getD j [], vf j)), drn_leaf (.leaf w5 (fun c hc => ?_) (by rw [fs]; exact ris_of_pw w1) (by rw [fs]; exact w7) fun e => ?_) (by omega) (fun c hc => ?_) (by rw [List.length_map, List.length_range]; omega), ?_⟩
      · obtain ⟨j, hj, e⟩ := List.mem_map.mp hc
        rw [← e]
        exact ⟨(w2 _ (mem j hj)).1, (hvf j).1⟩
      · exfalso
        have := congrArg List.length e
        rw [List.length_map, List.length_range] at this
        exact w4 (List.length_eq_zero_iff.mp this)
      · obtain ⟨j, hj, e⟩ := List.mem_map.mp hc
        rw [← e]
        have := (w2 _ (mem j hj)).2
        show (R'.getD j []).length ≤ 50
        omega
      · have en := enum_strs R'
        have te : trnL (cT ⟨callF M sb (n + 1), sb⟩ (.many [8, 9]) .no (.tup (.cons (.var 9) (.cons (.call 141 (.cons (.call 7 (.cons (.var 0) (.cons (.bin .add (.var 8) (.var 1)) .nil))) .nil)) .nil))) [some (SC ns), some (.int k), none, none, none, some (.lst (R'.map D.str)), some (.str b'), none, none, none]) ((List.range R'.length).map fun j => .tup [.int (j : Nat), .str (R'.getD j [])]) m' .mk = .ok (((List.range R'.length).map fun j => (R'.getD j [], vf j)).map cellD) m' := by
          rw [trn_map, List.map_map]
          refine trnG_all _ fun j hj => ?_
          have hj := List.mem_range.mp hj
          have e1 := cc (k := (j : Int) + (k : Int)) (by omega) (by omega) m'
          have e2 := (hvf j).2 (by omega)
          show _ = Res.ok (some (D.tup [.str (R'.getD j []), .int (vf j : Nat)])) m'
          generalize R'.getD j [] = s at *
          push_cast [e1, e2]
        show _ = Res.ok (D.tup [.str [108, 101, 97, 102], .str b', .tup (((List.range R'.length).map fun j => (R'.getD j [], vf j)).map cellD)]) m'
        obtain ⟨CS, hCS⟩ : ∃ CS, CS = ((List.range R'.length).map fun j => (R'.getD j [], vf j)).map cellD := ⟨_, rfl⟩
        rw [← hCS] at te ⊢
        push_cast [B_359, -trn_map, c0, r1, tr', d1, d2, h4, g3, q0, ew, en, te]
end
end MP

set_option maxRecDepth 100000
set_option maxHeartbeats 4000000
set_option autoImplicit false
namespace MP
open PySem L2
local macro_rules
  | `(tactic| push_cast [$xs,*]) => `(tactic| simp (config := {dsimp := false, implicitDefEqProofs := false}) (disch := first | assumption | omega | (rw [sizeD_n]; omega) | decide) only [↓v_var, ↓v_lit, ↓v_glob, ↓v_bin, ↓v_cmp, ↓v_isN, ↓v_chain, ↓v_and, ↓v_or, ↓v_not, ↓v_ifx, ↓v_idx, ↓v_sl, ↓v_slS, ↓v_tup, ↓v_lst, ↓v_dic0, ↓v_comp, ↓v_cT, ↓v_cK, ↓v_call, ↓v_bi, ↓v_mth, ↓v_isi, ↓v_nil, ↓v_cons, ↓v_kno, ↓v_kyes, ↓v_pno, ↓v_pyes, ↓v_ie, ↓v_r1, ↓v_r2, ↓v_rev, ↓v_zip, ↓v_enum, ↓v_T, ↓w_asg, ↓w_own, ↓w_aug, ↓w_augS, ↓w_app, ↓w_appS, ↓w_drop, ↓w_ret, ↓w_retN, ↓w_ifs, ↓w_whl, ↓w_for, ↓w_rais, ↓w_tri, ↓v_isx, ↓w_asgX, ↓v_tzip, ↓v_rep, tz_ll, triF_n, triF_r, triF_e, triE_n, isx_n, isx_x, isNon_x, ↓w_pas, ↓w_fgt, ↓w_nil, ↓w_cons,
      bC_t, bC_f, bK_t, bK_f, bnd_o, bnd_e, bfl_o, bfl_e, sq_n, sq_r, sq_e, res_r, res_n, res_e, getS_s, intP_i, stO_s, runB_s, b_one, b_two, b_three, b_four, wp_one, wp_two, wp_three, mtOn_s, mtTxt, wipe_n, wipe_c, isNon_i, isNon_n, isNon_t, isNon_s, isNon_l, isNon_b, isNon_d, Res.opt_some, Res.calm_ok, Option.map_some, trn_map, trn_nil, trn_cons, consO_s, consO_n, trnG_map, trnG_fmap,
      List.set_cons_zero, List.set_cons_succ, List.getElem?_cons_zero, List.getElem?_cons_succ, List.length_cons, List.length_nil, List.length_map, List.length_range, List.map_map, Function.comp_def, b_add, b_sub, b_mul, b_mul2, b_div, b_mod, b_addS, b_addL, b_addT, a_add, a_sub, t_bl, t_int, t_str, t_lst, t_tup, t_non, len_l, len_t, len_s, it_l, it_t, it_s, rv_l, rv_t, ix_t0, ix_t1, ix_t2, ix_l0, ix_l1, ix_l2, bi_lt, bi_ll, bi_ls, bi_tl, bi_tt, bi_ib, bi_ii, bi_min, bi_max, bi_all, bi_any, bi_sum, c_lt, c_le, c_gt, c_ge, c_ltS, c_leS, c_gtS, c_geS, c_eqI, c_eqS, c_neI, c_neS, cl_i, cl_s, cl_b, cl_t, cl_l, cl_n, cl_d, tyD, List.any_cons, List.any_nil, Bool.not_true, Bool.not_false, Bool.or_false, Bool.or_true, Bool.false_or, Bool.true_or, bne_self_eq_false, bne_iff_ne, Bool.bne_true, Bool.bne_false, decide_true, decide_false, nc0, nc1, nc2, nc3, nc4, nc5, nc6, nc7, nc8, nc9, Nat.reduceAdd, Nat.reduceSub, Nat.reduceMul, Nat.reduceLT, Nat.reduceLeDiff, Int.reduceAdd, Int.reduceSub, Int.reduceMul, Int.reduceLT, Int.reduceLE, $xs,*])

/-! ### nodes are alike -/
theorem flats_cells : ∀ cs : List (List Nat × Nat), D.flats (cs.map cellD) = true
  | [] => rfl
  | c :: cs => by rw [List.map_cons, D.flats, flats_cells cs]; rfl
theorem flats_kids : ∀ cs : List (Nat × Nat), D.flats (cs.map kidD) = true
  | [] => rfl
  | c :: cs => by rw [List.map_cons, D.flats, flats_kids cs]; rfl
theorem nd_flat (nd : Nd) : (ndD nd).flat = true := by
  cases nd with
  | leaf b cs =>
    unfold ndD
    simp [D.flat, D.flats, flats_cells]
  | branch ms ks =>
    unfold ndD
    simp [D.flat, D.flats, flats_kids, flats_strs]
theorem deps_cells : ∀ cs : List (List Nat × Nat), D.deps (cs.map cellD) ≤ 1
  | [] => by decide
  | c :: cs => by
    rw [List.map_cons, D.deps]
    exact Nat.max_le.mpr ⟨by simp [cellD, D.dep, D.deps], deps_cells cs⟩
theorem deps_kids : ∀ cs : List (Nat × Nat), D.deps (cs.map kidD) ≤ 1
  | [] => by decide
  | c :: cs => by
    rw [List.map_cons, D.deps]
    exact Nat.max_le.mpr ⟨by simp [kidD, D.dep, D.deps], deps_kids cs⟩
theorem nd_dep (nd : Nd) : (ndD nd).dep ≤ 3 := by
  cases nd with
  | leaf b cs =>
    have := deps_cells cs
    unfold ndD
    rw [D.dep, D.deps, D.deps, D.deps, D.deps, D.dep, D.dep, D.dep]
    omega
  | branch ms ks =>
    have := deps_kids ks
    have h := deps_strs ms
    unfold ndD
    rw [D.dep, D.deps, D.deps, D.deps, D.deps, D.dep, D.dep, D.dep, h]
    omega
theorem eqv_cells : ∀ a b : List (List Nat × Nat), PyData.eqvAll (D.toPys (a.map cellD)) (D.toPys (b.map cellD)) = decide (a = b)
  | [], [] => rfl
  | [], _ :: _ => rfl
  | _ :: _, [] => rfl
  | p :: k, q :: l => by
    show (PyData.eqv (.tuple [.str (S p.1), .int (p.2 : Nat)]) (.tuple [.str (S q.1), .int (q.2 : Nat)]) && PyData.eqvAll (D.toPys (k.map cellD)) (D.toPys (l.map cellD))) = _
    rw [eqv_cells k l]
    obtain ⟨p1, p2⟩ := p
    obtain ⟨q1, q2⟩ := q
    by_cases h : p1 = q1
    · subst h
      by_cases h2 : p2 = q2
      · subst h2
        by_cases h3 : k = l <;> simp [PyData.eqv, PyData.eqvAll, h3]
      · have : ¬ ((p2 : Int) = (q2 : Int)) := fun e => h2 (by omega)
        simp [PyData.eqv, PyData.eqvAll, h2, this]
    · have : S p1 ≠ S q1 := fun q' => h (S_inj q')
      simp [PyData.eqv, PyData.eqvAll, h, this]
theorem eqv_kids : ∀ a b : List (Nat × Nat), PyData.eqvAll (D.toPys (a.map kidD)) (D.toPys (b.map kidD)) = decide (a = b)
  | [], [] => rfl
  | [], _ :: _ => rfl
  | _ :: _, [] => rfl
  | p :: k, q :: l => by
    show (PyData.eqv (.tuple [.int (p.1 : Nat), .int (p.2 : Nat)]) (.tuple [.int (q.1 : Nat), .int (q.2 : Nat)]) && PyData.eqvAll (D.toPys (k.map kidD)) (D.toPys (l.map kidD))) = _
    rw [eqv_kids k l]
    obtain ⟨p1, p2⟩ := p
    obtain ⟨q1, q2⟩ := q
    by_cases h : p1 = q1
    · subst h
      by_cases h2 : p2 = q2
      · subst h2
        by_cases h3 : k = l <;> simp [PyData.eqv, PyData.eqvAll, h3]
      · have : ¬ ((p2 : Int) = (q2 : Int)) := fun e => h2 (by omega)
        simp [PyData.eqv, PyData.eqvAll, h2, this]
    · have : ¬ ((p1 : Int) = (q1 : Int)) := fun e => h (by omega)
      simp [PyData.eqv, PyData.eqvAll, h, this]
theorem eqv_nd (a b : Nd) : PyData.eqv (ndD a).toPy (ndD b).toPy = true ↔ a = b := by
  cases a with
  | leaf x cs =>
    cases b with
    | leaf y ds =>
      show PyData.eqv (.tuple [.str (S leafW), .str (S x), .tuple (D.toPys (cs.map cellD))]) (.tuple [.str (S leafW), .str (S y), .tuple (D.toPys (ds.map cellD))]) = true ↔ _
      simp only [PyData.eqv, PyData.eqvAll, eqv_cells, Bool.and_true, Bool.and_eq_true, decide_eq_true_eq, beq_iff_eq, beq_self_eq_true, true_and, Nd.leaf.injEq]
      exact ⟨fun h => ⟨S_inj h.1, h.2⟩, fun h => ⟨by rw [h.1], h.2⟩⟩
    | branch ms ks =>
      show PyData.eqv (.tuple [.str (S leafW), .str (S x), .tuple (D.toPys (cs.map cellD))]) (.tuple [.str (S branchW), .tuple (D.toPys (ms.map D.str)), .tuple (D.toPys (ks.map kidD))]) = true ↔ _
      have : ¬ S leafW = S branchW := fun q => absurd (S_inj q) (by decide)
      simp [PyData.eqv, PyData.eqvAll, this]
  | branch ms ks =>
    cases b with
    | leaf y ds =>
      show PyData.eqv (.tuple [.str (S branchW), .tuple (D.toPys (ms.map D.str)), .tuple (D.toPys (ks.map kidD))]) (.tuple [.str (S leafW), .str (S y), .tuple (D.toPys (ds.map cellD))]) = true ↔ _
      have : ¬ S branchW = S leafW := fun q => absurd (S_inj q) (by decide)
      simp [PyData.eqv, PyData.eqvAll, this]
    | branch ms2 ks2 =>
      show PyData.eqv (.tuple [.str (S branchW), .tuple (D.toPys (ms.map D.str)), .tuple (D.toPys (ks.map kidD))]) (.tuple [.str (S branchW), .tuple (D.toPys (ms2.map D.str)), .tuple (D.toPys (ks2.map kidD))]) = true ↔ _
      simp only [PyData.eqv, PyData.eqvAll, eqv_kids, eqv_strs, Bool.and_true, Bool.and_eq_true, decide_eq_true_eq, beq_iff_eq, beq_self_eq_true, true_and, Nd.branch.injEq]
theorem c_eqNd {a b : Nd} (ha : NdOk a) (hb : NdOk b) : cmpD .eq (ndD a) (ndD b) = some (decide (ntext a = ntext b)) := by
  show eqD _ _ = _
  unfold eqD
  rw [if_pos ⟨nd_flat a, nd_flat b, .inl (Nat.le_trans (nd_dep a) (by decide))⟩]
  refine congrArg some ?_
  rw [Bool.eq_iff_iff, decide_eq_true_eq, eqv_nd]
  refine ⟨fun h => by rw [h], fun h => ?_⟩
  have e1 := rdT_ntext ha
  rw [h, rdT_ntext hb] at e1
  exact (Option.some.inj e1).symm
theorem alBs_of : ∀ {l : List D}, (∀ x ∈ l, alB x = true) → alBs l = true
  | [], _ => rfl
  | x :: l, h => by rw [alBs, h x List.mem_cons_self, alBs_of fun y hy => h y (List.mem_cons_of_mem _ hy)]; rfl
theorem nd_al {nd : Nd} (h : (ntext nd).length < 50000) (hv : NdV nd) : alB (ndD nd) = true := by
  have hc := jn_count (ndW nd)
  unfold ntext at h
  cases hv with
  | leaf hv =>
    rename_i b cs
    have l : (ndW (.leaf b cs)).length = 2 * cs.length + 2 := by
      show (leafW :: (61 :: b) :: cs.flatMap cellW).length = _
      rw [List.length_cons, List.length_cons, cells_len]
    have z : alBs (cs.map cellD) = true := alBs_of fun x hx => by
      obtain ⟨c, _, e⟩ := List.mem_map.mp hx
      rw [← e]; rfl
    unfold ndD
    simp only [alB, alBs, List.length_cons, List.length_nil, List.length_map, z, Bool.and_true, Bool.true_and, Bool.and_eq_true, decide_eq_true_eq]
    omega
  | branch hm hv =>
    rename_i ms ks
    have l : (ndW (.branch ms ks)).length = 3 * ks.length := by
      show (branchW :: brW ms ks).length = _
      rw [List.length_cons, (ths_br hm).2.2.2]
    have z : alBs (ks.map kidD) = true := alBs_of fun x hx => by
      obtain ⟨c, _, e⟩ := List.mem_map.mp hx
      rw [← e]; rfl
    have z2 : alBs (ms.map D.str) = true := alBs_of fun x hx => by
      obtain ⟨c, _, e⟩ := List.mem_map.mp hx
      rw [← e]; rfl
    unfold ndD
    simp only [alB, alBs, List.length_cons, List.length_nil, List.length_map, z, z2, Bool.and_true, Bool.true_and, Bool.and_eq_true, decide_eq_true_eq]
    omega
section
variable {n : Nat} {m : Mu}
theorem bdec {a b : Bool} : cmpD .ne (.bl a) (.bl b) = some (a != b) := qc_neB
theorem main81 {ns : List Int} (hl : ns.length ≤ 63) : callF M sb (n + 6) 375 [SC ns] [] = .ok (.bl true) [] := by
  rw [u_375]
  obtain ⟨N, hN, hN2⟩ : ∃ N : Nat, (if (ns.length : Int) < 20 then (ns.length : Int) else 20) + 2 = (N : Int) ∧ N ≤ 22 := by
    split
    · exact ⟨ns.length + 2, by omega, by omega⟩
    · exact ⟨22, rfl, by decide⟩
  have hr := rng1_n (n := N) (by omega)
  obtain ⟨L, hL, lL, tr⟩ := qtrn_exG (f := fun x m' => cT ⟨callF M sb (n + 5), sb⟩ (.one 4) .no (.call 359 (.cons (.var 0) (.cons (.var 4) .nil))) [some (SC ns), none, none, none, none, none, none] (.int (x : Nat)) m') (m := []) ndD Drn (l := List.range N) (fun j hj => by
    have hj := List.mem_range.mp hj
    obtain ⟨nd, h1, h2⟩ := drawn_ok (n := n + 3) (m := []) hl (k := j) (by omega)
    refine ⟨nd, h1, ?_⟩
    push_cast [h2])
  have tr' : trnL (cT ⟨callF M sb (n + 5), sb⟩ (.one 4) .no (.call 359 (.cons (.var 0) (.cons (.var 4) .nil))) [some (SC ns), none, none, none, none, none, none]) ((List.range N).map fun k => D.int (k : Nat)) [] .mk = .ok (L.map ndD) [] := by
    rw [trn_map]
    exact tr
  rw [List.length_range] at lL
  have nt : ∀ {nd : Nd}, nd ∈ L → callF M sb (n + 5) 349 [ndD nd] [] = .ok (.str (ntext nd)) [] := fun {nd} h => nodetext_ok (n := n + 3) (hL nd h).v (by have := (hL nd h).sz; omega)
  have loop1 := for_pre (tg := .one 3) (b := fun ρ m => evSs ⟨callF M sb (n + 5), sb⟩ B_375_b0 ρ m) (z := .mk) (enc := ndD) (l := L) (fun p => [none, some (.lst (L.map ndD)), some (.lst (p.map fun x => D.str (ntext x))), none, none, none, none]) (fun _ => []) (fun p x q e => by
    have hx : x ∈ L := by rw [e]; simp
    have hp : p.length ≤ L.length := by rw [e]; simp
    have d := hL x hx
    have t1 := nt hx
    have t2 := lnodetext_ok (n := n + 4) (m := []) d.v (by have := d.sz; omega)
    have t3 := nodeof_ok (n := n + 2) (m := []) (t := ntext x) (by have := d.sz; omega)
    rw [rdT_ntext d.ok, rdR_s] at t3
    have t4 := alike_self (m := []) 3 (d := ndD x) (n := n + 1) (nd_dep x) (nd_al (by have := d.sz; omega) d.v)
    have la : p.length < sizeD := by rw [sizeD_n]; omega
    have e2 : (p.map fun x => D.str (ntext x)) ++ [D.str (ntext x)] = (p ++ [x]).map fun x => D.str (ntext x) := by simp
    generalize ndD x = X at *
    generalize ntext x = T at *
    generalize (p.map ntext).map D.str = A at *
    push_cast [B_375_b0, t1, t2, t3, t4, la, e2])
  have eqN : ∀ j i, j < L.length → i < L.length → idxD (.lst (L.map ndD)) (.int (j : Int)) = some (ndD (L.getD j (.leaf [] []))) ∧ idxD (.lst (L.map fun x => D.str (ntext x))) (.int (j : Int)) = some (.str (ntext (L.getD j (.leaf [] [])))) ∧ L.getD j (.leaf [] []) ∈ L := fun j i hj hi => by
    refine ⟨ix_lm ndD _ hj, ?_, ?_⟩
    · exact ix_lm (fun x => D.str (ntext x)) _ hj
    · rw [List.getD_eq_getElem?_getD, List.getElem?_eq_getElem hj]
      exact List.getElem_mem hj
  have loop2 : ∀ j, j < L.length → runB (bindT (.one 4) (D.int (j : Nat)) [none, some (.lst (L.map ndD)), some (.lst (L.map fun x => D.str (ntext x))), none, none, none, none]) (fun ρ m => evSs ⟨callF M sb (n + 5), sb⟩ B_375_b2 ρ m) [] .mk = .nxt [none, some (.lst (L.map ndD)), some (.lst (L.map fun x => D.str (ntext x))), none, none, none, none] [] := fun j hj => by
    obtain ⟨a1, a2, a3⟩ := eqN j j hj hj
    have inner := for_const (tg := .one 6) (b := fun ρ m => evSs ⟨callF M sb (n + 5), sb⟩ B_375_b1 ρ m) (z := .mk) (enc := fun i => .int (i : Nat)) (ρ := [none, some (.lst (L.map ndD)), some (.lst (L.map fun x => D.str (ntext x))), none, some (.int (j : Nat)), none, none]) (m := []) (l := List.range j) (fun i hi => by
      have hi := List.mem_range.mp hi
      obtain ⟨b1, b2, b3⟩ := eqN i i (by omega) (by omega)
      have e := c_eqNd (hL _ a3).ok (hL _ b3).ok
      generalize ndD (L.getD j (.leaf [] [])) = X at *
      generalize ndD (L.getD i (.leaf [] [])) = Y at *
      generalize ntext (L.getD j (.leaf [] [])) = T at *
      generalize ntext (L.getD i (.leaf [] [])) = U at *
      have e2 : cmpD .ne (.bl (decide (T = U))) (.bl (decide (T = U))) = some false := by rw [qc_neB, bne_self_eq_false]
      push_cast [B_375_b1, a1, a2, b1, b2, e, e2])
    have r := rng1_n (n := j) (by omega)
    push_cast [B_375_b2, r, inner]
  have loop2 := for_const (tg := .one 4) (b := fun ρ m => evSs ⟨callF M sb (n + 5), sb⟩ B_375_b2 ρ m) (z := .mk) (enc := fun i => .int (i : Nat)) (ρ := [none, some (.lst (L.map ndD)), some (.lst (L.map fun x => D.str (ntext x))), none, none, none, none]) (m := []) (l := List.range L.length) (fun j hj => loop2 j (List.mem_range.mp hj))
  have r2 := rng1_n (n := L.length) (by omega)
  have te : trnL (cT ⟨callF M sb (n + 5), sb⟩ (.one 3) .no (.call 349 (.cons (.var 3) .nil)) [none, some (.lst (L.map ndD)), some (.lst (L.map fun x => D.str (ntext x))), none, none, none, none]) (L.map ndD) [] .mk = .ok (L.map fun x => D.str (ntext x)) [] := by
    rw [trn_map]
    refine trnG_all _ fun x hx => ?_
    have t1 := nt hx
    show _ = Res.ok (some (D.str (ntext x))) []
    generalize ndD x = X at *
    push_cast [t1]
  have e9 := c_eqSs (k := L.map ntext) (l := L.map ntext)
  rw [decide_eq_true rfl, List.map_map] at e9
  have e9 : cmpD .eq (.lst (L.map fun x => D.str (ntext x))) (.lst (L.map fun x => D.str (ntext x))) = some true := e9
  rw [List.map_nil] at loop1
  push_cast [B_375, -trn_map, hN, hr, tr', loop1, r2, loop2, te, e9]
end
end MP

set_option maxRecDepth 100000
set_option maxHeartbeats 4000000
set_option autoImplicit false
namespace MP
open PySem L2
local macro_rules
  | `(tactic| push_cast [$xs,*]) => `(tactic| simp (config := {dsimp := false, implicitDefEqProofs := false}) (disch := first | assumption | omega | (rw [sizeD_n]; omega) | decide) only [↓v_var, ↓v_lit, ↓v_glob, ↓v_bin, ↓v_cmp, ↓v_isN, ↓v_chain, ↓v_and, ↓v_or, ↓v_not, ↓v_ifx, ↓v_idx, ↓v_sl, ↓v_slS, ↓v_tup, ↓v_lst, ↓v_dic0, ↓v_comp, ↓v_cT, ↓v_cK, ↓v_call, ↓v_bi, ↓v_mth, ↓v_isi, ↓v_nil, ↓v_cons, ↓v_kno, ↓v_kyes, ↓v_pno, ↓v_pyes, ↓v_ie, ↓v_r1, ↓v_r2, ↓v_rev, ↓v_zip, ↓v_enum, ↓v_T, ↓w_asg, ↓w_own, ↓w_aug, ↓w_augS, ↓w_app, ↓w_appS, ↓w_drop, ↓w_ret, ↓w_retN, ↓w_ifs, ↓w_whl, ↓w_for, ↓w_rais, ↓w_tri, ↓v_isx, ↓w_asgX, ↓v_tzip, ↓v_rep, tz_ll, triF_n, triF_r, triF_e, triE_n, isx_n, isx_x, isNon_x, ↓w_pas, ↓w_fgt, ↓w_nil, ↓w_cons,
      bC_t, bC_f, bK_t, bK_f, bnd_o, bnd_e, bfl_o, bfl_e, sq_n, sq_r, sq_e, res_r, res_n, res_e, getS_s, intP_i, stO_s, runB_s, b_one, b_two, b_three, b_four, wp_one, wp_two, wp_three, mtOn_s, mtTxt, wipe_n, wipe_c, isNon_i, isNon_n, isNon_t, isNon_s, isNon_l, isNon_b, isNon_d, Res.opt_some, Res.calm_ok, Option.map_some, trn_map, trn_nil, trn_cons, consO_s, consO_n, trnG_map, trnG_fmap,
      List.set_cons_zero, List.set_cons_succ, List.getElem?_cons_zero, List.getElem?_cons_succ, List.length_cons, List.length_nil, List.length_map, List.length_range, List.map_map, Function.comp_def, b_add, b_sub, b_mul, b_mul2, b_div, b_mod, b_addS, b_addL, b_addT, a_add, a_sub, t_bl, t_int, t_str, t_lst, t_tup, t_non, len_l, len_t, len_s, it_l, it_t, it_s, rv_l, rv_t, ix_t0, ix_t1, ix_t2, ix_l0, ix_l1, ix_l2, bi_lt, bi_ll, bi_ls, bi_tl, bi_tt, bi_ib, bi_ii, bi_min, bi_max, bi_all, bi_any, bi_sum, c_lt, c_le, c_gt, c_ge, c_ltS, c_leS, c_gtS, c_geS, c_eqI, c_eqS, c_neI, c_neS, cl_i, cl_s, cl_b, cl_t, cl_l, cl_n, cl_d, tyD, List.any_cons, List.any_nil, Bool.not_true, Bool.not_false, Bool.or_false, Bool.or_true, Bool.false_or, Bool.true_or, bne_self_eq_false, bne_iff_ne, Bool.bne_true, Bool.bne_false, decide_true, decide_false, nc0, nc1, nc2, nc3, nc4, nc5, nc6, nc7, nc8, nc9, Nat.reduceAdd, Nat.reduceSub, Nat.reduceMul, Nat.reduceLT, Nat.reduceLeDiff, Int.reduceAdd, Int.reduceSub, Int.reduceMul, Int.reduceLT, Int.reduceLE, $xs,*])

theorem ndO_s {nd : Nd} : ndO (some nd) = ndD nd := rfl
theorem ndO_n : ndO none = .non := rfl
theorem rdLeaf_un {ws : List (List Nat)} (h1 : ws.length % 2 = 0) (h2 : txtOk (ws.getD 1 []) = true) (h3 : (evs (ws.drop 2)).all txtOk = true) (h4 : (evs (ws.drop 3)).all (numOk 60) = true) : rdLeaf ws = if risR ((evs (ws.drop 2)).map dr1) && (shrV ((evs (ws.drop 2)).map dr1)).isEmpty && (!((evs (ws.drop 2)).map dr1).isEmpty || (dr1 (ws.getD 1 [])).isEmpty) then some (.leaf (dr1 (ws.getD 1 [])) (List.zip ((evs (ws.drop 2)).map dr1) ((evs (ws.drop 3)).map valD))) else none := by
  unfold rdLeaf
  rw [h2, h3, h4, decide_eq_true h1, List.isEmpty_map]
  rfl
/-- the last part of a leaf's reading -/
def R_364 : Sts := match B_364 with
  | .cons _ (.cons _ (.cons _ r)) => r
  | r => r
section
variable {n : Nat} {m : Mu}
/-- the leaf's last part, by its texts and values -/
theorem lleaf_rest {W : D} {b : List Nat} {R : List (List Nat)} {V : List Nat} (hr : risR R = true) (hl : V.length = R.length) (hs : R.length ≤ 50000) :
    (evSs ⟨callF M sb (n + 1), sb⟩ R_364 [some W, some (.lst ((b :: R).map D.str)), some (.lst (V.map fun i => D.int (i : Nat))), none, none, none, none] m).res = .ok (ndO (if (shrV R).isEmpty && (!R.isEmpty || b.isEmpty) then some (.leaf b (List.zip R V)) else none)) m := by
  have i0 : idxD (.lst ((b :: R).map D.str)) (.int 0) = some (.str b) := by rw [List.map_cons]; exact ix_l0
  have sF : slD (.lst ((b :: R).map D.str)) (some 1) none = some (.lst (R.map D.str)) := by
    have := slLf ((b :: R).map D.str) 1
    rw [nc1] at this
    rw [this]
    rfl
  have tF : trnL (cT ⟨callF M sb (n + 1), sb⟩ (.one 5) .no (.sl (.var 5) .no (.yes (.lit (.int 1)))) [some W, some (.lst ((b :: R).map D.str)), some (.lst (V.map fun i => D.int (i : Nat))), none, none, none, none]) (R.map D.str) m .mk = .ok ((R.map fun w => w.take 1).map D.str) m := by
    rw [trn_map, List.map_map]
    refine trnG_all _ fun x hx => ?_
    push_cast [sl1_to]
  have eF : cmpD .eq (.lst ((R.map fun w => w.take 1).map D.str)) (.lst [.str []]) = some (decide ((R.map fun w => w.take 1) = [[]])) := c_eqSs (l := [[]])
  have hz := zip_cells R V
  cases R with
  | nil =>
    have hV : V = [] := List.length_eq_zero_iff.mp hl
    subst hV
    by_cases hb : b = []
    · subst hb
      push_cast [R_364, B_364, -trn_map, i0]
      rfl
    · have hb' : b.isEmpty = false := by cases b with | nil => exact absurd rfl hb | cons _ _ => rfl
      push_cast [R_364, B_364, -trn_map, i0, hb]
      rw [hb']
      rfl
  | cons x r =>
    cases V with
    | nil => simp at hl
    | cons v V =>
      have i1 : idxD (.lst ((b :: x :: r).map D.str)) (.int 1) = some (.str x) := by rw [List.map_cons, List.map_cons]; exact ix_l1
      have v0 : idxD (.lst ((v :: V).map fun i => D.int (i : Nat))) (.int 0) = some (.int (v : Nat)) := by rw [List.map_cons]; exact ix_l0
      have q1 : ¬ (((b :: x :: r).length : Nat) : Int) = 1 := by simp only [List.length_cons]; omega
      have hE : (!(x :: r).isEmpty || b.isEmpty) = true := rfl
      rw [hE, Bool.and_true]
      cases r with
      | nil =>
        have hV : V = [] := by
          rw [List.length_cons, List.length_singleton] at hl
          exact List.length_eq_zero_iff.mp (by omega)
        subst hV
        have hsh : shrV [x] = x := by rw [shr_ris rfl]; exact lcp_self x
        rw [hsh]
        have q2 : (((b :: [x]).length : Nat) : Int) = 2 := rfl
        by_cases hx : x = []
        · subst hx
          have eF' : cmpD .eq (.lst ((([[]] : List (List Nat)).map fun w => w.take 1).map D.str)) (.lst [.str []]) = some true := eF
          obtain ⟨TL, hTL⟩ : ∃ TL, TL = (b :: ([[]] : List (List Nat))).map D.str := ⟨_, rfl⟩
          obtain ⟨RL, hRL⟩ : ∃ RL, RL = ([[]] : List (List Nat)).map D.str := ⟨_, rfl⟩
          obtain ⟨FL, hFL⟩ : ∃ FL, FL = (([[]] : List (List Nat)).map fun w => w.take 1).map D.str := ⟨_, rfl⟩
          obtain ⟨VL, hVL⟩ : ∃ VL, VL = [v].map fun i => D.int (i : Nat) := ⟨_, rfl⟩
          have q1 : ¬ ((TL.length : Nat) : Int) = 1 := by rw [hTL, List.length_map]; exact q1
          rw [← hTL, ← hVL] at tF ⊢
          rw [← hTL] at i0 i1 sF
          rw [← hRL] at tF sF
          rw [← hFL] at tF eF'
          rw [← hVL] at v0
          push_cast [R_364, B_364, -trn_map, q1, sF, tF, eF', i0, i1, v0]
          rfl
        · have hx' : x.isEmpty = false := by cases x with | nil => exact absurd rfl hx | cons _ _ => rfl
          have eF' : cmpD .eq (.lst (([x].map fun w => w.take 1).map D.str)) (.lst [.str []]) = some false := by
            rw [eF, decide_eq_false]
            intro q
            cases x with
            | nil => exact hx rfl
            | cons _ _ => simp at q
          obtain ⟨TL, hTL⟩ : ∃ TL, TL = (b :: [x]).map D.str := ⟨_, rfl⟩
          obtain ⟨RL, hRL⟩ : ∃ RL, RL = [x].map D.str := ⟨_, rfl⟩
          obtain ⟨FL, hFL⟩ : ∃ FL, FL = ([x].map fun w => w.take 1).map D.str := ⟨_, rfl⟩
          obtain ⟨VL, hVL⟩ : ∃ VL, VL = [v].map fun i => D.int (i : Nat) := ⟨_, rfl⟩
          have q1 : ¬ ((TL.length : Nat) : Int) = 1 := by rw [hTL, List.length_map]; exact q1
          have q2 : ((TL.length : Nat) : Int) = 2 := by rw [hTL, List.length_map]; exact q2
          rw [← hTL, ← hVL] at tF ⊢
          rw [← hTL] at i0 i1 sF
          rw [← hRL] at tF sF
          rw [← hFL] at tF eF'
          rw [← hVL] at v0
          rw [hx']
          have n21 : ¬ (2 : Int) = 1 := by decide
          push_cast [R_364, B_364, -trn_map, n21, q2, sF, tF, eF', i0, i1, v0, hx]
          rfl
      | cons y r =>
        have hlt : ltS x ((x :: y :: r).getLast (List.cons_ne_nil _ _)) = true := by
          refine ris_lt hr _ ?_
          rw [List.getLast_cons (List.cons_ne_nil _ _)]
          exact List.getLast_mem _
        have hsh := shr_ris hr
        have hiff := lcp_nil_iff hlt
        rw [← hsh] at hiff
        have q2 : ¬ (((b :: x :: y :: r).length : Nat) : Int) = 2 := by simp only [List.length_cons]; omega
        have q3 : (2 : Int) < (((b :: x :: y :: r).length : Nat) : Int) := by simp only [List.length_cons]; omega
        have eF' : cmpD .eq (.lst (((x :: y :: r).map fun w => w.take 1).map D.str)) (.lst [.str []]) = some false := by
          rw [eF, decide_eq_false]
          intro q
          simp at q
        have f0 : idxD (.lst (((x :: y :: r).map fun w => w.take 1).map D.str)) (.int 0) = some (.str (x.take 1)) := by rw [List.map_cons, List.map_cons]; exact ix_l0
        have f9 : idxD (.lst (((x :: y :: r).map fun w => w.take 1).map D.str)) (.int (-1)) = some (.str (((x :: y :: r).getLast (List.cons_ne_nil _ _)).take 1)) := by
          have h1 : idxD (.lst (((x :: y :: r).map fun w => w.take 1).map D.str)) (.int (-1)) = some (.str ((x.take 1 :: (y :: r).map fun w => w.take 1).getLast (List.cons_ne_nil _ _))) := ix_last
          refine h1.trans (congrArg (fun z => some (D.str z)) ?_)
          exact List.getLast_map (f := fun w : List Nat => w.take 1) (l := x :: y :: r) (by simp)
        have tC : trnL (cT ⟨callF M sb (n + 1), sb⟩ (.one 6) .no (.tup (.cons (.idx (.var 1) (.bin .add (.var 6) (.lit (.int 1)))) (.cons (.idx (.var 2) (.var 6)) .nil))) [some W, some (.lst ((b :: x :: y :: r).map D.str)), some (.lst ((v :: V).map fun i => D.int (i : Nat))), some (.lst (((x :: y :: r).map fun w => w.take 1).map D.str)), none, none, none]) ((List.range (v :: V).length).map fun k => D.int (k : Nat)) m .mk = .ok ((List.zip (x :: y :: r) (v :: V)).map cellD) m := by
          have ez : (List.zip (x :: y :: r) (v :: V)).map cellD = (List.range (v :: V).length).map fun k => D.tup [.str ((x :: y :: r).getD k []), .int (((v :: V).getD k 0 : Nat) : Int)] := by
            refine List.ext_getElem? fun i => ?_
            rw [List.getElem?_map, List.getElem?_map]
            by_cases h : i < (v :: V).length
            · have h2 : i < (x :: y :: r).length := by omega
              have hz : (List.zip (x :: y :: r) (v :: V))[i]? = some ((x :: y :: r)[i], (v :: V)[i]) := List.getElem?_zip_eq_some.mpr ⟨List.getElem?_eq_getElem h2, List.getElem?_eq_getElem h⟩
              rw [List.getElem?_range h, hz]
              show some (cellD _) = some (D.tup [.str ((x :: y :: r).getD i []), .int (((v :: V).getD i 0 : Nat) : Int)])
              rw [List.getD_eq_getElem?_getD, List.getD_eq_getElem?_getD, List.getElem?_eq_getElem h, List.getElem?_eq_getElem h2]
              rfl
            · rw [List.getElem?_eq_none (by rw [List.length_zip]; omega), List.getElem?_eq_none (by rw [List.length_range]; omega)]
              rfl
          rw [ez, trn_map]
          refine trnG_all _ fun k hk => ?_
          have hk := List.mem_range.mp hk
          have a1 : idxD (.lst ((b :: x :: y :: r).map D.str)) (.int ((k : Int) + 1)) = some (.str ((x :: y :: r).getD k [])) := by
            have := ix_lm D.str [] (l := b :: x :: y :: r) (k := k + 1) (by rw [List.length_cons]; omega)
            exact this
          have a2 : idxD (.lst ((v :: V).map fun i => D.int (i : Nat))) (.int (k : Int)) = some (.int (((v :: V).getD k 0 : Nat) : Int)) := ix_lm (fun i => D.int (i : Nat)) 0 hk
          generalize (x :: y :: r).getD k [] = s at *
          generalize (v :: V).getD k 0 = u at *
          generalize (b :: x :: y :: r).map D.str = TL at *
          generalize ((v :: V).map fun i => D.int (i : Nat)) = VL at *
          push_cast [a1, a2]
        have rV := rng1_n (n := (v :: V).length) (by omega)
        obtain ⟨CL, hCL⟩ : ∃ CL, CL = (List.zip (x :: y :: r) (v :: V)).map cellD := ⟨_, rfl⟩
        obtain ⟨TL, hTL⟩ : ∃ TL, TL = (b :: x :: y :: r).map D.str := ⟨_, rfl⟩
        obtain ⟨RL, hRL⟩ : ∃ RL, RL = (x :: y :: r).map D.str := ⟨_, rfl⟩
        obtain ⟨FL, hFL⟩ : ∃ FL, FL = ((x :: y :: r).map fun w => w.take 1).map D.str := ⟨_, rfl⟩
        obtain ⟨VL, hVL⟩ : ∃ VL, VL = (v :: V).map fun i => D.int (i : Nat) := ⟨_, rfl⟩
        have lV : (v :: V).length = VL.length := by rw [hVL, List.length_map]
        have q1 : ¬ ((TL.length : Nat) : Int) = 1 := by rw [hTL, List.length_map]; exact q1
        have q2 : ¬ ((TL.length : Nat) : Int) = 2 := by rw [hTL, List.length_map]; exact q2
        have q3 : (2 : Int) < ((TL.length : Nat) : Int) := by rw [hTL, List.length_map]; exact q3
        rw [← hTL, ← hVL] at tF ⊢
        rw [← hTL] at i0 i1 sF
        rw [← hRL] at tF sF
        rw [← hFL] at tF eF' f0 f9
        rw [← hVL] at v0
        rw [← hTL, ← hVL, ← hFL, ← hCL, lV] at tC
        rw [lV] at rV
        by_cases he : x.take 1 = ((x :: y :: r).getLast (List.cons_ne_nil _ _)).take 1
        · have hs : (shrV (x :: y :: r)).isEmpty = false := by
            cases h : shrV (x :: y :: r) with
            | nil => exact absurd he (hiff.mp h)
            | cons _ _ => rfl
          rw [hs]
          generalize ((x :: y :: r).getLast (List.cons_ne_nil _ _)).take 1 = z at *
          push_cast [R_364, B_364, -trn_map, q1, q2, q3, sF, tF, eF', i0, i1, v0, f0, f9, he]
          rfl
        · have hs : shrV (x :: y :: r) = [] := hiff.mpr he
          rw [hs]
          show _ = Res.ok (D.tup [.str leafW, .str b, .tup ((List.zip (x :: y :: r) (v :: V)).map cellD)]) m
          rw [← hCL]
          unfold leafW
          generalize ((x :: y :: r).getLast (List.cons_ne_nil _ _)).take 1 = z at *
          push_cast [R_364, B_364, -trn_map, q1, q2, q3, sF, tF, eF', i0, i1, v0, f0, f9, he, rV, tC]
end
end MP

set_option maxRecDepth 100000
set_option maxHeartbeats 4000000
set_option autoImplicit false
namespace MP
open PySem L2
local macro_rules
  | `(tactic| push_cast [$xs,*]) => `(tactic| simp (config := {dsimp := false, implicitDefEqProofs := false}) (disch := first | assumption | omega | (rw [sizeD_n]; omega) | decide) only [↓v_var, ↓v_lit, ↓v_glob, ↓v_bin, ↓v_cmp, ↓v_isN, ↓v_chain, ↓v_and, ↓v_or, ↓v_not, ↓v_ifx, ↓v_idx, ↓v_sl, ↓v_slS, ↓v_tup, ↓v_lst, ↓v_dic0, ↓v_comp, ↓v_cT, ↓v_cK, ↓v_call, ↓v_bi, ↓v_mth, ↓v_isi, ↓v_nil, ↓v_cons, ↓v_kno, ↓v_kyes, ↓v_pno, ↓v_pyes, ↓v_ie, ↓v_r1, ↓v_r2, ↓v_rev, ↓v_zip, ↓v_enum, ↓v_T, ↓w_asg, ↓w_own, ↓w_aug, ↓w_augS, ↓w_app, ↓w_appS, ↓w_drop, ↓w_ret, ↓w_retN, ↓w_ifs, ↓w_whl, ↓w_for, ↓w_rais, ↓w_tri, ↓v_isx, ↓w_asgX, ↓v_tzip, ↓v_rep, tz_ll, triF_n, triF_r, triF_e, triE_n, isx_n, isx_x, isNon_x, ↓w_pas, ↓w_fgt, ↓w_nil, ↓w_cons,
      bC_t, bC_f, bK_t, bK_f, bnd_o, bnd_e, bfl_o, bfl_e, sq_n, sq_r, sq_e, res_r, res_n, res_e, getS_s, intP_i, stO_s, runB_s, b_one, b_two, b_three, b_four, wp_one, wp_two, wp_three, mtOn_s, mtTxt, wipe_n, wipe_c, isNon_i, isNon_n, isNon_t, isNon_s, isNon_l, isNon_b, isNon_d, Res.opt_some, Res.calm_ok, Option.map_some, trn_map, trn_nil, trn_cons, consO_s, consO_n, trnG_map, trnG_fmap,
      List.set_cons_zero, List.set_cons_succ, List.getElem?_cons_zero, List.getElem?_cons_succ, List.length_cons, List.length_nil, List.length_map, List.length_range, List.map_map, Function.comp_def, b_add, b_sub, b_mul, b_mul2, b_div, b_mod, b_addS, b_addL, b_addT, a_add, a_sub, t_bl, t_int, t_str, t_lst, t_tup, t_non, len_l, len_t, len_s, it_l, it_t, it_s, rv_l, rv_t, ix_t0, ix_t1, ix_t2, ix_l0, ix_l1, ix_l2, bi_lt, bi_ll, bi_ls, bi_tl, bi_tt, bi_ib, bi_ii, bi_min, bi_max, bi_all, bi_any, bi_sum, c_lt, c_le, c_gt, c_ge, c_ltS, c_leS, c_gtS, c_geS, c_eqI, c_eqS, c_neI, c_neS, cl_i, cl_s, cl_b, cl_t, cl_l, cl_n, cl_d, tyD, List.any_cons, List.any_nil, Bool.not_true, Bool.not_false, Bool.or_false, Bool.or_true, Bool.false_or, Bool.true_or, bne_self_eq_false, bne_iff_ne, Bool.bne_true, Bool.bne_false, decide_true, decide_false, nc0, nc1, nc2, nc3, nc4, nc5, nc6, nc7, nc8, nc9, Nat.reduceAdd, Nat.reduceSub, Nat.reduceMul, Nat.reduceLT, Nat.reduceLeDiff, Int.reduceAdd, Int.reduceSub, Int.reduceMul, Int.reduceLT, Int.reduceLE, $xs,*])

section
variable {n : Nat} {m : Mu}
def gT (w : List Nat) : D := if txtOk w = true then .str (dr1 w) else .non
def gN (k : Nat) (w : List Nat) : D := if numOk k w = true then .int (valD w : Nat) else .non
theorem gT_all {l : List (List Nat)} (h : l.all txtOk = true) : l.map gT = (l.map dr1).map D.str := by
  rw [List.map_map]
  exact List.map_congr_left fun x hx => by unfold gT; rw [if_pos (List.all_eq_true.mp h x hx)]; rfl
theorem gN_all {k : Nat} {l : List (List Nat)} (h : l.all (numOk k) = true) : l.map (gN k) = (l.map valD).map fun i => D.int (i : Nat) := by
  rw [List.map_map]
  exact List.map_congr_left fun x hx => by unfold gN; rw [if_pos (List.all_eq_true.mp h x hx)]; rfl
theorem in_gT (l : List (List Nat)) : cmpD .isin .non (.lst (l.map gT)) = some (!l.all txtOk) := none_inS txtOk dr1 l
theorem in_gN (k : Nat) (l : List (List Nat)) : cmpD .isin .non (.lst (l.map (gN k))) = some (!l.all (numOk k)) := none_inI (numOk k) valD l
theorem tr_gT {i : Nat} {ρ : Env'} (hρ : i < ρ.length) (l : List (List Nat)) : trnL (cT ⟨callF M sb (n + 1), sb⟩ (.one i) .no (.call 362 (.cons (.var i) .nil)) ρ) (l.map D.str) m .mk = .ok (l.map gT) m := by
  rw [trn_map]
  refine trnG_all _ fun x hx => ?_
  have hg : ((ρ.set i none).set i (some (D.str x)))[i]? = some (some (.str x)) := by
    rw [List.getElem?_set_self (by rw [List.length_set]; exact hρ)]
  have p := plain_ok (n := n) (m := m) (w := x)
  rw [v_cT, b_one, wp_one, v_cK]
  generalize (ρ.set i none).set i (some (D.str x)) = ρ' at *
  show _ = Res.ok (some (if txtOk x = true then D.str (x.drop 1) else D.non)) m
  push_cast [hg, p]
theorem tr_gN {i k : Nat} {ρ : Env'} (hρ : i < ρ.length) (hk : k ≤ 600) (l : List (List Nat)) : trnL (cT ⟨callF M sb (n + 1), sb⟩ (.one i) .no (.call 361 (.cons (.var i) (.cons (.lit (.int (k : Int))) .nil))) ρ) (l.map D.str) m .mk = .ok (l.map (gN k)) m := by
  rw [trn_map]
  refine trnG_all _ fun x hx => ?_
  have hg : ((ρ.set i none).set i (some (D.str x)))[i]? = some (some (.str x)) := by
    rw [List.getElem?_set_self (by rw [List.length_set]; exact hρ)]
  have p := fig_ok (n := n) (m := m) (w := x) hk
  rw [v_cT, b_one, wp_one, v_cK]
  generalize (ρ.set i none).set i (some (D.str x)) = ρ' at *
  show _ = Res.ok (some (if numOk k x = true then D.int (valD x : Nat) else D.non)) m
  push_cast [hg, p]
theorem lleaf_ok {ws : List (List Nat)} (h0 : ws ≠ []) (hl : ws.length ≤ 50000) : callF M sb (n + 2) 364 [.lst (ws.map D.str)] m = .ok (ndO (rdLeaf ws)) m := by
  rw [u_364]
  have e12 : slD (.lst (ws.map D.str)) (some 1) (some 2) = some (.lst (((ws.drop 1).take 1).map D.str)) := by
    have := slL_n (l := ws.map D.str) (a := 1) (b := 2)
    rw [nc1, nc2] at this
    rw [this, List.map_take, List.map_drop]
  have s2 := pick2s ws 2
  have s3 := pick2s ws 3
  rw [nc2] at s2
  rw [nc3] at s3
  have l2 : (evs (ws.drop 2)).length ≤ 25001 := by rw [evs_len, List.length_drop]; omega
  have ad : binD .add (.lst (((ws.drop 1).take 1).map D.str)) (.lst ((evs (ws.drop 2)).map D.str)) = some (.lst (((ws.drop 1).take 1 ++ evs (ws.drop 2)).map D.str)) := by
    rw [b_addL (by rw [sizeD_n, List.length_map, List.length_map, List.length_take]; omega), List.map_append]
  have tT := tr_gT (n := n) (m := m) (i := 4) (ρ := [some (.lst (ws.map D.str)), none, none, none, none, none, none]) (show 4 < 7 by decide) ((ws.drop 1).take 1 ++ evs (ws.drop 2))
  have tN := tr_gN (n := n) (m := m) (i := 4) (k := 60) (ρ := [some (.lst (ws.map D.str)), some (.lst (((ws.drop 1).take 1 ++ evs (ws.drop 2)).map gT)), none, none, none, none, none]) (by show 4 < 7; decide) (by decide) (evs (ws.drop 3))
  rw [show ((60 : Nat) : Int) = 60 from rfl] at tN
  have nT := in_gT ((ws.drop 1).take 1 ++ evs (ws.drop 2))
  have nN := in_gN 60 (evs (ws.drop 3))
  by_cases h1 : ws.length % 2 = 0
  · have q1 : ¬ (ws.length : Int) % 2 = 1 := by omega
    have hlen : 1 < ws.length := by
      have := List.length_pos_iff.mpr h0
      omega
    have eT : (ws.drop 1).take 1 = [ws.getD 1 []] := by
      match ws, hlen with
      | _ :: _ :: _, _ => rfl
    rw [eT] at tT tN nT ad e12
    cases h2 : (([ws.getD 1 []] ++ evs (ws.drop 2)).all txtOk) with
    | false =>
      have e : rdLeaf ws = none := by
        unfold rdLeaf
        rw [List.singleton_append, List.all_cons] at h2
        have : ∀ a c d e f g : Bool, (txtOk (ws.getD 1 []) && (evs (ws.drop 2)).all txtOk) = false → (a && txtOk (ws.getD 1 []) && (evs (ws.drop 2)).all txtOk && c && d && e && f) = false := fun a c d e f g h => by
          generalize txtOk (ws.getD 1 []) = u at *
          generalize (evs (ws.drop 2)).all txtOk = v at *
          revert h; revert a c d e f u v; decide
        rw [this _ _ _ _ _ true h2]
        rfl
      rw [e, ndO_n]
      rw [h2] at nT
      generalize ([ws.getD 1 []] ++ evs (ws.drop 2)).map gT = TL at *
      generalize ([ws.getD 1 []] ++ evs (ws.drop 2)).map D.str = T0 at *
      generalize (evs (ws.drop 3)).map (gN 60) = VL at *
      push_cast [B_364, -trn_map, e12, s2, ad, tT, s3, tN, q1, nT]
    | true =>
      rw [h2] at nT
      have h2' := h2
      rw [List.singleton_append, List.all_cons, Bool.and_eq_true] at h2'
      cases h3 : (evs (ws.drop 3)).all (numOk 60) with
      | false =>
        have e : rdLeaf ws = none := by unfold rdLeaf; rw [h3]; simp
        rw [e, ndO_n]
        rw [h3] at nN
        generalize ([ws.getD 1 []] ++ evs (ws.drop 2)).map gT = TL at *
        generalize ([ws.getD 1 []] ++ evs (ws.drop 2)).map D.str = T0 at *
        generalize (evs (ws.drop 3)).map (gN 60) = VL at *
        push_cast [B_364, -trn_map, e12, s2, ad, tT, s3, tN, q1, nT, nN]
      | true =>
        rw [h3] at nN
        have un := rdLeaf_un h1 h2'.1 h2'.2 h3
        have g1 : ([ws.getD 1 []] ++ evs (ws.drop 2)).map gT = (dr1 (ws.getD 1 []) :: (evs (ws.drop 2)).map dr1).map D.str := by rw [gT_all h2]; rfl
        have g2 := gN_all h3
        have lv : ((evs (ws.drop 3)).map valD).length = ((evs (ws.drop 2)).map dr1).length := by
          rw [List.length_map, List.length_map, evs_len, evs_len, List.length_drop, List.length_drop]
          omega
        have lr : ((evs (ws.drop 2)).map dr1).length ≤ 50000 := by rw [List.length_map]; omega
        rw [un]
        rw [g1] at tT tN nT
        rw [g2] at tN nN
        generalize (evs (ws.drop 2)).map dr1 = R at *
        generalize (evs (ws.drop 3)).map valD = V at *
        generalize dr1 (ws.getD 1 []) = b at *
        generalize ([ws.getD 1 []] ++ evs (ws.drop 2)).map D.str = T0 at *
        have sl : slD (.lst ((b :: R).map D.str)) (some 1) none = some (.lst (R.map D.str)) := by
          have := slLf ((b :: R).map D.str) 1
          rw [nc1] at this
          rw [this]
          rfl
        have rs := lris_ok (n := n) (m := m) (l := R) (by omega)
        cases h5 : risR R with
        | false =>
          rw [h5] at rs
          show _ = Res.ok D.non m
          generalize (b :: R).map D.str = TL at *
          generalize (V.map fun i => D.int (i : Nat)) = VL at *
          push_cast [B_364, -trn_map, e12, s2, ad, tT, s3, tN, q1, nT, nN, sl, rs]
        | true =>
          rw [h5] at rs
          have fin := lleaf_rest (n := n) (m := m) (W := .lst (ws.map D.str)) (b := b) h5 lv lr
          rw [Bool.true_and]
          have eB : B_364 = .cons (match B_364 with | .cons a _ => a | _ => .pas) (.cons (match B_364 with | .cons _ (.cons a _) => a | _ => .pas) (.cons (match B_364 with | .cons _ (.cons _ (.cons a _)) => a | _ => .pas) R_364)) := rfl
          generalize hRR : R_364 = RR at *
          rw [eB]
          generalize (b :: R).map D.str = TL at *
          generalize (V.map fun i => D.int (i : Nat)) = VL at *
          push_cast [B_364, -trn_map, e12, s2, ad, tT, s3, tN, q1, nT, nN, sl, rs]
          exact fin
  · have q1 : (ws.length : Int) % 2 = 1 := by omega
    have e : rdLeaf ws = none := by unfold rdLeaf; rw [decide_eq_false h1]; simp
    rw [e, ndO_n]
    generalize ((ws.drop 1).take 1 ++ evs (ws.drop 2)).map gT = TL at *
    generalize ((ws.drop 1).take 1 ++ evs (ws.drop 2)).map D.str = T0 at *
    generalize (evs (ws.drop 3)).map (gN 60) = VL at *
    push_cast [B_364, -trn_map, e12, s2, ad, tT, s3, tN, q1]
end
end MP

set_option maxRecDepth 100000
set_option maxHeartbeats 4000000
set_option autoImplicit false
namespace MP
open PySem L2
local macro_rules
  | `(tactic| push_cast [$xs,*]) => `(tactic| simp (config := {dsimp := false, implicitDefEqProofs := false}) (disch := first | assumption | omega | (rw [sizeD_n]; omega) | decide) only [↓v_var, ↓v_lit, ↓v_glob, ↓v_bin, ↓v_cmp, ↓v_isN, ↓v_chain, ↓v_and, ↓v_or, ↓v_not, ↓v_ifx, ↓v_idx, ↓v_sl, ↓v_slS, ↓v_tup, ↓v_lst, ↓v_dic0, ↓v_comp, ↓v_cT, ↓v_cK, ↓v_call, ↓v_bi, ↓v_mth, ↓v_isi, ↓v_nil, ↓v_cons, ↓v_kno, ↓v_kyes, ↓v_pno, ↓v_pyes, ↓v_ie, ↓v_r1, ↓v_r2, ↓v_rev, ↓v_zip, ↓v_enum, ↓v_T, ↓w_asg, ↓w_own, ↓w_aug, ↓w_augS, ↓w_app, ↓w_appS, ↓w_drop, ↓w_ret, ↓w_retN, ↓w_ifs, ↓w_whl, ↓w_for, ↓w_rais, ↓w_tri, ↓v_isx, ↓w_asgX, ↓v_tzip, ↓v_rep, tz_ll, triF_n, triF_r, triF_e, triE_n, isx_n, isx_x, isNon_x, ↓w_pas, ↓w_fgt, ↓w_nil, ↓w_cons,
      bC_t, bC_f, bK_t, bK_f, bnd_o, bnd_e, bfl_o, bfl_e, sq_n, sq_r, sq_e, res_r, res_n, res_e, getS_s, intP_i, stO_s, runB_s, b_one, b_two, b_three, b_four, wp_one, wp_two, wp_three, mtOn_s, mtTxt, wipe_n, wipe_c, isNon_i, isNon_n, isNon_t, isNon_s, isNon_l, isNon_b, isNon_d, Res.opt_some, Res.calm_ok, Option.map_some, trn_map, trn_nil, trn_cons, consO_s, consO_n, trnG_map, trnG_fmap,
      List.set_cons_zero, List.set_cons_succ, List.getElem?_cons_zero, List.getElem?_cons_succ, List.length_cons, List.length_nil, List.length_map, List.length_range, List.map_map, Function.comp_def, b_add, b_sub, b_mul, b_mul2, b_div, b_mod, b_addS, b_addL, b_addT, a_add, a_sub, t_bl, t_int, t_str, t_lst, t_tup, t_non, len_l, len_t, len_s, it_l, it_t, it_s, rv_l, rv_t, ix_t0, ix_t1, ix_t2, ix_l0, ix_l1, ix_l2, bi_lt, bi_ll, bi_ls, bi_tl, bi_tt, bi_ib, bi_ii, bi_min, bi_max, bi_all, bi_any, bi_sum, c_lt, c_le, c_gt, c_ge, c_ltS, c_leS, c_gtS, c_geS, c_eqI, c_eqS, c_neI, c_neS, cl_i, cl_s, cl_b, cl_t, cl_l, cl_n, cl_d, tyD, List.any_cons, List.any_nil, Bool.not_true, Bool.not_false, Bool.or_false, Bool.or_true, Bool.false_or, Bool.true_or, bne_self_eq_false, bne_iff_ne, Bool.bne_true, Bool.bne_false, decide_true, decide_false, nc0, nc1, nc2, nc3, nc4, nc5, nc6, nc7, nc8, nc9, Nat.reduceAdd, Nat.reduceSub, Nat.reduceMul, Nat.reduceLT, Nat.reduceLeDiff, Int.reduceAdd, Int.reduceSub, Int.reduceMul, Int.reduceLT, Int.reduceLE, $xs,*])

/-! ### what is read can be written -/
theorem val_lt : ∀ (k : Nat) {i : Nat}, 0 < k → (numS i).length ≤ k → i < 10 ^ k
  | 0, _, h, _ => absurd h (Nat.lt_irrefl _)
  | 1, i, _, h => by
    by_cases h10 : i < 10
    · exact h10
    · have e : numS i = numS (i / 10) ++ [48 + i % 10] := TL.numL_step (by omega)
      have := dnumS_pos (i / 10)
      rw [e, List.length_append, List.length_singleton] at h
      omega
  | k + 2, i, _, h => by
    by_cases h10 : i < 10
    · exact Nat.lt_of_lt_of_le h10 (by rw [Nat.pow_succ]; have : 0 < 10 ^ (k + 1) := Nat.pow_pos (by decide); omega)
    · have e : numS i = numS (i / 10) ++ [48 + i % 10] := TL.numL_step (by omega)
      rw [e, List.length_append, List.length_singleton] at h
      have := val_lt (k + 1) (by omega) (show (numS (i / 10)).length ≤ k + 1 by omega)
      rw [Nat.pow_succ]
      omega
theorem val_ok {k : Nat} {w : List Nat} (hk : 0 < k) (h : numOk k w = true) : valD w < 10 ^ k := by
  refine val_lt k hk ?_
  rw [num_back h]
  unfold numOk at h
  simp only [Bool.and_eq_true, decide_eq_true_eq] at h
  exact h.1.1.2
theorem rdT_V {t : List Nat} {nd : Nd} (h : rdT t = some nd) : NdV nd := by
  unfold rdT at h
  split at h
  · unfold rdLeaf at h
    split at h
    · rename_i hc
      cases h
      simp only [Bool.and_eq_true, decide_eq_true_eq] at hc
      refine .leaf fun c hc' => ?_
      have := (List.of_mem_zip hc').2
      obtain ⟨w, hw, e⟩ := List.mem_map.mp this
      rw [← e]
      exact val_ok (by decide) (List.all_eq_true.mp hc.1.1.1.2 w hw)
    · cases h
  · split at h
    · rename_i h0
      unfold rdBranch at h
      split at h
      · rename_i hc
        cases h
        simp only [Bool.and_eq_true, decide_eq_true_eq] at hc
        have hne := List.length_pos_iff.mpr (spW_ne t)
        refine .branch ?_ fun c hc' => ?_
        · rw [List.length_zip, List.length_map, List.length_map, List.length_map, ths_len, ths_len, ths_len, List.length_drop, List.length_drop, List.length_drop]
          have := hc.1.1.1.1
          omega
        · obtain ⟨h1, h2⟩ := List.of_mem_zip hc'
          obtain ⟨w, hw, e⟩ := List.mem_map.mp h1
          obtain ⟨w2, hw2, e2⟩ := List.mem_map.mp h2
          rw [← e, ← e2]
          exact ⟨lt_60 (val_ok (by decide) (List.all_eq_true.mp hc.1.1.2 w hw)), lt_60 (val_ok (by decide) (List.all_eq_true.mp hc.1.2 w2 hw2))⟩
      · cases h
    · cases h
section
variable {n : Nat} {m : Mu}
theorem lbranch_rest {ws : List (List Nat)} {W : D} (h0 : ws ≠ []) (hl : ws.length ≤ 50000) (hw : ws.getD 0 [] = branchW) (hs : mtD .ssplit W [.str [32]] = some (.lst (ws.map D.str))) (hW : mtOn .ssplit W = true) : callF M sb (n + 3) 365 [W] m = .ok (ndO (rdBranch ws)) m := by
  rw [u_365]
  have i0 := ix_w0 h0
  rw [hw] at i0
  unfold branchW at i0
  have ne : ¬ ([98, 114, 97, 110, 99, 104] : List Nat) = [108, 101, 97, 102] := by decide
  obtain ⟨s, rfl⟩ : ∃ s, W = .str s := by
    cases W with
    | str s => exact ⟨s, rfl⟩
    | _ => cases hW
  by_cases h1 : ws.length % 3 = 0
  · have q1 : (ws.length : Int) % 3 = 0 := by omega
    have s1 := pick3s ws 1
    have s2 := pick3s ws 2
    have s3 := pick3s ws 3
    rw [nc1] at s1
    rw [nc2] at s2
    rw [nc3] at s3
    have t1 := tr_gT (n := n + 1) (m := m) (i := 5) (ρ := [some (.str s), some (.lst (ws.map D.str)), none, none, none, none, none]) (show 5 < 7 by decide) (ths (ws.drop 3))
    have t2 := tr_gN (n := n + 1) (m := m) (i := 5) (k := 6) (ρ := [some (.str s), some (.lst (ws.map D.str)), some (.lst ((ths (ws.drop 3)).map gT)), none, none, none, none]) (show 5 < 7 by decide) (by decide) (ths (ws.drop 1))
    have t3 := tr_gN (n := n + 1) (m := m) (i := 5) (k := 6) (ρ := [some (.str s), some (.lst (ws.map D.str)), some (.lst ((ths (ws.drop 3)).map gT)), some (.lst ((ths (ws.drop 1)).map (gN 6))), none, none, none]) (show 5 < 7 by decide) (by decide) (ths (ws.drop 2))
    rw [nc6] at t2 t3
    have n1 := in_gT (ths (ws.drop 3))
    have n2 := in_gN 6 (ths (ws.drop 1))
    have n3 := in_gN 6 (ths (ws.drop 2))
    cases h2 : (ths (ws.drop 3)).all txtOk with
    | false =>
      have e : rdBranch ws = none := by unfold rdBranch; rw [h2]; simp
      rw [e, ndO_n]
      rw [h2] at n1
      generalize (ths (ws.drop 3)).map gT = A at *
      generalize (ths (ws.drop 1)).map (gN 6) = B at *
      generalize (ths (ws.drop 2)).map (gN 6) = C at *
      push_cast [B_365, -trn_map, hs, i0, ne, q1, s3, t1, s1, t2, s2, t3, n1]
    | true =>
      rw [h2] at n1
      cases h3 : (ths (ws.drop 1)).all (numOk 6) with
      | false =>
        have e : rdBranch ws = none := by unfold rdBranch; rw [h3]; simp
        rw [e, ndO_n]
        rw [h3] at n2
        generalize (ths (ws.drop 3)).map gT = A at *
        generalize (ths (ws.drop 1)).map (gN 6) = B at *
        generalize (ths (ws.drop 2)).map (gN 6) = C at *
        push_cast [B_365, -trn_map, hs, i0, ne, q1, s3, t1, s1, t2, s2, t3, n1, n2]
      | true =>
        rw [h3] at n2
        cases h4 : (ths (ws.drop 2)).all (numOk 6) with
        | false =>
          have e : rdBranch ws = none := by unfold rdBranch; rw [h4]; simp
          rw [e, ndO_n]
          rw [h4] at n3
          generalize (ths (ws.drop 3)).map gT = A at *
          generalize (ths (ws.drop 1)).map (gN 6) = B at *
          generalize (ths (ws.drop 2)).map (gN 6) = C at *
          push_cast [B_365, -trn_map, hs, i0, ne, q1, s3, t1, s1, t2, s2, t3, n1, n2, n3]
        | true =>
          rw [h4] at n3
          have un : rdBranch ws = if risR ((ths (ws.drop 3)).map dr1) = true then some (.branch ((ths (ws.drop 3)).map dr1) (List.zip ((ths (ws.drop 1)).map valD) ((ths (ws.drop 2)).map valD))) else none := by
            unfold rdBranch
            rw [h2, h3, h4, decide_eq_true h1]
            rfl
          have g1 := gT_all h2
          have g2 := gN_all h3
          have g3 := gN_all h4
          have lv : ((ths (ws.drop 2)).map valD).length = ((ths (ws.drop 1)).map valD).length := by
            have := List.length_pos_iff.mpr h0
            rw [List.length_map, List.length_map, ths_len, ths_len, List.length_drop, List.length_drop]
            omega
          have lr : ((ths (ws.drop 3)).map dr1).length ≤ 50000 := by rw [List.length_map, ths_len, List.length_drop]; omega
          have lu : ((ths (ws.drop 1)).map valD).length ≤ 50000 := by rw [List.length_map, ths_len, List.length_drop]; omega
          rw [un]
          rw [g1] at t1 t2 t3 n1
          rw [g2] at t2 t3 n2
          rw [g3] at t3 n3
          generalize (ths (ws.drop 3)).map dr1 = R at *
          generalize (ths (ws.drop 1)).map valD = U at *
          generalize (ths (ws.drop 2)).map valD = V at *
          have rs := lris_ok (n := n + 1) (m := m) (l := R) (by omega)
          cases h5 : risR R with
          | false =>
            rw [h5] at rs
            show _ = Res.ok D.non m
            generalize R.map D.str = A at *
            generalize (U.map fun i => D.int (i : Nat)) = B at *
            generalize (V.map fun i => D.int (i : Nat)) = C at *
            push_cast [B_365, -trn_map, hs, i0, ne, q1, s3, t1, s1, t2, s2, t3, n1, n2, n3, rs]
          | true =>
            rw [h5] at rs
            have tC : trnL (cT ⟨callF M sb (n + 2), sb⟩ (.one 6) .no (.tup (.cons (.idx (.var 3) (.var 6)) (.cons (.idx (.var 4) (.var 6)) .nil))) [some (.str s), some (.lst (ws.map D.str)), some (.lst (R.map D.str)), some (.lst (U.map fun i => D.int (i : Nat))), some (.lst (V.map fun i => D.int (i : Nat))), none, none]) ((List.range U.length).map fun k => D.int (k : Nat)) m .mk = .ok ((List.zip U V).map kidD) m := by
              have ez : (List.zip U V).map kidD = (List.range U.length).map fun k => D.tup [.int ((U.getD k 0 : Nat) : Int), .int ((V.getD k 0 : Nat) : Int)] := by
                refine List.ext_getElem? fun i => ?_
                rw [List.getElem?_map, List.getElem?_map]
                by_cases h : i < U.length
                · have h2 : i < V.length := by omega
                  have hz : (List.zip U V)[i]? = some (U[i], V[i]) := List.getElem?_zip_eq_some.mpr ⟨List.getElem?_eq_getElem h, List.getElem?_eq_getElem h2⟩
                  rw [List.getElem?_range h, hz]
                  show some (kidD _) = some (D.tup [.int ((U.getD i 0 : Nat) : Int), .int ((V.getD i 0 : Nat) : Int)])
                  rw [List.getD_eq_getElem?_getD, List.getD_eq_getElem?_getD, List.getElem?_eq_getElem h, List.getElem?_eq_getElem h2]
                  rfl
                · rw [List.getElem?_eq_none (by rw [List.length_zip]; omega), List.getElem?_eq_none (by rw [List.length_range]; omega)]
                  rfl
              rw [ez, trn_map]
              refine trnG_all _ fun k hk => ?_
              have hk := List.mem_range.mp hk
              have a1 : idxD (.lst (U.map fun i => D.int (i : Nat))) (.int (k : Int)) = some (.int ((U.getD k 0 : Nat) : Int)) := ix_lm (fun i => D.int (i : Nat)) 0 hk
              have a2 : idxD (.lst (V.map fun i => D.int (i : Nat))) (.int (k : Int)) = some (.int ((V.getD k 0 : Nat) : Int)) := ix_lm (fun i => D.int (i : Nat)) 0 (by omega)
              generalize U.getD k 0 = u at *
              generalize V.getD k 0 = v at *
              generalize (U.map fun i => D.int (i : Nat)) = B at *
              generalize (V.map fun i => D.int (i : Nat)) = C at *
              push_cast [a1, a2]
            have rV := rng1_n (n := U.length) (by omega)
            show _ = Res.ok (D.tup [.str branchW, .tup (R.map D.str), .tup ((List.zip U V).map kidD)]) m
            have lB : U.length = (U.map fun i => D.int (i : Nat)).length := by rw [List.length_map]
            unfold branchW
            obtain ⟨CL, hCL⟩ : ∃ CL, CL = (List.zip U V).map kidD := ⟨_, rfl⟩
            obtain ⟨A, hA⟩ : ∃ A, A = R.map D.str := ⟨_, rfl⟩
            obtain ⟨B, hB⟩ : ∃ B, B = U.map fun i => D.int (i : Nat) := ⟨_, rfl⟩
            obtain ⟨C, hC⟩ : ∃ C, C = V.map fun i => D.int (i : Nat) := ⟨_, rfl⟩
            rw [← hCL] at tC ⊢
            rw [← hA] at t1 t2 t3 n1 rs tC ⊢
            rw [← hB] at t2 t3 n2 tC lB
            rw [← hC] at t3 n3 tC
            rw [lB] at tC rV
            push_cast [B_365, -trn_map, hs, i0, ne, q1, s3, t1, s1, t2, s2, t3, n1, n2, n3, rs, rV, tC]
  · have q1 : ¬ (ws.length : Int) % 3 = 0 := by omega
    have e : rdBranch ws = none := by unfold rdBranch; rw [decide_eq_false h1]; simp
    rw [e, ndO_n]
    push_cast [B_365, hs, i0, ne, q1]
theorem lnode_ok {t : List Nat} (h : t.length < 50000) : callF M sb (n + 3) 365 [.str t] m = .ok (ndO (rdT t)) m := by
  have hs := spW_ok h
  have hn := spW_ne t
  obtain ⟨l1, l2⟩ := spW_len h
  have i0 := ix_w0 hn
  by_cases h1 : (spW t).getD 0 [] = leafW
  · have e : rdT t = rdLeaf (spW t) := by unfold rdT; rw [if_pos h1]
    have c := lleaf_ok (n := n) (m := m) hn l1
    rw [e, u_365]
    rw [h1] at i0
    unfold leafW at i0
    push_cast [B_365, hs, i0, c]
  · by_cases h2 : (spW t).getD 0 [] = branchW
    · have e : rdT t = rdBranch (spW t) := by unfold rdT; rw [if_neg h1, if_pos h2]
      rw [e]
      exact lbranch_rest hn l1 h2 hs rfl
    · have e : rdT t = none := by unfold rdT; rw [if_neg h1, if_neg h2]
      have h1' : ¬ (spW t).getD 0 [] = [108, 101, 97, 102] := h1
      have h2' : ¬ (spW t).getD 0 [] = [98, 114, 97, 110, 99, 104] := h2
      rw [e, ndO_n, u_365]
      push_cast [B_365, hs, i0, h1', h2']
def sNoNode : List Nat := [78, 111, 78, 111, 100, 101]
theorem wof9 : callF M sb (n + 1) 14 [.exc 9] m = .ok (.str sNoNode) m := by
  rw [u_14]
  have s1 : sb 9 1 = some false := by decide
  have s2 : sb 9 2 = some false := by decide
  have s3 : sb 9 3 = some false := by decide
  have s4 : sb 9 4 = some false := by decide
  have s5 : sb 9 5 = some false := by decide
  have s6 : sb 9 6 = some false := by decide
  have s7 : sb 9 7 = some false := by decide
  have s8 : sb 9 8 = some false := by decide
  have s9 : sb 9 9 = some true := by decide
  have s10 : sb 9 10 = some false := by decide
  have s11 : sb 9 11 = some true := by decide
  have hz : 0 < sizeD := by decide
  push_cast [B_14, s1, s2, s3, s4, s5, s6, s7, s8, s9, s10, s11, hz, sNoNode, List.nil_append]
theorem nwof0 : callF M sb (n + 1) 14 [.non] m = .ok (.str []) m := by
  rw [u_14]
  push_cast [B_14]
theorem ntold_err {d : D} (h : callF M sb (n + 1) 355 [d] m = .err 9 m) : callF M sb (n + 2) 366 [d] m = .ok (.tup [.str sNoNode, .non]) m := by
  rw [u_366]
  have w := wof9 (n := n) (m := m)
  have s0 : sb 9 0 = some true := by decide
  push_cast [B_366, B_366_b0, h, s0, w]
theorem ntold_ok {d e : D} (h : callF M sb (n + 1) 355 [d] m = .ok e m) : callF M sb (n + 2) 366 [d] m = .ok (.tup [.str [], e]) m := by
  rw [u_366]
  have w := nwof0 (n := n) (m := m)
  push_cast [B_366, B_366_b0, h, w]
end
end MP

set_option maxRecDepth 100000
set_option maxHeartbeats 4000000
set_option autoImplicit false
namespace MP
open PySem L2
local macro_rules
  | `(tactic| push_cast [$xs,*]) => `(tactic| simp (config := {dsimp := false, implicitDefEqProofs := false}) (disch := first | assumption | omega | (rw [sizeD_n]; omega) | decide) only [↓v_var, ↓v_lit, ↓v_glob, ↓v_bin, ↓v_cmp, ↓v_isN, ↓v_chain, ↓v_and, ↓v_or, ↓v_not, ↓v_ifx, ↓v_idx, ↓v_sl, ↓v_slS, ↓v_tup, ↓v_lst, ↓v_dic0, ↓v_comp, ↓v_cT, ↓v_cK, ↓v_call, ↓v_bi, ↓v_mth, ↓v_isi, ↓v_nil, ↓v_cons, ↓v_kno, ↓v_kyes, ↓v_pno, ↓v_pyes, ↓v_ie, ↓v_r1, ↓v_r2, ↓v_rev, ↓v_zip, ↓v_enum, ↓v_T, ↓w_asg, ↓w_own, ↓w_aug, ↓w_augS, ↓w_app, ↓w_appS, ↓w_drop, ↓w_ret, ↓w_retN, ↓w_ifs, ↓w_whl, ↓w_for, ↓w_rais, ↓w_tri, ↓v_isx, ↓w_asgX, ↓v_tzip, ↓v_rep, tz_ll, triF_n, triF_r, triF_e, triE_n, isx_n, isx_x, isNon_x, ↓w_pas, ↓w_fgt, ↓w_nil, ↓w_cons,
      bC_t, bC_f, bK_t, bK_f, bnd_o, bnd_e, bfl_o, bfl_e, sq_n, sq_r, sq_e, res_r, res_n, res_e, getS_s, intP_i, stO_s, runB_s, b_one, b_two, b_three, b_four, wp_one, wp_two, wp_three, mtOn_s, mtTxt, wipe_n, wipe_c, isNon_i, isNon_n, isNon_t, isNon_s, isNon_l, isNon_b, isNon_d, Res.opt_some, Res.calm_ok, Option.map_some, trn_map, trn_nil, trn_cons, consO_s, consO_n, trnG_map, trnG_fmap,
      List.set_cons_zero, List.set_cons_succ, List.getElem?_cons_zero, List.getElem?_cons_succ, List.length_cons, List.length_nil, List.length_map, List.length_range, List.map_map, Function.comp_def, b_add, b_sub, b_mul, b_mul2, b_div, b_mod, b_addS, b_addL, b_addT, a_add, a_sub, t_bl, t_int, t_str, t_lst, t_tup, t_non, len_l, len_t, len_s, it_l, it_t, it_s, rv_l, rv_t, ix_t0, ix_t1, ix_t2, ix_l0, ix_l1, ix_l2, bi_lt, bi_ll, bi_ls, bi_tl, bi_tt, bi_ib, bi_ii, bi_min, bi_max, bi_all, bi_any, bi_sum, c_lt, c_le, c_gt, c_ge, c_ltS, c_leS, c_gtS, c_geS, c_eqI, c_eqS, c_neI, c_neS, cl_i, cl_s, cl_b, cl_t, cl_l, cl_n, cl_d, tyD, List.any_cons, List.any_nil, Bool.not_true, Bool.not_false, Bool.or_false, Bool.or_true, Bool.false_or, Bool.true_or, bne_self_eq_false, bne_iff_ne, Bool.bne_true, Bool.bne_false, decide_true, decide_false, nc0, nc1, nc2, nc3, nc4, nc5, nc6, nc7, nc8, nc9, Nat.reduceAdd, Nat.reduceSub, Nat.reduceMul, Nat.reduceLT, Nat.reduceLeDiff, Int.reduceAdd, Int.reduceSub, Int.reduceMul, Int.reduceLT, Int.reduceLE, $xs,*])

/-! ### a text spoilt -/
def sm (l : List (List Nat)) : Nat := (l.map List.length).sum + l.length
theorem sm_app (a b : List (List Nat)) : sm (a ++ b) = sm a + sm b := by
  unfold sm
  rw [List.map_append, List.sum_append, List.length_append]
  omega
theorem sm_take (l : List (List Nat)) (k : Nat) : sm (l.take k) ≤ sm l := by
  have := sm_app (l.take k) (l.drop k)
  rw [List.take_append_drop] at this
  omega
theorem sm_drop (l : List (List Nat)) (k : Nat) : sm (l.drop k) ≤ sm l := by
  have := sm_app (l.take k) (l.drop k)
  rw [List.take_append_drop] at this
  omega
theorem sm_rev : ∀ l : List (List Nat), sm l.reverse = sm l
  | [] => rfl
  | x :: l => by
    rw [List.reverse_cons, sm_app, sm_rev l, show x :: l = [x] ++ l from rfl, sm_app]
    omega
theorem jn_sm : ∀ l : List (List Nat), (jn l).length ≤ sm l
  | [] => Nat.zero_le _
  | p :: l => by
    have : ∀ l : List (List Nat), sm l = (l.flatMap fun w => 32 :: w).length := fun l => by
      induction l with
      | nil => rfl
      | cons w l ih =>
        rw [show w :: l = [w] ++ l from rfl, sm_app, ih, List.flatMap_append, List.length_append]
        simp [sm]
    have h := this l
    rw [show p :: l = [p] ++ l from rfl, sm_app, h]
    simp [jn, sm]
theorem sm_spl (t : List Nat) : sm (spW t) ≤ t.length + 1 := by
  have := jn_count (spW t)
  have e : jn (spW t) = t := by
    rw [← jn_join]
    exact join_spl 32 t []
  rw [e] at this
  exact this
theorem join_sm {l : List (List Nat)} (h : sm l < 50000) : mtD .sjoin (.str [32]) [.lst (l.map D.str)] = some (.str (jn l)) := join_jn (Nat.lt_of_le_of_lt (jn_sm l) h)
theorem addL_b {a b : List (List Nat)} (h : a.length + b.length ≤ 100000) : binD .add (.lst (a.map D.str)) (.lst (b.map D.str)) = some (.lst ((a ++ b).map D.str)) := by
  rw [b_addL (by rw [sizeD_n, List.length_map, List.length_map]; omega), List.map_append]
theorem sm_len (l : List (List Nat)) : l.length ≤ sm l := by unfold sm; omega
section
variable {n : Nat} {m : Mu}
theorem nspoilt_ok {t : List Nat} (hs : t.length ≤ 5000) (ha : t.all (· < 128) = true) (c : Int) : ∃ t' : List Nat, t'.length ≤ 40000 ∧ callF M sb (n + 1) 376 [.str t, .int c] m = .ok (.str t') m := by
  rw [u_376]
  have sp := spW_ok (t := t) (by omega)
  have hW := sm_spl t
  have hW0 : 0 < (spW t).length := List.length_pos_iff.mpr (spW_ne t)
  generalize spW t = W at *
  have lW := sm_len W
  have d8 : ∀ i : Int, binD .fdiv (.int i) (.int 8) = some (.int (i / 8)) := fun i => b_div (by decide) (by decide)
  have d900 : ∀ i : Int, binD .fdiv (.int i) (.int 900) = some (.int (i / 900)) := fun i => b_div (by decide) (by decide)
  have d9000 : ∀ i : Int, binD .fdiv (.int i) (.int 9000) = some (.int (i / 9000)) := fun i => b_div (by decide) (by decide)
  obtain ⟨A, hA⟩ : ∃ A : Nat, c / 8 % (W.length : Int) = (A : Int) := ⟨(c / 8 % (W.length : Int)).toNat, by
    have := Int.emod_nonneg (c / 8) (show (W.length : Int) ≠ 0 by omega)
    omega⟩
  have mA : binD .mod (.int (c / 8)) (.int (W.length : Int)) = some (.int (A : Int)) := by rw [b_mod (by omega), hA]
  obtain ⟨B, hB⟩ : ∃ B : Nat, c / 8 % ((t.length : Int) + 1) = (B : Int) := ⟨(c / 8 % ((t.length : Int) + 1)).toNat, by
    have := Int.emod_nonneg (c / 8) (show (t.length : Int) + 1 ≠ 0 by omega)
    omega⟩
  have mB : binD .mod (.int (c / 8)) (.int ((t.length : Int) + 1)) = some (.int (B : Int)) := by rw [b_mod (by omega), hB]
  obtain ⟨R60, hR60⟩ : ∃ r, r = List.replicate 60 48 := ⟨_, rfl⟩
  obtain ⟨N60, hN60⟩ : ∃ r, r = List.replicate 60 57 := ⟨_, rfl⟩
  have f1 : binD .mul (.str [48]) (.int 60) = some (.str R60) := by rw [b_mulS (by decide) (by decide) (by decide), hR60]; rfl
  have f3 : binD .mul (.str [57]) (.int 60) = some (.str N60) := by rw [b_mulS (by decide) (by decide) (by decide), hN60]; rfl
  have f2 : binD .add (.str [49]) (.str R60) = some (.str (49 :: R60)) := addS_b (by rw [hR60, List.length_replicate]; decide)
  have lR : (49 :: R60).length ≤ 61 := by rw [hR60, List.length_cons, List.length_replicate]; decide
  have lN : N60.length ≤ 61 := by rw [hN60, List.length_replicate]; decide
  obtain ⟨L24, hL24⟩ : ∃ L : List D, L = [.str [108, 101, 97, 102], .str [98, 114, 97, 110, 99, 104], .str [61], .str [], .str [48], .str [48, 48], .str [48, 49], .str [55], .str [61, 65, 55], .str [65, 55], .str [61, 61], .str [61, 77], .str [61, 97, 32, 98], .str [49, 48, 48, 48, 48, 48, 48], .str [57, 57, 57, 57, 57, 57], .str [45, 49], .str (49 :: R60), .str N60, .str [108, 101, 97, 118, 101, 115], .str [76, 101, 97, 102], .str [61, 122], .str [61, 46], .str [120], .str [78, 111, 110, 101]] := ⟨_, rfl⟩
  have f4 : binD .add (.lst [.str [108, 101, 97, 102], .str [98, 114, 97, 110, 99, 104], .str [61], .str [], .str [48], .str [48, 48], .str [48, 49], .str [55], .str [61, 65, 55], .str [65, 55], .str [61, 61], .str [61, 77], .str [61, 97, 32, 98], .str [49, 48, 48, 48, 48, 48, 48], .str [57, 57, 57, 57, 57, 57], .str [45, 49]]) (.lst [.str (49 :: R60), .str N60, .str [108, 101, 97, 118, 101, 115], .str [76, 101, 97, 102], .str [61, 122], .str [61, 46], .str [120], .str [78, 111, 110, 101]]) = some (.lst L24) := by
    rw [b_addL (by show 16 + 8 ≤ sizeD; decide), hL24]; rfl
  obtain ⟨L29, hL29⟩ : ∃ L : List D, L = [[108, 101, 97, 102], [98, 114, 97, 110, 99, 104], [61], [], [48], [48, 48], [48, 49], [55], [61, 65, 55], [65, 55], [61, 61], [61, 77], [61, 97, 32, 98], [49, 48, 48, 48, 48, 48, 48], [57, 57, 57, 57, 57, 57], [45, 49], 49 :: R60, N60, [108, 101, 97, 118, 101, 115], [76, 101, 97, 102], [61, 122], [61, 46], [120], [78, 111, 110, 101], [84, 114, 117, 101], [61, 65, 49, 61], [43, 53], [53, 46, 48], [61, 116, 97, 98, 46]].map D.str := ⟨_, rfl⟩
  have f5 : binD .add (.lst L24) (.lst [.str [84, 114, 117, 101], .str [61, 65, 49, 61], .str [43, 53], .str [53, 46, 48], .str [61, 116, 97, 98, 46]]) = some (.lst L29) := by
    rw [b_addL (by rw [hL24]; show 24 + 5 ≤ sizeD; decide), hL24, hL29]; rfl
  obtain ⟨w, hw, iw⟩ := ix_modL (f := D.str) (L := [[108, 101, 97, 102], [98, 114, 97, 110, 99, 104], [61], [], [48], [48, 48], [48, 49], [55], [61, 65, 55], [65, 55], [61, 61], [61, 77], [61, 97, 32, 98], [49, 48, 48, 48, 48, 48, 48], [57, 57, 57, 57, 57, 57], [45, 49], 49 :: R60, N60, [108, 101, 97, 118, 101, 115], [76, 101, 97, 102], [61, 122], [61, 46], [120], [78, 111, 110, 101], [84, 114, 117, 101], [61, 65, 49, 61], [43, 53], [53, 46, 48], [61, 116, 97, 98, 46]]) (by simp) (c / 900) (k := 29) rfl
  rw [← hL29] at iw
  have lw : w.length ≤ 61 := by
    clear iw f5 f4 hL24 hL29 f1 f2 f3 hR60 hN60
    generalize 49 :: R60 = r1 at *
    simp only [List.mem_cons, List.not_mem_nil, or_false] at hw
    rcases hw with e | e | e | e | e | e | e | e | e | e | e | e | e | e | e | e | e | e | e | e | e | e | e | e | e | e | e | e | e <;> first | (rw [e]; decide) | (rw [e]; assumption)
  obtain ⟨x, _, ix⟩ := ix_modS (L := [65, 55, 116, 46, 32, 61, 98, 48, 45, 77, 122]) (by decide) (c / 900) (k := 11) rfl
  clear hw hL29 hL24 lR lN
  have A1 : (A : Int) + 1 = ((A + 1 : Nat) : Int) := by omega
  have A2 : (A : Int) + 2 = ((A + 2 : Nat) : Int) := by omega
  have B1 : (B : Int) + 1 = ((B + 1 : Nat) : Int) := by omega
  have sT : ∀ k : Nat, slD (.lst (W.map D.str)) none (some (k : Int)) = some (.lst ((W.take k).map D.str)) := fun k => by rw [slLt, List.map_take]
  have sD : ∀ k : Nat, slD (.lst (W.map D.str)) (some (k : Int)) none = some (.lst ((W.drop k).map D.str)) := fun k => by rw [slLf, List.map_drop]
  have sM : slD (.lst (W.map D.str)) (some (A : Int)) (some ((A + 2 : Nat) : Int)) = some (.lst (((W.drop A).take 2).map D.str)) := by
    rw [slL_n, show A + 2 - A = 2 by omega, List.map_take, List.map_drop]
  have sR : slSD (.lst (((W.drop A).take 2).map D.str)) none (-1) = some (.lst (((W.drop A).take 2).reverse.map D.str)) := by
    show some (D.lst (((W.drop A).take 2).map D.str).reverse) = _
    rw [List.map_reverse]
  have c8 : 0 ≤ c % 8 ∧ c % 8 < 8 := by omega
  have tk := fun k => sm_take W k
  have dp := fun k => sm_drop W k
  have sl := fun l => sm_len l
  by_cases q0 : c % 8 = 0
  · have s1 := sm_app (W.take A) (W.drop (A + 1))
    have h1 := tk A; have h2 := dp (A + 1)
    have ad := addL_b (a := W.take A) (b := W.drop (A + 1)) (by have := sl (W.take A); have := sl (W.drop (A + 1)); omega)
    have jo := join_sm (l := W.take A ++ W.drop (A + 1)) (by omega)
    refine ⟨jn (W.take A ++ W.drop (A + 1)), by have := jn_sm (W.take A ++ W.drop (A + 1)); omega, ?_⟩
    have a1 := sT A; have a2 := sD (A + 1)
    obtain ⟨X, hX⟩ : ∃ X, X = (W.take A ++ W.drop (A + 1)).map D.str := ⟨_, rfl⟩
    rw [← hX] at ad jo
    obtain ⟨X1, hX1⟩ : ∃ X, X = (W.take A).map D.str := ⟨_, rfl⟩
    obtain ⟨X2, hX2⟩ : ∃ X, X = (W.drop (A + 1)).map D.str := ⟨_, rfl⟩
    rw [← hX1, ← hX2] at ad
    rw [← hX1] at a1
    rw [← hX2] at a2
    push_cast [B_376, sp, d8, mA, f1, f3, f2, f4, f5, mB, d900, ix, q0, A1, a1, a2, ad, jo]
  by_cases q1 : c % 8 = 1
  · have s1 := sm_app (W.take (A + 1)) (W.drop A)
    have h1 := tk (A + 1); have h2 := dp A
    have ad := addL_b (a := W.take (A + 1)) (b := W.drop A) (by have := sl (W.take (A + 1)); have := sl (W.drop A); omega)
    have jo := join_sm (l := W.take (A + 1) ++ W.drop A) (by omega)
    refine ⟨jn (W.take (A + 1) ++ W.drop A), by have := jn_sm (W.take (A + 1) ++ W.drop A); omega, ?_⟩
    have a1 := sT (A + 1); have a2 := sD A
    obtain ⟨X, hX⟩ : ∃ X, X = (W.take (A + 1) ++ W.drop A).map D.str := ⟨_, rfl⟩
    rw [← hX] at ad jo
    obtain ⟨X1, hX1⟩ : ∃ X, X = (W.take (A + 1)).map D.str := ⟨_, rfl⟩
    obtain ⟨X2, hX2⟩ : ∃ X, X = (W.drop A).map D.str := ⟨_, rfl⟩
    rw [← hX1, ← hX2] at ad
    rw [← hX1] at a1
    rw [← hX2] at a2
    have n0 : ¬ (1 : Int) = 0 := by decide
    push_cast [B_376, sp, d8, mA, f1, f3, f2, f4, f5, mB, d900, ix, q1, n0, A1, a1, a2, ad, jo]
  by_cases q4 : c % 8 < 4
  · have s1 := sm_app (W.take A) [w]
    have s2 := sm_app (W.take A ++ [w]) (W.drop (A + 1))
    have h1 := tk A; have h2 := dp (A + 1)
    have h3 : sm [w] = w.length + 1 := by simp [sm]
    have ad := addL_b (a := W.take A) (b := [w]) (by have := sl (W.take A); rw [List.length_singleton]; omega)
    have ad2 := addL_b (a := W.take A ++ [w]) (b := W.drop (A + 1)) (by have := sl (W.take A ++ [w]); have := sl (W.drop (A + 1)); omega)
    have jo := join_sm (l := W.take A ++ [w] ++ W.drop (A + 1)) (by omega)
    refine ⟨jn (W.take A ++ [w] ++ W.drop (A + 1)), by have := jn_sm (W.take A ++ [w] ++ W.drop (A + 1)); omega, ?_⟩
    have a1 := sT A; have a2 := sD (A + 1)
    rw [List.map_cons, List.map_nil] at ad
    obtain ⟨X, hX⟩ : ∃ X, X = (W.take A ++ [w] ++ W.drop (A + 1)).map D.str := ⟨_, rfl⟩
    obtain ⟨X3, hX3⟩ : ∃ X, X = (W.take A ++ [w]).map D.str := ⟨_, rfl⟩
    rw [← hX] at ad2 jo
    rw [← hX3] at ad ad2
    obtain ⟨X1, hX1⟩ : ∃ X, X = (W.take A).map D.str := ⟨_, rfl⟩
    obtain ⟨X2, hX2⟩ : ∃ X, X = (W.drop (A + 1)).map D.str := ⟨_, rfl⟩
    rw [← hX1] at ad a1
    rw [← hX2] at ad2 a2
    push_cast [B_376, sp, d8, mA, f1, f3, f2, f4, f5, mB, d900, ix, q0, q1, q4, A1, a1, a2, iw, ad, ad2, jo]
  by_cases q5 : c % 8 = 4
  · have l1 := take_le t B
    have l2 := drop_le t (B + 1)
    have a1 : slD (.str t) none (some (B : Int)) = some (.str (t.take B)) := slS_to
    have a2 : slD (.str t) (some ((B + 1 : Nat) : Int)) none = some (.str (t.drop (B + 1))) := slS_from
    have ad := addS_b (a := t.take B) (b := t.drop (B + 1)) (by omega)
    refine ⟨t.take B ++ t.drop (B + 1), by rw [List.length_append]; omega, ?_⟩
    generalize t.take B ++ t.drop (B + 1) = X at *
    generalize t.take B = X1 at *
    generalize t.drop (B + 1) = X2 at *
    have n0 : ¬ (4 : Int) = 0 := by decide
    have n1 : ¬ (4 : Int) = 1 := by decide
    have n4 : ¬ (4 : Int) < 4 := by decide
    push_cast [B_376, sp, d8, mA, f1, f3, f2, f4, f5, mB, d900, ix, q5, n0, n1, n4, B1, a1, a2, ad]
  by_cases q6 : c % 8 = 5
  · obtain ⟨K, hK, hK2⟩ : ∃ K : Nat, (B : Int) + c / 9000 % 2 = (K : Int) ∧ True := ⟨((B : Int) + c / 9000 % 2).toNat, by omega, trivial⟩
    have l1 := take_le t B
    have l2 := drop_le t K
    have a1 : slD (.str t) none (some (B : Int)) = some (.str (t.take B)) := slS_to
    have a2 : slD (.str t) (some (K : Int)) none = some (.str (t.drop K)) := slS_from
    have ad := addS_b (a := t.take B) (b := [x]) (by rw [List.length_singleton]; omega)
    have lx : (t.take B ++ [x]).length = (t.take B).length + 1 := by rw [List.length_append]; rfl
    have ad2 := addS_b (a := t.take B ++ [x]) (b := t.drop K) (by omega)
    refine ⟨t.take B ++ [x] ++ t.drop K, by rw [List.length_append]; omega, ?_⟩
    generalize t.take B ++ [x] ++ t.drop K = X at *
    generalize t.take B ++ [x] = X3 at *
    generalize t.take B = X1 at *
    generalize t.drop K = X2 at *
    have n0 : ¬ (5 : Int) = 0 := by decide
    have n1 : ¬ (5 : Int) = 1 := by decide
    have n4 : ¬ (5 : Int) < 4 := by decide
    have n5 : ¬ (5 : Int) = 4 := by decide
    push_cast [B_376, sp, d8, mA, f1, f3, f2, f4, f5, mB, d900, d9000, ix, q6, n0, n1, n4, n5, hK, a1, a2, ad, ad2]
  by_cases q7 : c % 8 = 6
  · have s1 := sm_app (W.take A) (((W.drop A).take 2).reverse)
    have s2 := sm_app (W.take A ++ ((W.drop A).take 2).reverse) (W.drop (A + 2))
    have h1 := tk A; have h2 := dp (A + 2); have h3 := sm_rev ((W.drop A).take 2)
    have h4 := sm_take (W.drop A) 2; have h5 := dp A
    have ad := addL_b (a := W.take A) (b := ((W.drop A).take 2).reverse) (by have := sl (W.take A); have := sl (((W.drop A).take 2).reverse); omega)
    have ad2 := addL_b (a := W.take A ++ ((W.drop A).take 2).reverse) (b := W.drop (A + 2)) (by have := sl (W.take A ++ ((W.drop A).take 2).reverse); have := sl (W.drop (A + 2)); omega)
    have jo := join_sm (l := W.take A ++ ((W.drop A).take 2).reverse ++ W.drop (A + 2)) (by omega)
    refine ⟨jn (W.take A ++ ((W.drop A).take 2).reverse ++ W.drop (A + 2)), by have := jn_sm (W.take A ++ ((W.drop A).take 2).reverse ++ W.drop (A + 2)); omega, ?_⟩
    have a1 := sT A; have a2 := sD (A + 2)
    obtain ⟨X, hX⟩ : ∃ X, X = (W.take A ++ ((W.drop A).take 2).reverse ++ W.drop (A + 2)).map D.str := ⟨_, rfl⟩
    obtain ⟨X3, hX3⟩ : ∃ X, X = (W.take A ++ ((W.drop A).take 2).reverse).map D.str := ⟨_, rfl⟩
    obtain ⟨X4, hX4⟩ : ∃ X, X = (((W.drop A).take 2).reverse).map D.str := ⟨_, rfl⟩
    obtain ⟨X5, hX5⟩ : ∃ X, X = ((W.drop A).take 2).map D.str := ⟨_, rfl⟩
    rw [← hX] at ad2 jo
    rw [← hX3] at ad ad2
    rw [← hX4] at ad sR
    rw [← hX5] at sM sR
    obtain ⟨X1, hX1⟩ : ∃ X, X = (W.take A).map D.str := ⟨_, rfl⟩
    obtain ⟨X2, hX2⟩ : ∃ X, X = (W.drop (A + 2)).map D.str := ⟨_, rfl⟩
    rw [← hX1] at ad a1
    rw [← hX2] at ad2 a2
    have n0 : ¬ (6 : Int) = 0 := by decide
    have n1 : ¬ (6 : Int) = 1 := by decide
    have n4 : ¬ (6 : Int) < 4 := by decide
    have n5 : ¬ (6 : Int) = 4 := by decide
    have n6 : ¬ (6 : Int) = 5 := by decide
    push_cast [B_376, sp, d8, mA, f1, f3, f2, f4, f5, mB, d900, ix, q7, n0, n1, n4, n5, n6, A2, a1, a2, sM, sR, ad, ad2, jo]
  · have e1 := addS_b (a := [32]) (b := t) (by rw [List.length_singleton]; omega)
    have e2 := addS_b (a := t) (b := [32]) (by rw [List.length_singleton]; omega)
    have e5 := addS_b (a := t) (b := [10]) (by rw [List.length_singleton]; omega)
    have hl := TK.replace_len (S t) (S [32]) (S [32, 32])
    rw [S_len, S_len] at hl
    have hl2 : (tl (Txt.replace (S t) (S [32]) (S [32, 32]))).length ≤ t.length + (t.length + 1) * 2 := by
      have : (tl (Txt.replace (S t) (S [32]) (S [32, 32]))).length = (Txt.replace (S t) (S [32]) (S [32, 32])).length := by simp [tl, Str.length]
      rw [this]
      exact hl
    have e3 : repD [32] [32, 32] (.str t) = some (.str (tl (Txt.replace (S t) (S [32]) (S [32, 32])))) := by
      show (if t.length + (t.length + 1) * 2 ≤ 16777216 then _ else none) = _
      rw [if_pos (by omega)]
    have e4 : mtD .supper (.str t) [] = some (.str (t.map PyProof.Rows.up1)) := by
      show (if t.all (· < 128) = true ∧ t.length ≤ 5592405 then _ else none) = _
      rw [if_pos ⟨ha, by omega⟩]
    generalize tl (Txt.replace (S t) (S [32]) (S [32, 32])) = R at *
    have lu : (t.map PyProof.Rows.up1).length = t.length := List.length_map ..
    generalize t.map PyProof.Rows.up1 = U at *
    obtain ⟨r, hr, ir⟩ := ix_modL (f := D.str) (L := [[32] ++ t, t ++ [32], R, U, t ++ [10], []]) (by simp) (c / 8) (k := 6) rfl
    simp only [List.map_cons, List.map_nil] at ir
    refine ⟨r, ?_, ?_⟩
    · simp only [List.mem_cons, List.not_mem_nil, or_false] at hr
      rcases hr with e | e | e | e | e | e
      · rw [e, List.length_append, List.length_singleton]; omega
      · rw [e, List.length_append, List.length_singleton]; omega
      · rw [e]; omega
      · rw [e]; omega
      · rw [e, List.length_append, List.length_singleton]; omega
      · rw [e]; decide
    · generalize [32] ++ t = T1 at *
      generalize t ++ [32] = T2 at *
      generalize t ++ [10] = T3 at *
      push_cast [B_376, sp, d8, mA, f1, f3, f2, f4, f5, mB, d900, ix, q0, q1, q4, q5, q6, q7, e1, e2, e3, e4, e5, ir]
/-! ### the law -/
theorem ascii_jn : ∀ {l : List (List Nat)}, (∀ w ∈ l, ∀ x ∈ w, x < 128) → ∀ x ∈ jn l, x < 128
  | [], _, x, hx => absurd hx List.not_mem_nil
  | p :: l, h, x, hx => by
    rcases List.mem_append.mp hx with q | q
    · exact h p List.mem_cons_self x q
    · obtain ⟨w, hw, q⟩ := List.mem_flatMap.mp q
      rcases List.mem_cons.mp q with q | q
      · rw [q]; decide
      · exact h w (List.mem_cons_of_mem _ hw) x q
theorem sg_ascii {w : List Nat} (h : Sg w) : ∀ x ∈ 61 :: w, x < 128 := fun x hx => by
  rcases List.mem_cons.mp hx with q | q
  · rw [q]; decide
  · exact (show ∀ x ∈ sgnL, x < 128 by decide) x (h x q)
theorem num_ascii (i : Nat) : ∀ x ∈ numS i, x < 128 := fun x hx => by
  have := dnumS_dig i x hx
  unfold isDig at this
  omega
theorem ndW_ascii : ∀ {nd : Nd}, NdOk nd → ∀ w ∈ ndW nd, ∀ x ∈ w, x < 128
  | _, .leaf (b := b) (cs := cs) hb hc hr hs h0, w, hw => by
    rcases List.mem_cons.mp hw with e | hw
    · rw [e]; decide
    · rcases List.mem_cons.mp hw with e | hw
      · rw [e]; exact sg_ascii hb
      · obtain ⟨c, q, hw⟩ := List.mem_flatMap.mp hw
        rcases List.mem_cons.mp hw with e | hw
        · rw [e]; exact sg_ascii (hc c q).1
        · rw [List.mem_singleton.mp hw]; exact num_ascii _
  | _, .branch (ms := ms) (ks := ks) hl hm hr hk, w, hw => by
    rcases List.mem_cons.mp hw with e | hw
    · rw [e]; decide
    · have go : ∀ (ms : List (List Nat)) (ks : List (Nat × Nat)), (∀ w ∈ ms, Sg w) → w ∈ brW ms ks → ∀ x ∈ w, x < 128 := fun ms => by
        induction ms with
        | nil =>
          intro ks _ h
          cases ks with
          | nil => simp [brW] at h
          | cons k ks =>
            rw [brW] at h
            rcases List.mem_cons.mp h with e | h
            · rw [e]; exact num_ascii _
            · rw [List.mem_singleton.mp h]; exact num_ascii _
        | cons m ms ih =>
          intro ks hm h
          cases ks with
          | nil => simp [brW] at h
          | cons k ks =>
            rw [brW] at h
            rcases List.mem_cons.mp h with e | h
            · rw [e]; exact num_ascii _
            · rcases List.mem_cons.mp h with e | h
              · rw [e]; exact num_ascii _
              · rcases List.mem_cons.mp h with e | h
                · rw [e]; exact sg_ascii (hm m List.mem_cons_self)
                · exact ih ks (fun w hw => hm w (List.mem_cons_of_mem _ hw)) h
      exact go ms ks hm hw
theorem nodeof_non {d : D} (h : Cl d) (hs : ∀ s, d ≠ .str s) : callF M sb (n + 1) 355 [d] m = .err 9 m := by
  rw [u_355]
  obtain ⟨s, hc⟩ := h
  cases d with
  | str s => exact absurd rfl (hs s)
  | obj i => cases hc
  | exc i => cases hc
  | _ => push_cast [B_355]
theorem main82 {ns : List Int} (hl : ns.length ≤ 63) : callF M sb (n + 8) 377 [SC ns] [] = .ok (.bl true) [] := by
  rw [u_377]
  obtain ⟨cf, hcf⟩ : ∃ cf : Cfg, cf = ⟨callF M sb (n + 7), sb⟩ := ⟨_, rfl⟩
  have hc7 : callF M sb (n + 7) = cf.call := by rw [hcf]
  obtain ⟨N, hN, hN2⟩ : ∃ N : Nat, (if (ns.length : Int) < 30 then (ns.length : Int) else 30) + 2 = (N : Int) ∧ N ≤ 32 := by
    split
    · exact ⟨ns.length + 2, by omega, by omega⟩
    · exact ⟨32, rfl, by decide⟩
  have hr := rng1_n (n := N) (by omega)
  have ce : ∀ k : Int, 0 ≤ k → k ≤ 100000 → cf.call 7 [SC ns, .int k] [] = .ok (.int (cellV ns k)) [] := fun k h1 h2 => by rw [← hc7]; exact cell_ok2 (n + 6) hl h1 (by omega) []
  have dn : ∀ {k : Nat}, k ≤ 1000 → ∃ nd, Drn nd ∧ cf.call 359 [SC ns, .int (k : Int)] [] = .ok (ndD nd) [] := fun hk => by rw [← hc7]; exact drawn_ok (n := n + 5) hl hk
  have lt : ∀ {nd : Nd}, Drn nd → cf.call 360 [ndD nd] [] = .ok (.str (ntext nd)) [] := fun h => by rw [← hc7]; exact lnodetext_ok (n := n + 6) h.v (by have := h.sz; omega)
  have spo : ∀ {t : List Nat} (hs : t.length ≤ 5000) (ha : t.all (· < 128) = true) (c : Int), ∃ t' : List Nat, t'.length ≤ 40000 ∧ cf.call 376 [.str t, .int c] [] = .ok (.str t') [] := fun hs ha c => by rw [← hc7]; exact nspoilt_ok (n := n + 6) hs ha c
  have ln : ∀ {t : List Nat}, t.length < 50000 → cf.call 365 [.str t] [] = .ok (ndO (rdT t)) [] := fun h => by rw [← hc7]; exact lnode_ok (n := n + 4) h
  have tn : ∀ {t : List Nat}, t.length < 50000 → rdT t = none → cf.call 366 [.str t] [] = .ok (.tup [.str sNoNode, .non]) [] := fun h e => by
    rw [← hc7]
    have := nodeof_ok (n := n + 3) (m := []) h
    rw [e, rdR_n] at this
    exact ntold_err this
  have ts : ∀ {t : List Nat} {nd : Nd}, t.length < 50000 → rdT t = some nd → cf.call 366 [.str t] [] = .ok (.tup [.str [], ndD nd]) [] := fun h e => by
    rw [← hc7]
    have := nodeof_ok (n := n + 3) (m := []) h
    rw [e, rdR_s] at this
    exact ntold_ok this
  have al : ∀ {t : List Nat} {nd : Nd}, t.length < 50000 → rdT t = some nd → cf.call 29 [ndD nd, ndD nd] [] = .ok (.bl true) [] := fun h e => by
    rw [← hc7]
    exact alike_self (n := n + 3) 3 (nd_dep _) (nd_al (by rw [rdT_back e]; exact h) (rdT_V e))
  have nt : ∀ {t : List Nat} {nd : Nd}, t.length < 50000 → rdT t = some nd → cf.call 349 [ndD nd] [] = .ok (.str t) [] := fun h e => by
    rw [← hc7]
    have := nodetext_ok (n := n + 5) (m := []) (rdT_V e) (by rw [rdT_back e]; exact h)
    rw [rdT_back e] at this
    exact this
  have tx : ∀ {d : D}, Cl d → (∀ s, d ≠ .str s) → cf.call 366 [d] [] = .ok (.tup [.str sNoNode, .non]) [] := fun h hs => by
    rw [← hc7]
    exact ntold_err (nodeof_non (n := n + 5) h hs)
  rw [← hcf]
  unfold sNoNode at tn tx
  -- what stands behind the text
  have rest : ∀ (j : Nat) (t : List Nat), t.length < 50000 → evSs cf (match B_377_b0 with | .cons _ (.cons _ r) => r | r => r) [some (SC ns), some (.int (j : Nat)), none, some (.str t), none, none, none] [] = .nxt [some (SC ns), none, none, none, none, none, none] [] := fun j t ht => by
    have l1 := ln ht
    cases hrd : rdT t with
    | none =>
      rw [hrd, ndO_n] at l1
      have l2 := tn ht hrd
      push_cast [B_377_b0, l1, l2]
    | some nd =>
      rw [hrd, ndO_s] at l1
      have l2 := ts ht hrd
      have l3 := al ht hrd
      have l4 := nt ht hrd
      have hn : isNon (ndD nd) = false := by cases nd <;> rfl
      generalize ndD nd = X at *
      push_cast [B_377_b0, l1, l2, l3, l4, hn]
  have eB : B_377_b0 = .cons (match B_377_b0 with | .cons a _ => a | _ => .pas) (.cons (match B_377_b0 with | .cons _ (.cons a _) => a | _ => .pas) (match B_377_b0 with | .cons _ (.cons _ r) => r | r => r)) := rfl
  obtain ⟨RR, hRR⟩ : ∃ RR, RR = (match B_377_b0 with | .cons _ (.cons _ r) => r | r => r) := ⟨_, rfl⟩
  rw [← hRR] at rest eB
  have loop := for_const (tg := .one 1) (b := fun ρ m => evSs cf B_377_b0 ρ m) (z := .mk) (enc := fun k => D.int (k : Nat)) (ρ := [some (SC ns), none, none, none, none, none, none]) (m := []) (l := List.range N) fun j hj => by
    have hj' := List.mem_range.mp hj
    obtain ⟨nd, d1, d2⟩ := dn (k := j) (by omega)
    have d3 := lt d1
    have z := d1.sz
    have c1 := ce (9000 + (j : Int)) (by omega) (by omega)
    have c2 := ce (9100 + (j : Int)) (by omega) (by omega)
    have asc : (ntext nd).all (· < 128) = true := List.all_eq_true.mpr fun x hx => decide_eq_true (ascii_jn (ndW_ascii d1.ok) x hx)
    generalize cellV ns (9000 + (j : Int)) = u1 at c1
    generalize cellV ns (9100 + (j : Int)) = u2 at c2
    obtain ⟨t1, t2, t3⟩ := spo (t := ntext nd) (by omega) asc u2
    have r1 := rest j t1 (by omega)
    have r2 := rest j (ntext nd) (by omega)
    generalize ndD nd = X at *
    generalize ntext nd = T at *
    show evSs cf B_377_b0 [some (SC ns), some (.int (j : Nat)), none, none, none, none, none] [] = _
    rw [eB]
    by_cases q : 0 < u1 % 4
    · push_cast [B_377_b0, d2, d3, c1, q, c2, t3]
      exact r1
    · push_cast [B_377_b0, d2, d3, c1, q]
      exact r2
  have c9 := ce 9999 (by decide) (by decide)
  generalize cellV ns 9999 = w at c9
  obtain ⟨d, hd1, hd2, hi⟩ : ∃ d, Cl d ∧ (∀ s, d ≠ .str s) ∧ idxD (.lst [.non, .int 5, .bl true, .tup [.str [108, 101, 97, 102], .str [], .tup []], .lst [.str [108, 101, 97, 102, 32, 61]], .dic [], .tup [.int 1], .lst [], .tup []]) (.int (w % 9)) = some d := by
    obtain ⟨d, hd, hi⟩ := ix_modL (f := id) (L := [.non, .int 5, .bl true, .tup [.str [108, 101, 97, 102], .str [], .tup []], .lst [.str [108, 101, 97, 102, 32, 61]], .dic [], .tup [.int 1], .lst [], .tup []]) (by decide) w (k := 9) rfl
    refine ⟨d, ?_, ?_, by rw [List.map_id] at hi; exact hi⟩
    · simp only [List.mem_cons, List.not_mem_nil, or_false] at hd
      rcases hd with rfl | rfl | rfl | rfl | rfl | rfl | rfl | rfl | rfl <;> exact ⟨_, rfl⟩
    · simp only [List.mem_cons, List.not_mem_nil, or_false] at hd
      rcases hd with rfl | rfl | rfl | rfl | rfl | rfl | rfl | rfl | rfl <;> exact fun s h => by cases h
  have td := tx hd1 hd2
  push_cast [B_377, hN, hr, loop, c9, hi, td]
end
end MP

set_option maxRecDepth 100000
set_option maxHeartbeats 8000000
set_option autoImplicit false
namespace MP
open PySem L2
/-! ### the table of the law -/
def top (i : Nat) : Stmt := PySem.Challenge.pw_heldleaves_k82_node_texts_refused.main.body.getD i (.Pass ⟨0, 0, 0, 0⟩)
def e_35 : Df := ⟨"shared", top 16, ["texts", "one", "other", "many"], ["texts"], [], F_35⟩
def e_347 : Df := ⟨"leaf_words", top 21, ["leaf", "words", "rest", "value"], ["leaf"], [], F_347⟩
def e_348 : Df := ⟨"branch_words", top 22, ["branch", "words", "turn", "kid"], ["branch"], [1], F_348⟩
def e_349 : Df := ⟨"node_text", top 23, ["made"], ["made"], [], F_349⟩
def e_350 : Df := ⟨"number_in", top 24, ["word", "most", "sign"], ["word", "most"], [], F_350⟩
def e_351 : Df := ⟨"text_in", top 25, ["word", "sign"], ["word"], [], F_351⟩
def e_352 : Df := ⟨"need_rising", top 26, ["texts", "here"], ["texts"], [], F_352⟩
def e_353 : Df := ⟨"leaf_in", top 27, ["words", "beginning", "rests", "values", "word"], ["words"], [], F_353⟩
def e_354 : Df := ⟨"branch_in", top 28, ["words", "marks", "places", "counts", "word"], ["words"], [], F_354⟩
def e_355 : Df := ⟨"node_of", top 29, ["text", "words"], ["text"], [], F_355⟩
def e_7 : Df := ⟨"_law_cell", top 31, ["_law_script", "_law_k", "_law_cell_here", "_law_more", "_law_found", "_law_turn", "_law_wide"], ["_law_script", "_law_k"], [], F_7⟩
def e_141 : Df := ⟨"_law_value", top 32, ["_law_cell_here", "_law_big", "_law_turn"], ["_law_cell_here"], [], F_141⟩
def e_358 : Df := ⟨"_law_rest", top 33, ["_law_cell_here", "_law_size", "_law_some", "_law_text", "_law_k"], ["_law_cell_here", "_law_size"], [], F_358⟩
def e_359 : Df := ⟨"_law_drawn_node", top 34, ["_law_script", "_law_k", "_law_cell_here", "_law_count", "_law_texts", "_law_row", "_law_beginning", "_law_kids", "_law_n", "_law_text"], ["_law_script", "_law_k"], [], F_359⟩
def e_360 : Df := ⟨"_law_node_text", top 35, ["_law_made", "_law_text", "_law_k", "_law_rest_here", "_law_value_here"], ["_law_made"], [], F_360⟩
def e_29 : Df := ⟨"_law_alike", top 36, ["_law_found", "_law_due", "_law_k"], ["_law_found", "_law_due"], [], F_29⟩
def e_14 : Df := ⟨"_law_word_of", top 37, ["_law_error", "_law_found"], ["_law_error"], [1], F_14⟩
def e_376 : Df := ⟨"_law_spoilt", top 38, ["_law_text", "_law_cell_here", "_law_words", "_law_at", "_law_some", "_law_spot", "_law_sign"], ["_law_text", "_law_cell_here"], [], F_376⟩
def e_361 : Df := ⟨"_law_figures", top 39, ["_law_word", "_law_most", "_law_sign"], ["_law_word", "_law_most"], [], F_361⟩
def e_362 : Df := ⟨"_law_plain", top 40, ["_law_word", "_law_sign"], ["_law_word"], [], F_362⟩
def e_363 : Df := ⟨"_law_rising", top 41, ["_law_texts", "_law_k"], ["_law_texts"], [], F_363⟩
def e_364 : Df := ⟨"_law_leaf", top 42, ["_law_words", "_law_texts", "_law_values", "_law_first", "_law_word", "_law_text", "_law_k"], ["_law_words"], [], F_364⟩
def e_365 : Df := ⟨"_law_node", top 43, ["_law_text", "_law_words", "_law_marks", "_law_pages", "_law_counts", "_law_word", "_law_k"], ["_law_text"], [], F_365⟩
def e_366 : Df := ⟨"_law_told", top 44, ["_law_text", "_law_found", "_law_error", "e"], ["_law_text"], [], F_366⟩
def e_377 : Df := ⟨"law", top 45, ["_law_script", "_law_k", "_law_odd", "_law_text", "_law_due", "_law_word", "_law_found"], ["_law_script"], [], F_377⟩
def tbl : List (Nat × Df) := [(35, e_35), (347, e_347), (348, e_348), (349, e_349), (350, e_350), (351, e_351), (352, e_352), (353, e_353), (354, e_354), (355, e_355), (7, e_7), (141, e_141), (358, e_358), (359, e_359), (360, e_360), (29, e_29), (14, e_14), (376, e_376), (361, e_361), (362, e_362), (363, e_363), (364, e_364), (365, e_365), (366, e_366), (377, e_377)]
def gcs : List (Str × D) := [("FIGURES", (.str [48, 49, 50, 51, 52, 53, 54, 55, 56, 57])), ("SIGNS", (.str [65, 66, 67, 68, 69, 70, 71, 72, 73, 74, 75, 76, 97, 98, 99, 100, 101, 102, 103, 104, 105, 106, 107, 108, 109, 110, 111, 112, 113, 114, 115, 116, 117, 118, 119, 120, 121, 122, 48, 49, 50, 51, 52, 53, 54, 55, 56, 57, 46])), ("VALUE_FIGURES", (.int 60)), ("PAGE_FIGURES", (.int 6))]
theorem tbl_ok : (tbl.all fun p => fnB (fnsOf tbl) gcs EXs p.2) = true := by decide +kernel
theorem tbl_M : ∀ (k : Nat) (d : Df), (k, d) ∈ tbl → M k = some d.ir := by
  intro k d h
  simp only [tbl, List.mem_cons, List.not_mem_nil, or_false, Prod.mk.injEq] at h
  rcases h with ⟨rfl, rfl⟩ | ⟨rfl, rfl⟩ | ⟨rfl, rfl⟩ | ⟨rfl, rfl⟩ | ⟨rfl, rfl⟩ | ⟨rfl, rfl⟩ | ⟨rfl, rfl⟩ | ⟨rfl, rfl⟩ | ⟨rfl, rfl⟩ | ⟨rfl, rfl⟩ | ⟨rfl, rfl⟩ | ⟨rfl, rfl⟩ | ⟨rfl, rfl⟩ | ⟨rfl, rfl⟩ | ⟨rfl, rfl⟩ | ⟨rfl, rfl⟩ | ⟨rfl, rfl⟩ | ⟨rfl, rfl⟩ | ⟨rfl, rfl⟩ | ⟨rfl, rfl⟩ | ⟨rfl, rfl⟩ | ⟨rfl, rfl⟩ | ⟨rfl, rfl⟩ | ⟨rfl, rfl⟩ | ⟨rfl, rfl⟩
  all_goals rfl
/-! ### the head -/
theorem kitCls_me {K : PySem.W.Frag} {C : Addr} (hi : PySem.W.isClsIn K C = true) (ht : PySem.W.typeIn K (.ref C) = some (.type "type")) (hs : PySem.W.subIn K (.ref C) (.ref C) = some true) : PySem.W.kitCls K (.ref C) (.ref C) = some true := by
  show (if ((PySem.W.clsIn K C).isSome && PySem.W.typeIn K (.ref C) == some (.type "type")) = true then PySem.W.subIn K (.ref C) (.ref C) else none) = _
  have e : (PySem.W.clsIn K C).isSome = true := hi
  rw [e, ht, hs]
  rfl
def FU : Nat := 12
theorem head_mk (main : ∀ ns : List Int, ns.length ≤ 63 → ∃ m, callF M sb FU 377 [.lst (ns.map D.int)] [] = .ok (.bl true) m) {l : PySem.W.OpenLaw} {w : World} {K : PySem.W.Frag} {h : Heap} {mg : Str → Option Value} {fa : Addr} (X : K.In h) (G : h.Ns mainGlobals mg) (hfa : mg "law" = some (.ref fa))
    {f0 f1 f2 f3 f4 f5 f6 f7 f8 f9 f10 f11 f12 f13 f14 f15 f16 f17 f18 f19 f20 f21 f22 f23 f24 : Addr} {od0 an0 od1 an1 od2 an2 od3 an3 od4 an4 od5 an5 od6 an6 od7 an7 od8 an8 od9 an9 od10 an10 od11 an11 od12 an12 od13 an13 od14 an14 od15 an15 od16 an16 od17 an17 od18 an18 od19 an19 od20 an20 od21 an21 od22 an22 od23 an23 od24 an24 : Option Addr} {sl0 sl1 sl2 sl3 sl4 sl5 sl6 sl7 sl8 sl9 sl10 sl11 sl12 sl13 sl14 sl15 sl16 sl17 sl18 sl19 sl20 sl21 sl22 sl23 sl24 : Array (Option Value)} {oc0 kV0 dc0 pm0 cd0 ct0 oc1 kV1 dc1 pm1 cd1 ct1 oc2 kV2 dc2 pm2 cd2 ct2 oc3 kV3 dc3 pm3 cd3 ct3 oc4 kV4 dc4 pm4 cd4 ct4 oc5 kV5 dc5 pm5 cd5 ct5 oc6 kV6 dc6 pm6 cd6 ct6 oc7 kV7 dc7 pm7 cd7 ct7 oc8 kV8 dc8 pm8 cd8 ct8 oc9 kV9 dc9 pm9 cd9 ct9 oc10 kV10 dc10 pm10 cd10 ct10 oc11 kV11 dc11 pm11 cd11 ct11 oc12 kV12 dc12 pm12 cd12 ct12 oc13 kV13 dc13 pm13 cd13 ct13 oc14 kV14 dc14 pm14 cd14 ct14 oc15 kV15 dc15 pm15 cd15 ct15 oc16 kV16 dc16 pm16 cd16 ct16 oc17 kV17 dc17 pm17 cd17 ct17 oc18 kV18 dc18 pm18 cd18 ct18 oc19 kV19 dc19 pm19 cd19 ct19 oc20 kV20 dc20 pm20 cd20 ct20 oc21 kV21 dc21 pm21 cd21 ct21 oc22 kV22 dc22 pm22 cd22 ct22 oc23 kV23 dc23 pm23 cd23 ct23 oc24 kV24 dc24 pm24 cd24 ct24 : Value} {x0 : Addr} {x1 : Addr} {x2 : Addr} {x3 : Addr} {x4 : Addr} {x5 : Addr} {x6 : Addr} {x7 : Addr} {x8 : Addr} {x9 : Addr} {x10 : Addr} {t0 : Nat} {t1 : Nat} {t2 : Nat} {t3 : Nat}
    (a0 : PySem.W.nsIn K mainGlobals "shared" = some (some (.ref f0)))
    (l0 : K.lookup f0 = some ⟨oc0, od0, .func (PySem.W.fnOf "shared" "shared" (defArgs (top 16)) (defBody (top 16)) (defScope (top 16)) .none kV0 dc0 pm0 an0 cd0 ct0), sl0⟩)
    (c0 : PySem.W.codeIn K cd0 "shared" = true) (k0 : PySem.W.keepIn K (.ref f0) = true)
    (a1 : PySem.W.nsIn K mainGlobals "leaf_words" = some (some (.ref f1)))
    (l1 : K.lookup f1 = some ⟨oc1, od1, .func (PySem.W.fnOf "leaf_words" "leaf_words" (defArgs (top 21)) (defBody (top 21)) (defScope (top 21)) .none kV1 dc1 pm1 an1 cd1 ct1), sl1⟩)
    (c1 : PySem.W.codeIn K cd1 "leaf_words" = true) (k1 : PySem.W.keepIn K (.ref f1) = true)
    (a2 : PySem.W.nsIn K mainGlobals "branch_words" = some (some (.ref f2)))
    (l2 : K.lookup f2 = some ⟨oc2, od2, .func (PySem.W.fnOf "branch_words" "branch_words" (defArgs (top 22)) (defBody (top 22)) (defScope (top 22)) .none kV2 dc2 pm2 an2 cd2 ct2), sl2⟩)
    (c2 : PySem.W.codeIn K cd2 "branch_words" = true) (k2 : PySem.W.keepIn K (.ref f2) = true)
    (a3 : PySem.W.nsIn K mainGlobals "node_text" = some (some (.ref f3)))
    (l3 : K.lookup f3 = some ⟨oc3, od3, .func (PySem.W.fnOf "node_text" "node_text" (defArgs (top 23)) (defBody (top 23)) (defScope (top 23)) .none kV3 dc3 pm3 an3 cd3 ct3), sl3⟩)
    (c3 : PySem.W.codeIn K cd3 "node_text" = true) (k3 : PySem.W.keepIn K (.ref f3) = true)
    (a4 : PySem.W.nsIn K mainGlobals "number_in" = some (some (.ref f4)))
    (l4 : K.lookup f4 = some ⟨oc4, od4, .func (PySem.W.fnOf "number_in" "number_in" (defArgs (top 24)) (defBody (top 24)) (defScope (top 24)) .none kV4 dc4 pm4 an4 cd4 ct4), sl4⟩)
    (c4 : PySem.W.codeIn K cd4 "number_in" = true) (k4 : PySem.W.keepIn K (.ref f4) = true)
    (a5 : PySem.W.nsIn K mainGlobals "text_in" = some (some (.ref f5)))
    (l5 : K.lookup f5 = some ⟨oc5, od5, .func (PySem.W.fnOf "text_in" "text_in" (defArgs (top 25)) (defBody (top 25)) (defScope (top 25)) .none kV5 dc5 pm5 an5 cd5 ct5), sl5⟩)
    (c5 : PySem.W.codeIn K cd5 "text_in" = true) (k5 : PySem.W.keepIn K (.ref f5) = true)
    (a6 : PySem.W.nsIn K mainGlobals "need_rising" = some (some (.ref f6)))
    (l6 : K.lookup f6 = some ⟨oc6, od6, .func (PySem.W.fnOf "need_rising" "need_rising" (defArgs (top 26)) (defBody (top 26)) (defScope (top 26)) .none kV6 dc6 pm6 an6 cd6 ct6), sl6⟩)
    (c6 : PySem.W.codeIn K cd6 "need_rising" = true) (k6 : PySem.W.keepIn K (.ref f6) = true)
    (a7 : PySem.W.nsIn K mainGlobals "leaf_in" = some (some (.ref f7)))
    (l7 : K.lookup f7 = some ⟨oc7, od7, .func (PySem.W.fnOf "leaf_in" "leaf_in" (defArgs (top 27)) (defBody (top 27)) (defScope (top 27)) .none kV7 dc7 pm7 an7 cd7 ct7), sl7⟩)
    (c7 : PySem.W.codeIn K cd7 "leaf_in" = true) (k7 : PySem.W.keepIn K (.ref f7) = true)
    (a8 : PySem.W.nsIn K mainGlobals "branch_in" = some (some (.ref f8)))
    (l8 : K.lookup f8 = some ⟨oc8, od8, .func (PySem.W.fnOf "branch_in" "branch_in" (defArgs (top 28)) (defBody (top 28)) (defScope (top 28)) .none kV8 dc8 pm8 an8 cd8 ct8), sl8⟩)
    (c8 : PySem.W.codeIn K cd8 "branch_in" = true) (k8 : PySem.W.keepIn K (.ref f8) = true)
    (a9 : PySem.W.nsIn K mainGlobals "node_of" = some (some (.ref f9)))
    (l9 : K.lookup f9 = some ⟨oc9, od9, .func (PySem.W.fnOf "node_of" "node_of" (defArgs (top 29)) (defBody (top 29)) (defScope (top 29)) .none kV9 dc9 pm9 an9 cd9 ct9), sl9⟩)
    (c9 : PySem.W.codeIn K cd9 "node_of" = true) (k9 : PySem.W.keepIn K (.ref f9) = true)
    (a10 : PySem.W.nsIn K mainGlobals "_law_cell" = some (some (.ref f10)))
    (l10 : K.lookup f10 = some ⟨oc10, od10, .func (PySem.W.fnOf "_law_cell" "_law_cell" (defArgs (top 31)) (defBody (top 31)) (defScope (top 31)) .none kV10 dc10 pm10 an10 cd10 ct10), sl10⟩)
    (c10 : PySem.W.codeIn K cd10 "_law_cell" = true) (k10 : PySem.W.keepIn K (.ref f10) = true)
    (a11 : PySem.W.nsIn K mainGlobals "_law_value" = some (some (.ref f11)))
    (l11 : K.lookup f11 = some ⟨oc11, od11, .func (PySem.W.fnOf "_law_value" "_law_value" (defArgs (top 32)) (defBody (top 32)) (defScope (top 32)) .none kV11 dc11 pm11 an11 cd11 ct11), sl11⟩)
    (c11 : PySem.W.codeIn K cd11 "_law_value" = true) (k11 : PySem.W.keepIn K (.ref f11) = true)
    (a12 : PySem.W.nsIn K mainGlobals "_law_rest" = some (some (.ref f12)))
    (l12 : K.lookup f12 = some ⟨oc12, od12, .func (PySem.W.fnOf "_law_rest" "_law_rest" (defArgs (top 33)) (defBody (top 33)) (defScope (top 33)) .none kV12 dc12 pm12 an12 cd12 ct12), sl12⟩)
    (c12 : PySem.W.codeIn K cd12 "_law_rest" = true) (k12 : PySem.W.keepIn K (.ref f12) = true)
    (a13 : PySem.W.nsIn K mainGlobals "_law_drawn_node" = some (some (.ref f13)))
    (l13 : K.lookup f13 = some ⟨oc13, od13, .func (PySem.W.fnOf "_law_drawn_node" "_law_drawn_node" (defArgs (top 34)) (defBody (top 34)) (defScope (top 34)) .none kV13 dc13 pm13 an13 cd13 ct13), sl13⟩)
    (c13 : PySem.W.codeIn K cd13 "_law_drawn_node" = true) (k13 : PySem.W.keepIn K (.ref f13) = true)
    (a14 : PySem.W.nsIn K mainGlobals "_law_node_text" = some (some (.ref f14)))
    (l14 : K.lookup f14 = some ⟨oc14, od14, .func (PySem.W.fnOf "_law_node_text" "_law_node_text" (defArgs (top 35)) (defBody (top 35)) (defScope (top 35)) .none kV14 dc14 pm14 an14 cd14 ct14), sl14⟩)
    (c14 : PySem.W.codeIn K cd14 "_law_node_text" = true) (k14 : PySem.W.keepIn K (.ref f14) = true)
    (a15 : PySem.W.nsIn K mainGlobals "_law_alike" = some (some (.ref f15)))
    (l15 : K.lookup f15 = some ⟨oc15, od15, .func (PySem.W.fnOf "_law_alike" "_law_alike" (defArgs (top 36)) (defBody (top 36)) (defScope (top 36)) .none kV15 dc15 pm15 an15 cd15 ct15), sl15⟩)
    (c15 : PySem.W.codeIn K cd15 "_law_alike" = true) (k15 : PySem.W.keepIn K (.ref f15) = true)
    (a16 : PySem.W.nsIn K mainGlobals "_law_word_of" = some (some (.ref f16)))
    (l16 : K.lookup f16 = some ⟨oc16, od16, .func (PySem.W.fnOf "_law_word_of" "_law_word_of" (defArgs (top 37)) (defBody (top 37)) (defScope (top 37)) .none kV16 dc16 pm16 an16 cd16 ct16), sl16⟩)
    (c16 : PySem.W.codeIn K cd16 "_law_word_of" = true) (k16 : PySem.W.keepIn K (.ref f16) = true)
    (a17 : PySem.W.nsIn K mainGlobals "_law_spoilt" = some (some (.ref f17)))
    (l17 : K.lookup f17 = some ⟨oc17, od17, .func (PySem.W.fnOf "_law_spoilt" "_law_spoilt" (defArgs (top 38)) (defBody (top 38)) (defScope (top 38)) .none kV17 dc17 pm17 an17 cd17 ct17), sl17⟩)
    (c17 : PySem.W.codeIn K cd17 "_law_spoilt" = true) (k17 : PySem.W.keepIn K (.ref f17) = true)
    (a18 : PySem.W.nsIn K mainGlobals "_law_figures" = some (some (.ref f18)))
    (l18 : K.lookup f18 = some ⟨oc18, od18, .func (PySem.W.fnOf "_law_figures" "_law_figures" (defArgs (top 39)) (defBody (top 39)) (defScope (top 39)) .none kV18 dc18 pm18 an18 cd18 ct18), sl18⟩)
    (c18 : PySem.W.codeIn K cd18 "_law_figures" = true) (k18 : PySem.W.keepIn K (.ref f18) = true)
    (a19 : PySem.W.nsIn K mainGlobals "_law_plain" = some (some (.ref f19)))
    (l19 : K.lookup f19 = some ⟨oc19, od19, .func (PySem.W.fnOf "_law_plain" "_law_plain" (defArgs (top 40)) (defBody (top 40)) (defScope (top 40)) .none kV19 dc19 pm19 an19 cd19 ct19), sl19⟩)
    (c19 : PySem.W.codeIn K cd19 "_law_plain" = true) (k19 : PySem.W.keepIn K (.ref f19) = true)
    (a20 : PySem.W.nsIn K mainGlobals "_law_rising" = some (some (.ref f20)))
    (l20 : K.lookup f20 = some ⟨oc20, od20, .func (PySem.W.fnOf "_law_rising" "_law_rising" (defArgs (top 41)) (defBody (top 41)) (defScope (top 41)) .none kV20 dc20 pm20 an20 cd20 ct20), sl20⟩)
    (c20 : PySem.W.codeIn K cd20 "_law_rising" = true) (k20 : PySem.W.keepIn K (.ref f20) = true)
    (a21 : PySem.W.nsIn K mainGlobals "_law_leaf" = some (some (.ref f21)))
    (l21 : K.lookup f21 = some ⟨oc21, od21, .func (PySem.W.fnOf "_law_leaf" "_law_leaf" (defArgs (top 42)) (defBody (top 42)) (defScope (top 42)) .none kV21 dc21 pm21 an21 cd21 ct21), sl21⟩)
    (c21 : PySem.W.codeIn K cd21 "_law_leaf" = true) (k21 : PySem.W.keepIn K (.ref f21) = true)
    (a22 : PySem.W.nsIn K mainGlobals "_law_node" = some (some (.ref f22)))
    (l22 : K.lookup f22 = some ⟨oc22, od22, .func (PySem.W.fnOf "_law_node" "_law_node" (defArgs (top 43)) (defBody (top 43)) (defScope (top 43)) .none kV22 dc22 pm22 an22 cd22 ct22), sl22⟩)
    (c22 : PySem.W.codeIn K cd22 "_law_node" = true) (k22 : PySem.W.keepIn K (.ref f22) = true)
    (a23 : PySem.W.nsIn K mainGlobals "_law_told" = some (some (.ref f23)))
    (l23 : K.lookup f23 = some ⟨oc23, od23, .func (PySem.W.fnOf "_law_told" "_law_told" (defArgs (top 44)) (defBody (top 44)) (defScope (top 44)) .none kV23 dc23 pm23 an23 cd23 ct23), sl23⟩)
    (c23 : PySem.W.codeIn K cd23 "_law_told" = true) (k23 : PySem.W.keepIn K (.ref f23) = true)
    (a24 : PySem.W.nsIn K mainGlobals "law" = some (some (.ref f24)))
    (l24 : K.lookup f24 = some ⟨oc24, od24, .func (PySem.W.fnOf "law" "law" (defArgs (top 45)) (defBody (top 45)) (defScope (top 45)) .none kV24 dc24 pm24 an24 cd24 ct24), sl24⟩)
    (c24 : PySem.W.codeIn K cd24 "law" = true) (k24 : PySem.W.keepIn K (.ref f24) = true)
    (z0 : PySem.W.nsIn K mainGlobals "len" = some none)
    (z1 : PySem.W.nsIn K mainGlobals "sum" = some none)
    (z2 : PySem.W.nsIn K mainGlobals "sorted" = some none)
    (z3 : PySem.W.nsIn K mainGlobals "min" = some none)
    (z4 : PySem.W.nsIn K mainGlobals "max" = some none)
    (z5 : PySem.W.nsIn K mainGlobals "all" = some none)
    (z6 : PySem.W.nsIn K mainGlobals "any" = some none)
    (z7 : PySem.W.nsIn K mainGlobals "list" = some none)
    (z8 : PySem.W.nsIn K mainGlobals "tuple" = some none)
    (z9 : PySem.W.nsIn K mainGlobals "str" = some none)
    (z10 : PySem.W.nsIn K mainGlobals "int" = some none)
    (z11 : PySem.W.nsIn K mainGlobals "dict" = some none)
    (z12 : PySem.W.nsIn K mainGlobals "bool" = some none)
    (z13 : PySem.W.nsIn K mainGlobals "isinstance" = some none)
    (z14 : PySem.W.nsIn K mainGlobals "range" = some none)
    (z15 : PySem.W.nsIn K mainGlobals "zip" = some none)
    (z16 : PySem.W.nsIn K mainGlobals "enumerate" = some none)
    (z17 : PySem.W.nsIn K mainGlobals "reversed" = some none)
    (g0 : PySem.W.nsIn K mainGlobals "FIGURES" = some (some (.str (S [48, 49, 50, 51, 52, 53, 54, 55, 56, 57]) t0)))
    (g1 : PySem.W.nsIn K mainGlobals "SIGNS" = some (some (.str (S [65, 66, 67, 68, 69, 70, 71, 72, 73, 74, 75, 76, 97, 98, 99, 100, 101, 102, 103, 104, 105, 106, 107, 108, 109, 110, 111, 112, 113, 114, 115, 116, 117, 118, 119, 120, 121, 122, 48, 49, 50, 51, 52, 53, 54, 55, 56, 57, 46]) t1)))
    (g2 : PySem.W.nsIn K mainGlobals "VALUE_FIGURES" = some (some (.int 60 t2)))
    (g3 : PySem.W.nsIn K mainGlobals "PAGE_FIGURES" = some (some (.int 6 t3)))
    (xn0 : PySem.W.nsIn K mainGlobals "LeafError" = some (some (.ref x0)))
    (xs0 : PySem.W.subIn K (.ref x0) (.type "BaseException") = some true)
    (xo0 : PySem.W.kitOne K (.type "NoneType") (.ref x0) = some false)
    (xn1 : PySem.W.nsIn K mainGlobals "NoKey" = some (some (.ref x1)))
    (xs1 : PySem.W.subIn K (.ref x1) (.type "BaseException") = some true)
    (xo1 : PySem.W.kitOne K (.type "NoneType") (.ref x1) = some false)
    (xn2 : PySem.W.nsIn K mainGlobals "NoValue" = some (some (.ref x2)))
    (xs2 : PySem.W.subIn K (.ref x2) (.type "BaseException") = some true)
    (xo2 : PySem.W.kitOne K (.type "NoneType") (.ref x2) = some false)
    (xn3 : PySem.W.nsIn K mainGlobals "NoCode" = some (some (.ref x3)))
    (xs3 : PySem.W.subIn K (.ref x3) (.type "BaseException") = some true)
    (xo3 : PySem.W.kitOne K (.type "NoneType") (.ref x3) = some false)
    (xn4 : PySem.W.nsIn K mainGlobals "NoRoom" = some (some (.ref x4)))
    (xs4 : PySem.W.subIn K (.ref x4) (.type "BaseException") = some true)
    (xo4 : PySem.W.kitOne K (.type "NoneType") (.ref x4) = some false)
    (xn5 : PySem.W.nsIn K mainGlobals "NoPage" = some (some (.ref x5)))
    (xs5 : PySem.W.subIn K (.ref x5) (.type "BaseException") = some true)
    (xo5 : PySem.W.kitOne K (.type "NoneType") (.ref x5) = some false)
    (xn6 : PySem.W.nsIn K mainGlobals "NoPlace" = some (some (.ref x6)))
    (xs6 : PySem.W.subIn K (.ref x6) (.type "BaseException") = some true)
    (xo6 : PySem.W.kitOne K (.type "NoneType") (.ref x6) = some false)
    (xn7 : PySem.W.nsIn K mainGlobals "NoVersion" = some (some (.ref x7)))
    (xs7 : PySem.W.subIn K (.ref x7) (.type "BaseException") = some true)
    (xo7 : PySem.W.kitOne K (.type "NoneType") (.ref x7) = some false)
    (xn8 : PySem.W.nsIn K mainGlobals "NoMark" = some (some (.ref x8)))
    (xs8 : PySem.W.subIn K (.ref x8) (.type "BaseException") = some true)
    (xo8 : PySem.W.kitOne K (.type "NoneType") (.ref x8) = some false)
    (xn9 : PySem.W.nsIn K mainGlobals "NoNode" = some (some (.ref x9)))
    (xs9 : PySem.W.subIn K (.ref x9) (.type "BaseException") = some true)
    (xo9 : PySem.W.kitOne K (.type "NoneType") (.ref x9) = some false)
    (xn10 : PySem.W.nsIn K mainGlobals "NoRow" = some (some (.ref x10)))
    (xs10 : PySem.W.subIn K (.ref x10) (.type "BaseException") = some true)
    (xo10 : PySem.W.kitOne K (.type "NoneType") (.ref x10) = some false)
    (xz11 : PySem.W.nsIn K mainGlobals "ValueError" = some none)
    (xs11 : PySem.W.subIn K (.type "ValueError") (.type "BaseException") = some true)
    (xo11 : PySem.W.kitOne K (.type "NoneType") (.type "ValueError") = some false)
    (xe0 : PySem.W.excIn K x0 [.type "ValueError", .type "Exception", .type "BaseException", .type "object"] "ValueError.__new__" = true)
    (xk0 : PySem.W.keepIn K (.ref x0) = true)
    (xt0 : PySem.W.typeIn K (.ref x0) = some (.type "type"))
    (xe1 : PySem.W.excIn K x1 [.type "ValueError", .type "Exception", .type "BaseException", .type "object"] "ValueError.__new__" = true)
    (xk1 : PySem.W.keepIn K (.ref x1) = true)
    (xt1 : PySem.W.typeIn K (.ref x1) = some (.type "type"))
    (xe2 : PySem.W.excIn K x2 [.type "ValueError", .type "Exception", .type "BaseException", .type "object"] "ValueError.__new__" = true)
    (xk2 : PySem.W.keepIn K (.ref x2) = true)
    (xt2 : PySem.W.typeIn K (.ref x2) = some (.type "type"))
    (xe3 : PySem.W.excIn K x3 [.type "ValueError", .type "Exception", .type "BaseException", .type "object"] "ValueError.__new__" = true)
    (xk3 : PySem.W.keepIn K (.ref x3) = true)
    (xt3 : PySem.W.typeIn K (.ref x3) = some (.type "type"))
    (xe4 : PySem.W.excIn K x4 [.type "ValueError", .type "Exception", .type "BaseException", .type "object"] "ValueError.__new__" = true)
    (xk4 : PySem.W.keepIn K (.ref x4) = true)
    (xt4 : PySem.W.typeIn K (.ref x4) = some (.type "type"))
    (xe5 : PySem.W.excIn K x5 [.type "ValueError", .type "Exception", .type "BaseException", .type "object"] "ValueError.__new__" = true)
    (xk5 : PySem.W.keepIn K (.ref x5) = true)
    (xt5 : PySem.W.typeIn K (.ref x5) = some (.type "type"))
    (xe6 : PySem.W.excIn K x6 [.type "ValueError", .type "Exception", .type "BaseException", .type "object"] "ValueError.__new__" = true)
    (xk6 : PySem.W.keepIn K (.ref x6) = true)
    (xt6 : PySem.W.typeIn K (.ref x6) = some (.type "type"))
    (xe7 : PySem.W.excIn K x7 [.type "ValueError", .type "Exception", .type "BaseException", .type "object"] "ValueError.__new__" = true)
    (xk7 : PySem.W.keepIn K (.ref x7) = true)
    (xt7 : PySem.W.typeIn K (.ref x7) = some (.type "type"))
    (xe8 : PySem.W.excIn K x8 [.type "ValueError", .type "Exception", .type "BaseException", .type "object"] "ValueError.__new__" = true)
    (xk8 : PySem.W.keepIn K (.ref x8) = true)
    (xt8 : PySem.W.typeIn K (.ref x8) = some (.type "type"))
    (xe9 : PySem.W.excIn K x9 [.type "ValueError", .type "Exception", .type "BaseException", .type "object"] "ValueError.__new__" = true)
    (xk9 : PySem.W.keepIn K (.ref x9) = true)
    (xt9 : PySem.W.typeIn K (.ref x9) = some (.type "type"))
    (xe10 : PySem.W.excIn K x10 [.type "ValueError", .type "Exception", .type "BaseException", .type "object"] "ValueError.__new__" = true)
    (xk10 : PySem.W.keepIn K (.ref x10) = true)
    (xt10 : PySem.W.typeIn K (.ref x10) = some (.type "type"))
    (xsp : PySem.W.specialIn K (.builtin "object.__class__") "__get__" = some (some (.builtin "getset_descriptor.__get__")))
    (xtk : PySem.W.takesIn K (.builtin "object.__class__") = some true)
    (xg9 : PySem.W.findIn K (.ref x9) "__getattribute__" = some (some (.builtin "BaseException.__getattribute__")))
    (xh9 : PySem.W.findIn K (.ref x9) "__getattr__" = some none)
    (xd9 : PySem.W.hasDictIn K x9 = true)
    (xc9 : PySem.W.findIn K (.ref x9) "__class__" = some (some (.builtin "object.__class__")))
    (xm9 : PySem.W.mroIn K x9 (.type "object") = some true)
    (xi9 : PySem.W.isClsIn K x9 = true)
    (xl9 : PySem.W.subIn K (.ref x9) (.ref x9) = some true)
    (xp9_0 : PySem.W.kitOne K (.ref x9) (.ref x0) = some true)
    (xp9_1 : PySem.W.kitOne K (.ref x9) (.ref x1) = some false)
    (xp9_2 : PySem.W.kitOne K (.ref x9) (.ref x2) = some false)
    (xp9_3 : PySem.W.kitOne K (.ref x9) (.ref x3) = some false)
    (xp9_4 : PySem.W.kitOne K (.ref x9) (.ref x4) = some false)
    (xp9_5 : PySem.W.kitOne K (.ref x9) (.ref x5) = some false)
    (xp9_6 : PySem.W.kitOne K (.ref x9) (.ref x6) = some false)
    (xp9_7 : PySem.W.kitOne K (.ref x9) (.ref x7) = some false)
    (xp9_8 : PySem.W.kitOne K (.ref x9) (.ref x8) = some false)
    (xp9_9 : PySem.W.kitOne K (.ref x9) (.ref x9) = some true)
    (xp9_10 : PySem.W.kitOne K (.ref x9) (.ref x10) = some false)
    (xp9_11 : PySem.W.kitOne K (.ref x9) (.type "ValueError") = some true) :
    ∃ fd : FuncData, (∀ (s : Shared) (v : Value), BindsTo s fd ⟨[v], []⟩ [("_law_script", v)]) ∧ ∀ base : Heap, K.In base → base.Ns mainGlobals mg → FnOk l.prog w K mg base (L2.CX l.prog w) FU fa fd ["_law_script"] (spScr K) := by
  have e := hfa.symm.trans (PySem.W.mg_of X G a24)
  cases e
  have F0 := fun_mk (st := top 16) l0 c0 k0
  have b0 := F0.binds (ps := e_35.ps) fun _ _ _ _ _ _ us hl => match us, hl with | [_], _ => rfl
  have F1 := fun_mk (st := top 21) l1 c1 k1
  have b1 := F1.binds (ps := e_347.ps) fun _ _ _ _ _ _ us hl => match us, hl with | [_], _ => rfl
  have F2 := fun_mk (st := top 22) l2 c2 k2
  have b2 := F2.binds (ps := e_348.ps) fun _ _ _ _ _ _ us hl => match us, hl with | [_], _ => rfl
  have F3 := fun_mk (st := top 23) l3 c3 k3
  have b3 := F3.binds (ps := e_349.ps) fun _ _ _ _ _ _ us hl => match us, hl with | [_], _ => rfl
  have F4 := fun_mk (st := top 24) l4 c4 k4
  have b4 := F4.binds (ps := e_350.ps) fun _ _ _ _ _ _ us hl => match us, hl with | [_, _], _ => rfl
  have F5 := fun_mk (st := top 25) l5 c5 k5
  have b5 := F5.binds (ps := e_351.ps) fun _ _ _ _ _ _ us hl => match us, hl with | [_], _ => rfl
  have F6 := fun_mk (st := top 26) l6 c6 k6
  have b6 := F6.binds (ps := e_352.ps) fun _ _ _ _ _ _ us hl => match us, hl with | [_], _ => rfl
  have F7 := fun_mk (st := top 27) l7 c7 k7
  have b7 := F7.binds (ps := e_353.ps) fun _ _ _ _ _ _ us hl => match us, hl with | [_], _ => rfl
  have F8 := fun_mk (st := top 28) l8 c8 k8
  have b8 := F8.binds (ps := e_354.ps) fun _ _ _ _ _ _ us hl => match us, hl with | [_], _ => rfl
  have F9 := fun_mk (st := top 29) l9 c9 k9
  have b9 := F9.binds (ps := e_355.ps) fun _ _ _ _ _ _ us hl => match us, hl with | [_], _ => rfl
  have F10 := fun_mk (st := top 31) l10 c10 k10
  have b10 := F10.binds (ps := e_7.ps) fun _ _ _ _ _ _ us hl => match us, hl with | [_, _], _ => rfl
  have F11 := fun_mk (st := top 32) l11 c11 k11
  have b11 := F11.binds (ps := e_141.ps) fun _ _ _ _ _ _ us hl => match us, hl with | [_], _ => rfl
  have F12 := fun_mk (st := top 33) l12 c12 k12
  have b12 := F12.binds (ps := e_358.ps) fun _ _ _ _ _ _ us hl => match us, hl with | [_, _], _ => rfl
  have F13 := fun_mk (st := top 34) l13 c13 k13
  have b13 := F13.binds (ps := e_359.ps) fun _ _ _ _ _ _ us hl => match us, hl with | [_, _], _ => rfl
  have F14 := fun_mk (st := top 35) l14 c14 k14
  have b14 := F14.binds (ps := e_360.ps) fun _ _ _ _ _ _ us hl => match us, hl with | [_], _ => rfl
  have F15 := fun_mk (st := top 36) l15 c15 k15
  have b15 := F15.binds (ps := e_29.ps) fun _ _ _ _ _ _ us hl => match us, hl with | [_, _], _ => rfl
  have F16 := fun_mk (st := top 37) l16 c16 k16
  have b16 := F16.binds (ps := e_14.ps) fun _ _ _ _ _ _ us hl => match us, hl with | [_], _ => rfl
  have F17 := fun_mk (st := top 38) l17 c17 k17
  have b17 := F17.binds (ps := e_376.ps) fun _ _ _ _ _ _ us hl => match us, hl with | [_, _], _ => rfl
  have F18 := fun_mk (st := top 39) l18 c18 k18
  have b18 := F18.binds (ps := e_361.ps) fun _ _ _ _ _ _ us hl => match us, hl with | [_, _], _ => rfl
  have F19 := fun_mk (st := top 40) l19 c19 k19
  have b19 := F19.binds (ps := e_362.ps) fun _ _ _ _ _ _ us hl => match us, hl with | [_], _ => rfl
  have F20 := fun_mk (st := top 41) l20 c20 k20
  have b20 := F20.binds (ps := e_363.ps) fun _ _ _ _ _ _ us hl => match us, hl with | [_], _ => rfl
  have F21 := fun_mk (st := top 42) l21 c21 k21
  have b21 := F21.binds (ps := e_364.ps) fun _ _ _ _ _ _ us hl => match us, hl with | [_], _ => rfl
  have F22 := fun_mk (st := top 43) l22 c22 k22
  have b22 := F22.binds (ps := e_365.ps) fun _ _ _ _ _ _ us hl => match us, hl with | [_], _ => rfl
  have F23 := fun_mk (st := top 44) l23 c23 k23
  have b23 := F23.binds (ps := e_366.ps) fun _ _ _ _ _ _ us hl => match us, hl with | [_], _ => rfl
  have F24 := fun_mk (st := top 45) l24 c24 k24
  have b24 := F24.binds (ps := e_377.ps) fun _ _ _ _ _ _ us hl => match us, hl with | [_], _ => rfl
  obtain ⟨q1, q2, q3, q4, q5, q6, q7⟩ := bi_of (mg := mg) (by
    intro x hx
    simp only [bnames, List.mem_cons, List.not_mem_nil, or_false] at hx
    rcases hx with rfl | rfl | rfl | rfl | rfl | rfl | rfl | rfl | rfl | rfl | rfl | rfl | rfl | rfl | rfl | rfl | rfl | rfl
    · exact PySem.W.mg_none_of X G z0
    · exact PySem.W.mg_none_of X G z1
    · exact PySem.W.mg_none_of X G z2
    · exact PySem.W.mg_none_of X G z3
    · exact PySem.W.mg_none_of X G z4
    · exact PySem.W.mg_none_of X G z5
    · exact PySem.W.mg_none_of X G z6
    · exact PySem.W.mg_none_of X G z7
    · exact PySem.W.mg_none_of X G z8
    · exact PySem.W.mg_none_of X G z9
    · exact PySem.W.mg_none_of X G z10
    · exact PySem.W.mg_none_of X G z11
    · exact PySem.W.mg_none_of X G z12
    · exact PySem.W.mg_none_of X G z13
    · exact PySem.W.mg_none_of X G z14
    · exact PySem.W.mg_none_of X G z15
    · exact PySem.W.mg_none_of X G z16
    · exact PySem.W.mg_none_of X G z17
  )
  let FA : Nat → Addr := fun k => match k with | 35 => f0 | 347 => f1 | 348 => f2 | 349 => f3 | 350 => f4 | 351 => f5 | 352 => f6 | 353 => f7 | 354 => f8 | 355 => f9 | 7 => f10 | 141 => f11 | 358 => f12 | 359 => f13 | 360 => f14 | 29 => f15 | 14 => f16 | 376 => f17 | 361 => f18 | 362 => f19 | 363 => f20 | 364 => f21 | 365 => f22 | 366 => f23 | 377 => fa | _ => 0
  let FD : Nat → FuncData := fun k => match k with | 35 => (PySem.W.fnOf "shared" "shared" (defArgs (top 16)) (defBody (top 16)) (defScope (top 16)) .none kV0 dc0 pm0 an0 cd0 ct0) | 347 => (PySem.W.fnOf "leaf_words" "leaf_words" (defArgs (top 21)) (defBody (top 21)) (defScope (top 21)) .none kV1 dc1 pm1 an1 cd1 ct1) | 348 => (PySem.W.fnOf "branch_words" "branch_words" (defArgs (top 22)) (defBody (top 22)) (defScope (top 22)) .none kV2 dc2 pm2 an2 cd2 ct2) | 349 => (PySem.W.fnOf "node_text" "node_text" (defArgs (top 23)) (defBody (top 23)) (defScope (top 23)) .none kV3 dc3 pm3 an3 cd3 ct3) | 350 => (PySem.W.fnOf "number_in" "number_in" (defArgs (top 24)) (defBody (top 24)) (defScope (top 24)) .none kV4 dc4 pm4 an4 cd4 ct4) | 351 => (PySem.W.fnOf "text_in" "text_in" (defArgs (top 25)) (defBody (top 25)) (defScope (top 25)) .none kV5 dc5 pm5 an5 cd5 ct5) | 352 => (PySem.W.fnOf "need_rising" "need_rising" (defArgs (top 26)) (defBody (top 26)) (defScope (top 26)) .none kV6 dc6 pm6 an6 cd6 ct6) | 353 => (PySem.W.fnOf "leaf_in" "leaf_in" (defArgs (top 27)) (defBody (top 27)) (defScope (top 27)) .none kV7 dc7 pm7 an7 cd7 ct7) | 354 => (PySem.W.fnOf "branch_in" "branch_in" (defArgs (top 28)) (defBody (top 28)) (defScope (top 28)) .none kV8 dc8 pm8 an8 cd8 ct8) | 355 => (PySem.W.fnOf "node_of" "node_of" (defArgs (top 29)) (defBody (top 29)) (defScope (top 29)) .none kV9 dc9 pm9 an9 cd9 ct9) | 7 => (PySem.W.fnOf "_law_cell" "_law_cell" (defArgs (top 31)) (defBody (top 31)) (defScope (top 31)) .none kV10 dc10 pm10 an10 cd10 ct10) | 141 => (PySem.W.fnOf "_law_value" "_law_value" (defArgs (top 32)) (defBody (top 32)) (defScope (top 32)) .none kV11 dc11 pm11 an11 cd11 ct11) | 358 => (PySem.W.fnOf "_law_rest" "_law_rest" (defArgs (top 33)) (defBody (top 33)) (defScope (top 33)) .none kV12 dc12 pm12 an12 cd12 ct12) | 359 => (PySem.W.fnOf "_law_drawn_node" "_law_drawn_node" (defArgs (top 34)) (defBody (top 34)) (defScope (top 34)) .none kV13 dc13 pm13 an13 cd13 ct13) | 360 => (PySem.W.fnOf "_law_node_text" "_law_node_text" (defArgs (top 35)) (defBody (top 35)) (defScope (top 35)) .none kV14 dc14 pm14 an14 cd14 ct14) | 29 => (PySem.W.fnOf "_law_alike" "_law_alike" (defArgs (top 36)) (defBody (top 36)) (defScope (top 36)) .none kV15 dc15 pm15 an15 cd15 ct15) | 14 => (PySem.W.fnOf "_law_word_of" "_law_word_of" (defArgs (top 37)) (defBody (top 37)) (defScope (top 37)) .none kV16 dc16 pm16 an16 cd16 ct16) | 376 => (PySem.W.fnOf "_law_spoilt" "_law_spoilt" (defArgs (top 38)) (defBody (top 38)) (defScope (top 38)) .none kV17 dc17 pm17 an17 cd17 ct17) | 361 => (PySem.W.fnOf "_law_figures" "_law_figures" (defArgs (top 39)) (defBody (top 39)) (defScope (top 39)) .none kV18 dc18 pm18 an18 cd18 ct18) | 362 => (PySem.W.fnOf "_law_plain" "_law_plain" (defArgs (top 40)) (defBody (top 40)) (defScope (top 40)) .none kV19 dc19 pm19 an19 cd19 ct19) | 363 => (PySem.W.fnOf "_law_rising" "_law_rising" (defArgs (top 41)) (defBody (top 41)) (defScope (top 41)) .none kV20 dc20 pm20 an20 cd20 ct20) | 364 => (PySem.W.fnOf "_law_leaf" "_law_leaf" (defArgs (top 42)) (defBody (top 42)) (defScope (top 42)) .none kV21 dc21 pm21 an21 cd21 ct21) | 365 => (PySem.W.fnOf "_law_node" "_law_node" (defArgs (top 43)) (defBody (top 43)) (defScope (top 43)) .none kV22 dc22 pm22 an22 cd22 ct22) | 366 => (PySem.W.fnOf "_law_told" "_law_told" (defArgs (top 44)) (defBody (top 44)) (defScope (top 44)) .none kV23 dc23 pm23 an23 cd23 ct23) | 377 => (PySem.W.fnOf "law" "law" (defArgs (top 45)) (defBody (top 45)) (defScope (top 45)) .none kV24 dc24 pm24 an24 cd24 ct24) | _ => (PySem.W.fnOf "shared" "shared" (defArgs (top 16)) (defBody (top 16)) (defScope (top 16)) .none kV0 dc0 pm0 an0 cd0 ct0)
  let cls : Nat → Value := fun k => match k with | 0 => (.ref x0) | 1 => (.ref x1) | 2 => (.ref x2) | 3 => (.ref x3) | 4 => (.ref x4) | 5 => (.ref x5) | 6 => (.ref x6) | 7 => (.ref x7) | 8 => (.ref x8) | 9 => (.ref x9) | 10 => (.ref x10) | 11 => (.type "ValueError") | _ => .none
  have XF : ExFacts EXs K mg cls sb := by
    refine ⟨fun c k b h => ?_, fun k h => ?_, fun k h => ?_, fun k h h2 => ?_⟩
    · obtain ⟨h1, h2, h3⟩ := sbOf_some h
      simp only [EXr, EXs, List.mem_cons, List.not_mem_nil, or_false] at h1 h2
      rcases h1 with rfl
      · have C : ExcC K x9 := ⟨xg9, xh9, xs9, xd9, xc9, xsp, xtk, xm9⟩
        rcases h2 with rfl | rfl | rfl | rfl | rfl | rfl | rfl | rfl | rfl | rfl | rfl | rfl
        · subst h3; exact ⟨⟨x9, rfl, C⟩, xn9, xp9_0, exm_kit xs0 (kitCls_me xi9 xt9 xl9) xp9_0⟩
        · subst h3; exact ⟨⟨x9, rfl, C⟩, xn9, xp9_1, exm_kit xs1 (kitCls_me xi9 xt9 xl9) xp9_1⟩
        · subst h3; exact ⟨⟨x9, rfl, C⟩, xn9, xp9_2, exm_kit xs2 (kitCls_me xi9 xt9 xl9) xp9_2⟩
        · subst h3; exact ⟨⟨x9, rfl, C⟩, xn9, xp9_3, exm_kit xs3 (kitCls_me xi9 xt9 xl9) xp9_3⟩
        · subst h3; exact ⟨⟨x9, rfl, C⟩, xn9, xp9_4, exm_kit xs4 (kitCls_me xi9 xt9 xl9) xp9_4⟩
        · subst h3; exact ⟨⟨x9, rfl, C⟩, xn9, xp9_5, exm_kit xs5 (kitCls_me xi9 xt9 xl9) xp9_5⟩
        · subst h3; exact ⟨⟨x9, rfl, C⟩, xn9, xp9_6, exm_kit xs6 (kitCls_me xi9 xt9 xl9) xp9_6⟩
        · subst h3; exact ⟨⟨x9, rfl, C⟩, xn9, xp9_7, exm_kit xs7 (kitCls_me xi9 xt9 xl9) xp9_7⟩
        · subst h3; exact ⟨⟨x9, rfl, C⟩, xn9, xp9_8, exm_kit xs8 (kitCls_me xi9 xt9 xl9) xp9_8⟩
        · subst h3; exact ⟨⟨x9, rfl, C⟩, xn9, xp9_9, exm_kit xs9 (kitCls_me xi9 xt9 xl9) xp9_9⟩
        · subst h3; exact ⟨⟨x9, rfl, C⟩, xn9, xp9_10, exm_kit xs10 (kitCls_me xi9 xt9 xl9) xp9_10⟩
        · subst h3; exact ⟨⟨x9, rfl, C⟩, xn9, xp9_11, exm_kit xs11 (kitCls_me xi9 xt9 xl9) xp9_11⟩
    · simp only [EXs, List.mem_cons, List.not_mem_nil, or_false] at h
      rcases h with rfl | rfl | rfl | rfl | rfl | rfl | rfl | rfl | rfl | rfl | rfl | rfl
      · exact xo0
      · exact xo1
      · exact xo2
      · exact xo3
      · exact xo4
      · exact xo5
      · exact xo6
      · exact xo7
      · exact xo8
      · exact xo9
      · exact xo10
      · exact xo11
    · simp only [EXs, List.mem_cons, List.not_mem_nil, or_false] at h
      rcases h with rfl | rfl | rfl | rfl | rfl | rfl | rfl | rfl | rfl | rfl | rfl | rfl
      · exact .inl ⟨⟨x0, rfl⟩, PySem.W.mg_of X G xn0⟩
      · exact .inl ⟨⟨x1, rfl⟩, PySem.W.mg_of X G xn1⟩
      · exact .inl ⟨⟨x2, rfl⟩, PySem.W.mg_of X G xn2⟩
      · exact .inl ⟨⟨x3, rfl⟩, PySem.W.mg_of X G xn3⟩
      · exact .inl ⟨⟨x4, rfl⟩, PySem.W.mg_of X G xn4⟩
      · exact .inl ⟨⟨x5, rfl⟩, PySem.W.mg_of X G xn5⟩
      · exact .inl ⟨⟨x6, rfl⟩, PySem.W.mg_of X G xn6⟩
      · exact .inl ⟨⟨x7, rfl⟩, PySem.W.mg_of X G xn7⟩
      · exact .inl ⟨⟨x8, rfl⟩, PySem.W.mg_of X G xn8⟩
      · exact .inl ⟨⟨x9, rfl⟩, PySem.W.mg_of X G xn9⟩
      · exact .inl ⟨⟨x10, rfl⟩, PySem.W.mg_of X G xn10⟩
      · exact .inr ⟨rfl, rfl, PySem.W.mg_none_of X G xz11⟩
    · simp only [EXs, List.mem_cons, List.not_mem_nil, or_false] at h
      rcases h with rfl | rfl | rfl | rfl | rfl | rfl | rfl | rfl | rfl | rfl | rfl | rfl
      · exact ⟨x0, _, _, _, _, rfl, PySem.F.excBase_ValueError, xe0, xk0, xs0, xt0⟩
      · exact ⟨x1, _, _, _, _, rfl, PySem.F.excBase_ValueError, xe1, xk1, xs1, xt1⟩
      · exact ⟨x2, _, _, _, _, rfl, PySem.F.excBase_ValueError, xe2, xk2, xs2, xt2⟩
      · exact ⟨x3, _, _, _, _, rfl, PySem.F.excBase_ValueError, xe3, xk3, xs3, xt3⟩
      · exact ⟨x4, _, _, _, _, rfl, PySem.F.excBase_ValueError, xe4, xk4, xs4, xt4⟩
      · exact ⟨x5, _, _, _, _, rfl, PySem.F.excBase_ValueError, xe5, xk5, xs5, xt5⟩
      · exact ⟨x6, _, _, _, _, rfl, PySem.F.excBase_ValueError, xe6, xk6, xs6, xt6⟩
      · exact ⟨x7, _, _, _, _, rfl, PySem.F.excBase_ValueError, xe7, xk7, xs7, xt7⟩
      · exact ⟨x8, _, _, _, _, rfl, PySem.F.excBase_ValueError, xe8, xk8, xs8, xt8⟩
      · exact ⟨x9, _, _, _, _, rfl, PySem.F.excBase_ValueError, xe9, xk9, xs9, xt9⟩
      · exact ⟨x10, _, _, _, _, rfl, PySem.F.excBase_ValueError, xe10, xk10, xs10, xt10⟩
      · exact absurd rfl h2
  have HD : Hd tbl gcs EXs cls sb FA FD K mg := by
    refine ⟨fun k d h => ?_, q1, q2, q3, q4, q5, q6, q7, fun nm d h => ?_, XF⟩
    · simp only [tbl, List.mem_cons, List.not_mem_nil, or_false, Prod.mk.injEq] at h
      rcases h with ⟨rfl, rfl⟩ | ⟨rfl, rfl⟩ | ⟨rfl, rfl⟩ | ⟨rfl, rfl⟩ | ⟨rfl, rfl⟩ | ⟨rfl, rfl⟩ | ⟨rfl, rfl⟩ | ⟨rfl, rfl⟩ | ⟨rfl, rfl⟩ | ⟨rfl, rfl⟩ | ⟨rfl, rfl⟩ | ⟨rfl, rfl⟩ | ⟨rfl, rfl⟩ | ⟨rfl, rfl⟩ | ⟨rfl, rfl⟩ | ⟨rfl, rfl⟩ | ⟨rfl, rfl⟩ | ⟨rfl, rfl⟩ | ⟨rfl, rfl⟩ | ⟨rfl, rfl⟩ | ⟨rfl, rfl⟩ | ⟨rfl, rfl⟩ | ⟨rfl, rfl⟩ | ⟨rfl, rfl⟩ | ⟨rfl, rfl⟩
      · exact ⟨PySem.W.mg_of X G a0, F0, b0⟩
      · exact ⟨PySem.W.mg_of X G a1, F1, b1⟩
      · exact ⟨PySem.W.mg_of X G a2, F2, b2⟩
      · exact ⟨PySem.W.mg_of X G a3, F3, b3⟩
      · exact ⟨PySem.W.mg_of X G a4, F4, b4⟩
      · exact ⟨PySem.W.mg_of X G a5, F5, b5⟩
      · exact ⟨PySem.W.mg_of X G a6, F6, b6⟩
      · exact ⟨PySem.W.mg_of X G a7, F7, b7⟩
      · exact ⟨PySem.W.mg_of X G a8, F8, b8⟩
      · exact ⟨PySem.W.mg_of X G a9, F9, b9⟩
      · exact ⟨PySem.W.mg_of X G a10, F10, b10⟩
      · exact ⟨PySem.W.mg_of X G a11, F11, b11⟩
      · exact ⟨PySem.W.mg_of X G a12, F12, b12⟩
      · exact ⟨PySem.W.mg_of X G a13, F13, b13⟩
      · exact ⟨PySem.W.mg_of X G a14, F14, b14⟩
      · exact ⟨PySem.W.mg_of X G a15, F15, b15⟩
      · exact ⟨PySem.W.mg_of X G a16, F16, b16⟩
      · exact ⟨PySem.W.mg_of X G a17, F17, b17⟩
      · exact ⟨PySem.W.mg_of X G a18, F18, b18⟩
      · exact ⟨PySem.W.mg_of X G a19, F19, b19⟩
      · exact ⟨PySem.W.mg_of X G a20, F20, b20⟩
      · exact ⟨PySem.W.mg_of X G a21, F21, b21⟩
      · exact ⟨PySem.W.mg_of X G a22, F22, b22⟩
      · exact ⟨PySem.W.mg_of X G a23, F23, b23⟩
      · exact ⟨PySem.W.mg_of X G a24, F24, b24⟩
    · simp only [gcs, List.mem_cons, List.not_mem_nil, or_false, Prod.mk.injEq] at h
      rcases h with ⟨rfl, rfl⟩ | ⟨rfl, rfl⟩ | ⟨rfl, rfl⟩ | ⟨rfl, rfl⟩
      · exact ⟨.str _, _, PySem.W.mg_of X G g0, ⟨_, rfl⟩, fun _ _ => .str _ (by decide)⟩
      · exact ⟨.str _, _, PySem.W.mg_of X G g1, ⟨_, rfl⟩, fun _ _ => .str _ (by decide)⟩
      · exact ⟨.int _, _, PySem.W.mg_of X G g2, ⟨_, rfl⟩, fun _ _ => .int _⟩
      · exact ⟨.int _, _, PySem.W.mg_of X G g3, ⟨_, rfl⟩, fun _ _ => .int _⟩
  exact ⟨FD 377, fun s v => .of_eq rfl, fun base _ _ => scr_ok (ps := e_377.ps) (cls := cls) rfl (fn_ok (M := M) (sub := sb) HD tbl_M tbl_ok FU 377 e_377 (by simp [tbl])) main⟩
end MP

set_option maxRecDepth 100000
set_option maxHeartbeats 1000000
set_option autoImplicit false
namespace MP
open PySem L2
theorem main : ∀ ns : List Int, ns.length ≤ 63 → ∃ m, callF M sb FU 377 [.lst (ns.map D.int)] [] = .ok (.bl true) m := fun ns hl => ⟨[], main82 (n := 4) hl⟩
end MP

open PySem PySem.W PyProof.Rows in
set_option maxRecDepth 100000 in
set_option maxHeartbeats 0 in
theorem PySem.Challenge.cw_heldleaves_k82_node_texts_refused_holds : PySem.Challenge.rw_heldleaves_k82_node_texts_refused.Holds := by
  w_on; o_law; k_head; (case hw => w_witness2)
  k_fill
  refine MP.walk_scr (l := PySem.Challenge.rw_heldleaves_k82_node_texts_refused) (k := MP.FU) (x := "_law_script") (by decide) rfl rfl (fun w h Y => PySem.W.kIn_of Y) ?F
  case F =>
    intro w mg fa h KX G hmg
    refine' MP.head_mk MP.main KX G hmg ?a0 ?l0 ?c0 ?k0 ?a1 ?l1 ?c1 ?k1 ?a2 ?l2 ?c2 ?k2 ?a3 ?l3 ?c3 ?k3 ?a4 ?l4 ?c4 ?k4 ?a5 ?l5 ?c5 ?k5 ?a6 ?l6 ?c6 ?k6 ?a7 ?l7 ?c7 ?k7 ?a8 ?l8 ?c8 ?k8 ?a9 ?l9 ?c9 ?k9 ?a10 ?l10 ?c10 ?k10 ?a11 ?l11 ?c11 ?k11 ?a12 ?l12 ?c12 ?k12 ?a13 ?l13 ?c13 ?k13 ?a14 ?l14 ?c14 ?k14 ?a15 ?l15 ?c15 ?k15 ?a16 ?l16 ?c16 ?k16 ?a17 ?l17 ?c17 ?k17 ?a18 ?l18 ?c18 ?k18 ?a19 ?l19 ?c19 ?k19 ?a20 ?l20 ?c20 ?k20 ?a21 ?l21 ?c21 ?k21 ?a22 ?l22 ?c22 ?k22 ?a23 ?l23 ?c23 ?k23 ?a24 ?l24 ?c24 ?k24 ?z0 ?z1 ?z2 ?z3 ?z4 ?z5 ?z6 ?z7 ?z8 ?z9 ?z10 ?z11 ?z12 ?z13 ?z14 ?z15 ?z16 ?z17 ?gc0 ?gc1 ?gc2 ?gc3 ?xn0 ?xs0 ?xo0 ?xn1 ?xs1 ?xo1 ?xn2 ?xs2 ?xo2 ?xn3 ?xs3 ?xo3 ?xn4 ?xs4 ?xo4 ?xn5 ?xs5 ?xo5 ?xn6 ?xs6 ?xo6 ?xn7 ?xs7 ?xo7 ?xn8 ?xs8 ?xo8 ?xn9 ?xs9 ?xo9 ?xn10 ?xs10 ?xo10 ?xz11 ?xs11 ?xo11 ?xe0 ?xk0 ?xt0 ?xe1 ?xk1 ?xt1 ?xe2 ?xk2 ?xt2 ?xe3 ?xk3 ?xt3 ?xe4 ?xk4 ?xt4 ?xe5 ?xk5 ?xt5 ?xe6 ?xk6 ?xt6 ?xe7 ?xk7 ?xt7 ?xe8 ?xk8 ?xt8 ?xe9 ?xk9 ?xt9 ?xe10 ?xk10 ?xt10 ?xsp ?xtk ?xg9 ?xh9 ?xd9 ?xc9 ?xm9 ?xi9 ?xl9 ?xp9_0 ?xp9_1 ?xp9_2 ?xp9_3 ?xp9_4 ?xp9_5 ?xp9_6 ?xp9_7 ?xp9_8 ?xp9_9 ?xp9_10 ?xp9_11
    (case a0 => k_is)
    (case l0 => k_is)
    (case c0 => k_is)
    (case k0 => k_is)
    (case a1 => k_is)
    (case l1 => k_is)
    (case c1 => k_is)
    (case k1 => k_is)
    (case a2 => k_is)
    (case l2 => k_is)
    (case c2 => k_is)
    (case k2 => k_is)
    (case a3 => k_is)
    (case l3 => k_is)
    (case c3 => k_is)
    (case k3 => k_is)
    (case a4 => k_is)
    (case l4 => k_is)
    (case c4 => k_is)
    (case k4 => k_is)
    (case a5 => k_is)
    (case l5 => k_is)
    (case c5 => k_is)
    (case k5 => k_is)
    (case a6 => k_is)
    (case l6 => k_is)
    (case c6 => k_is)
    (case k6 => k_is)
    (case a7 => k_is)
    (case l7 => k_is)
    (case c7 => k_is)
    (case k7 => k_is)
    (case a8 => k_is)
    (case l8 => k_is)
    (case c8 => k_is)
    (case k8 => k_is)
    (case a9 => k_is)
    (case l9 => k_is)
    (case c9 => k_is)
    (case k9 => k_is)
    (case a10 => k_is)
    (case l10 => k_is)
    (case c10 => k_is)
    (case k10 => k_is)
    (case a11 => k_is)
    (case l11 => k_is)
    (case c11 => k_is)
    (case k11 => k_is)
    (case a12 => k_is)
    (case l12 => k_is)
    (case c12 => k_is)
    (case k12 => k_is)
    (case a13 => k_is)
    (case l13 => k_is)
    (case c13 => k_is)
    (case k13 => k_is)
    (case a14 => k_is)
    (case l14 => k_is)
    (case c14 => k_is)
    (case k14 => k_is)
    (case a15 => k_is)
    (case l15 => k_is)
    (case c15 => k_is)
    (case k15 => k_is)
    (case a16 => k_is)
    (case l16 => k_is)
    (case c16 => k_is)
    (case k16 => k_is)
    (case a17 => k_is)
    (case l17 => k_is)
    (case c17 => k_is)
    (case k17 => k_is)
    (case a18 => k_is)
    (case l18 => k_is)
    (case c18 => k_is)
    (case k18 => k_is)
    (case a19 => k_is)
    (case l19 => k_is)
    (case c19 => k_is)
    (case k19 => k_is)
    (case a20 => k_is)
    (case l20 => k_is)
    (case c20 => k_is)
    (case k20 => k_is)
    (case a21 => k_is)
    (case l21 => k_is)
    (case c21 => k_is)
    (case k21 => k_is)
    (case a22 => k_is)
    (case l22 => k_is)
    (case c22 => k_is)
    (case k22 => k_is)
    (case a23 => k_is)
    (case l23 => k_is)
    (case c23 => k_is)
    (case k23 => k_is)
    (case a24 => k_is)
    (case l24 => k_is)
    (case c24 => k_is)
    (case k24 => k_is)
    (case z0 => k_is)
    (case z1 => k_is)
    (case z2 => k_is)
    (case z3 => k_is)
    (case z4 => k_is)
    (case z5 => k_is)
    (case z6 => k_is)
    (case z7 => k_is)
    (case z8 => k_is)
    (case z9 => k_is)
    (case z10 => k_is)
    (case z11 => k_is)
    (case z12 => k_is)
    (case z13 => k_is)
    (case z14 => k_is)
    (case z15 => k_is)
    (case z16 => k_is)
    (case z17 => k_is)
    (case gc0 => k_is)
    (case gc1 => k_is)
    (case gc2 => k_is)
    (case gc3 => k_is)
    (case xn0 => k_is)
    (case xs0 => k_is)
    (case xo0 => kit_is)
    (case xn1 => k_is)
    (case xs1 => k_is)
    (case xo1 => kit_is)
    (case xn2 => k_is)
    (case xs2 => k_is)
    (case xo2 => kit_is)
    (case xn3 => k_is)
    (case xs3 => k_is)
    (case xo3 => kit_is)
    (case xn4 => k_is)
    (case xs4 => k_is)
    (case xo4 => kit_is)
    (case xn5 => k_is)
    (case xs5 => k_is)
    (case xo5 => kit_is)
    (case xn6 => k_is)
    (case xs6 => k_is)
    (case xo6 => kit_is)
    (case xn7 => k_is)
    (case xs7 => k_is)
    (case xo7 => kit_is)
    (case xn8 => k_is)
    (case xs8 => k_is)
    (case xo8 => kit_is)
    (case xn9 => k_is)
    (case xs9 => k_is)
    (case xo9 => kit_is)
    (case xn10 => k_is)
    (case xs10 => k_is)
    (case xo10 => kit_is)
    (case xz11 => k_is)
    (case xs11 => k_is)
    (case xo11 => kit_is)
    (case xe0 => k_exc)
    (case xk0 => k_is)
    (case xt0 => k_is)
    (case xe1 => k_exc)
    (case xk1 => k_is)
    (case xt1 => k_is)
    (case xe2 => k_exc)
    (case xk2 => k_is)
    (case xt2 => k_is)
    (case xe3 => k_exc)
    (case xk3 => k_is)
    (case xt3 => k_is)
    (case xe4 => k_exc)
    (case xk4 => k_is)
    (case xt4 => k_is)
    (case xe5 => k_exc)
    (case xk5 => k_is)
    (case xt5 => k_is)
    (case xe6 => k_exc)
    (case xk6 => k_is)
    (case xt6 => k_is)
    (case xe7 => k_exc)
    (case xk7 => k_is)
    (case xt7 => k_is)
    (case xe8 => k_exc)
    (case xk8 => k_is)
    (case xt8 => k_is)
    (case xe9 => k_exc)
    (case xk9 => k_is)
    (case xt9 => k_is)
    (case xe10 => k_exc)
    (case xk10 => k_is)
    (case xt10 => k_is)
    (case xsp => k_is)
    (case xtk => k_is)
    (case xg9 => k_is)
    (case xh9 => k_is)
    (case xd9 => k_is)
    (case xc9 => k_is)
    (case xm9 => k_is)
    (case xi9 => k_is)
    (case xl9 => k_is)
    (case xp9_0 => kit_is)
    (case xp9_1 => kit_is)
    (case xp9_2 => kit_is)
    (case xp9_3 => kit_is)
    (case xp9_4 => kit_is)
    (case xp9_5 => kit_is)
    (case xp9_6 => kit_is)
    (case xp9_7 => kit_is)
    (case xp9_8 => kit_is)
    (case xp9_9 => kit_is)
    (case xp9_10 => kit_is)
    (case xp9_11 => kit_is)
