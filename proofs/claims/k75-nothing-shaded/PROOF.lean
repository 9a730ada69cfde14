import PyProof.Rows.All
import Wide.All
import OpenK.AllK
import Wide.FinOn
import HandS.ForMost
import HandS.Wide
import HandS.Style
import HandS.Deep
import HandS.IsInst
import HandS.Zip
import HandS.TupAny
import HandS.Defaults
import HandS.Exc
import HandS.ExcOwn
import HandS.WordsExc
import HandS.Head0
import HandS.Head1
import HandS.Head2
import HandS.HeadEnd
import HandS.HeadHook1
import HandS.HeadHook2
import HandS.HeadHook4
import PySem.Challenge.RW_dialyard_k75_nothing_shaded
set_option Elab.async false
set_option linter.all false
set_option maxRecDepth 100000
set_option maxHeartbeats 0
namespace Dy
open PySem PySem.Spec PyProof.Rows L2
open Classical

noncomputable def hid (S : Addr → Prop) (H : Hp) : Hp := fun a => if S a then none else H a
theorem hid_pos {S : Addr → Prop} {H : Hp} {a : Addr} (h : S a) : hid S H a = none := if_pos h
theorem hid_neg {S : Addr → Prop} {H : Hp} {a : Addr} (h : ¬ S a) : hid S H a = H a := if_neg h
theorem hid_some {S : Addr → Prop} {H : Hp} {a : Addr} {o : HO} (h : hid S H a = some o) : ¬ S a ∧ H a = some o := by
  by_cases hs : S a
  · rw [hid_pos hs] at h; cases h
  · rw [hid_neg hs] at h; exact ⟨hs, h⟩
theorem hid_same {S : Addr → Prop} {H H' : Hp} (e : Same H H') : Same (hid S H) (hid S H') := fun b o h => by
  obtain ⟨h1, h2⟩ := hid_some h
  rw [hid_neg h1]; exact e b o h2
theorem hid_sub {S S' : Addr → Prop} {H : Hp} (h : ∀ a, S' a → S a) : Same (hid S H) (hid S' H) := fun b o e => by
  obtain ⟨h1, h2⟩ := hid_some e
  rw [hid_neg fun z => h1 (h b z)]; exact h2
theorem hid_full {S : Addr → Prop} {H : Hp} : Same (hid S H) H := fun b o e => (hid_some e).2
theorem hid_upd {S : Addr → Prop} {H : Hp} {a : Addr} {o : HO} (h : S a) : hid S (upd H a o) = hid S H := by
  funext b
  by_cases hb : S b
  · rw [hid_pos hb, hid_pos hb]
  · rw [hid_neg hb, hid_neg hb, upd_ne (fun e => hb (by rw [e]; exact h))]
def addS (S : Addr → Prop) (D : Addr) : Addr → Prop := fun a => S a ∨ a = D
theorem hid_new {S : Addr → Prop} {H : Hp} {D : Addr} {o : HO} (h : H D = none) : hid (addS S D) (upd H D o) = hid S H := by
  funext b
  by_cases e : b = D
  · subst e
    rw [hid_pos (.inr rfl)]
    by_cases hs : S b
    · rw [hid_pos hs]
    · rw [hid_neg hs, h]
  · by_cases hs : S b
    · rw [hid_pos hs, hid_pos (.inl hs)]
    · rw [hid_neg hs, hid_neg (fun z => z.elim hs e), upd_ne e]
theorem same_new {H : Hp} {p : Addr} {o : HO} (h : H p = none) : Same H (upd H p o) := fun b u e => by rw [upd_ne (ne_of_none e h)]; exact e

theorem rd_mono {G G' : Hp} {a : Addr} {u : HO} (e : Same G G') (h : Rd G a u) : Rd G' a u := by
  rcases h with h | ⟨o, h⟩
  · exact .inl (e _ _ h)
  · exact .inr ⟨o, e _ _ h⟩
theorem sql_mono {K : PySem.W.Frag} {G G' : Hp} {a : Addr} {xs : List V} (e : Same G G') (h : SqL K G a xs) : SqL K G' a xs := by
  rcases h with h | h
  · exact .inl (rd_mono e h)
  · exact .inr h
theorem sqt_mono {K : PySem.W.Frag} {G G' : Hp} {a : Addr} {xs : List V} (e : Same G G') (h : SqT K G a xs) : SqT K G' a xs := by
  rcases h with h | h
  · exact .inl (rd_mono e h)
  · exact .inr h

mutual
inductive Rp (K : PySem.W.Frag) (G : Hp) : V → PyData → Prop
  | non : Rp K G .non .none
  | bl (b : Bool) : Rp K G (.bl b) (.bool b)
  | int (i : Int) : Rp K G (.int i) (.int i)
  | str (x : Str) : Rp K G (.str x) (.str x)
  | lst {a : Addr} {xs : List V} {ds : List PyData} : SqL K G a xs → RpAll K G xs ds → Rp K G (.ref a) (.list ds)
  | tup {a : Addr} {xs : List V} {ds : List PyData} : SqT K G a xs → RpAll K G xs ds → Rp K G (.ref a) (.tuple ds)
inductive RpAll (K : PySem.W.Frag) (G : Hp) : List V → List PyData → Prop
  | nil : RpAll K G [] []
  | cons {v : V} {vs : List V} {d : PyData} {ds : List PyData} : Rp K G v d → RpAll K G vs ds → RpAll K G (v :: vs) (d :: ds)
end
section
variable {K : PySem.W.Frag} {G G' : Hp}
mutual
theorem Rp.mono (e : Same G G') : ∀ {d : PyData} {v : V}, Rp K G v d → Rp K G' v d
  | .none, _, h => by cases h; exact .non
  | .bool b, _, h => by cases h; exact .bl b
  | .int i, _, h => by cases h; exact .int i
  | .str x, _, h => by cases h; exact .str x
  | .list ds, _, h => by
    cases h with
    | lst hs ha => exact .lst (sql_mono e hs) (RpAll.mono e ha)
  | .tuple ds, _, h => by
    cases h with
    | tup hs ha => exact .tup (sqt_mono e hs) (RpAll.mono e ha)
  | .dict _, _, h => by cases h
theorem RpAll.mono (e : Same G G') : ∀ {ds : List PyData} {vs : List V}, RpAll K G vs ds → RpAll K G' vs ds
  | [], _, h => by cases h; exact .nil
  | d :: ds, _, h => by
    cases h with
    | cons h1 h2 => exact .cons (Rp.mono e h1) (RpAll.mono e h2)
end
mutual
theorem Rp.dp : ∀ {d : PyData} {v : V}, Rp K G v d → Dp K G v d
  | .none, _, h => by cases h; exact .non
  | .bool b, _, h => by cases h; exact .bl b
  | .int i, _, h => by cases h; exact .int i
  | .str x, _, h => by cases h; exact .str x
  | .list ds, _, h => by
    cases h with
    | lst hs ha => exact .lst hs (RpAll.dp ha)
  | .tuple ds, _, h => by
    cases h with
    | tup hs ha => exact .tup hs (RpAll.dp ha)
  | .dict _, _, h => by cases h
theorem RpAll.dp : ∀ {ds : List PyData} {vs : List V}, RpAll K G vs ds → DpAll K G vs ds
  | [], _, h => by cases h; exact .nil
  | d :: ds, _, h => by
    cases h with
    | cons h1 h2 => exact .cons (Rp.dp h1) (RpAll.dp h2)
end
theorem RpAll.len : ∀ {ds : List PyData} {vs : List V}, RpAll K G vs ds → vs.length = ds.length
  | [], _, h => by cases h; rfl
  | d :: ds, _, h => by
    cases h with
    | cons h1 h2 => simp only [List.length_cons, RpAll.len h2]
theorem RpAll.get : ∀ {ds : List PyData} {vs : List V} {i : Nat} {d : PyData}, RpAll K G vs ds → ds[i]? = some d → ∃ v, vs[i]? = some v ∧ Rp K G v d
  | [], _, _, _, h, e => by simp at e
  | d :: ds, _, 0, d', h, e => by
    cases h with
    | cons h1 h2 =>
      have e' : d = d' := by simpa using e
      subst e'
      exact ⟨_, rfl, h1⟩
  | d :: ds, _, i + 1, d', h, e => by
    cases h with
    | cons h1 h2 =>
      obtain ⟨v, q1, q2⟩ := RpAll.get (i := i) h2 (by simpa using e)
      exact ⟨v, by simpa using q1, q2⟩
theorem RpAll.getV {ds : List PyData} {vs : List V} {i : Nat} {v : V} (h : RpAll K G vs ds) (e : vs[i]? = some v) : ∃ d, ds[i]? = some d ∧ Rp K G v d := by
  have hl := h.len
  have hi : i < vs.length := (List.getElem?_eq_some_iff.mp e).1
  obtain ⟨w, e2, r⟩ := h.get (i := i) (d := ds[i]) (List.getElem?_eq_getElem (by omega))
  rw [e] at e2
  cases e2
  exact ⟨_, List.getElem?_eq_getElem (by omega), r⟩
theorem RpAll.append : ∀ {ds es : List PyData} {vs us : List V}, RpAll K G vs ds → RpAll K G us es → RpAll K G (vs ++ us) (ds ++ es)
  | [], _, _, _, h, q => by cases h; exact q
  | d :: ds, _, _, _, h, q => by
    cases h with
    | cons h1 h2 => exact .cons h1 (RpAll.append h2 q)
theorem RpAll.take : ∀ {ds : List PyData} {vs : List V} (n : Nat), RpAll K G vs ds → RpAll K G (vs.take n) (ds.take n)
  | _, _, 0, _ => by rw [List.take_zero, List.take_zero]; exact .nil
  | [], _, n + 1, h => by cases h; exact .nil
  | d :: ds, _, n + 1, h => by
    cases h with
    | cons h1 h2 => exact .cons h1 (RpAll.take n h2)
theorem RpAll.drop : ∀ {ds : List PyData} {vs : List V} (n : Nat), RpAll K G vs ds → RpAll K G (vs.drop n) (ds.drop n)
  | _, _, 0, h => h
  | [], _, n + 1, h => by cases h; exact .nil
  | d :: ds, _, n + 1, h => by
    cases h with
    | cons h1 h2 => exact RpAll.drop n h2
theorem RpAll.rev : ∀ {ds : List PyData} {vs : List V}, RpAll K G vs ds → RpAll K G vs.reverse ds.reverse
  | [], _, h => by cases h; exact .nil
  | d :: ds, _, h => by
    cases h with
    | cons h1 h2 =>
      rw [List.reverse_cons, List.reverse_cons]
      exact RpAll.append (RpAll.rev h2) (.cons h1 .nil)
theorem RpAll.set {v : V} {d : PyData} (r : Rp K G v d) : ∀ {ds : List PyData} {vs : List V} (n : Nat), RpAll K G vs ds → RpAll K G (vs.set n v) (ds.set n d)
  | [], _, _, h => by cases h; exact .nil
  | _ :: ds, _, 0, h => by
    cases h with
    | cons h1 h2 => exact .cons r h2
  | _ :: ds, _, n + 1, h => by
    cases h with
    | cons h1 h2 => exact .cons h1 (RpAll.set r n h2)
theorem RpAll.nilIff {ds : List PyData} {vs : List V} (h : RpAll K G vs ds) : vs = [] ↔ ds = [] := by
  cases h <;> simp
end

inductive R (α : Type) where
  | ok (a : α) | exc (c : Str) (p : Option (Str × PyData)) | bad
def R.bind {α β : Type} (r : R α) (f : α → R β) : R β := match r with
  | .ok a => f a
  | .exc c p => .exc c p
  | .bad => .bad
abbrev Sem := List PyData → R PyData
mutual
inductive MT where
  | dat (d : PyData) | fl (ds : List PyData) | lst (l : MTs) | tup (l : MTs)
inductive MTs where
  | nil | cons (t : MT) (l : MTs)
end
mutual
def MT.d : MT → PyData
  | .dat d => d
  | .fl ds => .list ds
  | .lst l => .list (MTs.ds l)
  | .tup l => .tuple (MTs.ds l)
def MTs.ds : MTs → List PyData
  | .nil => []
  | .cons t l => MT.d t :: MTs.ds l
end
inductive Slot where
  | no | val (d : PyData) | own (t : MT)
def mkS : MT → Slot
  | .dat d => .val d
  | t => .own t
abbrev En := List Slot
end Dy

namespace Dy
open PySem PySem.Spec PyProof.Rows L2
open Classical
inductive O2 where
  | add | sub | mul | fdiv | mod | pow
inductive C2 where
  | lt | le | gt | ge | eq | ne | is_ | isn | in_ | nin
inductive Bl where
  | len | abs | max | min | sorted | tuple | list | str | int | isInt | isBool | isStr | isList | isTuple | all | any
mutual
inductive Tg where
  | nm (i : Nat) | tp (l : Tgs)
inductive Tgs where
  | nil | cons (t : Tg) (l : Tgs)
end
mutual
inductive E where
  | var (i : Nat) | bor (i : Nat) | boc (i : Nat) | cst (d : PyData) | glo (x : Str) (d : PyData)
  | op (o : O2) (a b : E) | neg (a : E)
  | cmp (c : C2) (a b : E) | eqc (n : Bool) (a b : E) | chn (c1 c2 : C2) (a b e : E)
  | not (a : E) | and (a b : E) | or (a b : E) | tru (a : E)
  | ite (c a b : E)
  | tup (as : Es) | lst (as : Es)
  | idx (a i : E) | slN (a : E) | slL (a lo : E) | slU (a hi : E) | slB (a lo hi : E) | rev (a : E)
  | call (x : Str) (g : Sem) (as : Es)
  | fn (b : Bl) (a : E)
  | lc (t : Tg) (s : Sr) (c : E) (own : List Nat) (e : E)
inductive Es where
  | nil | cons (a : E) (as : Es)
inductive Sr where
  | it (a : E) | rg1 (a : E) | rg2 (a b : E) | rg3 (a b c : E) | zip (a b : E) | enum (a : E)
end
mutual
inductive NE where
  | e (a : E) | fl (a : E) | lst (l : NEs) | tup (l : NEs) | call (x : Str) (g : Sem) (sh : PyData → MT) (as : Es)
inductive NEs where
  | nil | cons (n : NE) (l : NEs)
end
mutual
inductive S where
  | set (i : Nat) (e : E) | setN (i : Nat) (n : NE) | par (i j : Nat) (a b : E) | unp (t : Tg) (e : E)
  | app (i : Nat) (e : E) | ext (i : Nat) (e : E) | clr (i : Nat) | sti (i : Nat) (k e : E)
  | drop (e : E) | ret (e : E) | rtn (n : NE) | rto (i : Nat) | retN | if_ (c : E) (a b : Ss)
  | for_ (t : Tg) (s : Sr) (b : Ss) | whl (c : E) (b : Ss) | brk | cnt | pass
  | never | esc (l : List Nat) (s : S)
inductive Ss where
  | nil | cons (s : S) (l : Ss)
end
def cutD (ds : List PyData) (lo hi : Option Int) : List PyData := (ds.drop (HT.sIx ds.length 0 lo)).take (HT.sIx ds.length ds.length hi - HT.sIx ds.length 0 lo)
def op2 : O2 → PyData → PyData → R PyData
  | .add, .int i, .int j => .ok (.int (i + j))
  | .add, .str x, .str y => if x.length + y.length ≤ sizeLine then .ok (.str (x ++ y)) else .bad
  | .add, .list xs, .list ys => if xs.length + ys.length ≤ sizeLine then .ok (.list (xs ++ ys)) else .bad
  | .add, .tuple xs, .tuple ys => if xs.length + ys.length ≤ sizeLine then .ok (.tuple (xs ++ ys)) else .bad
  | .sub, .int i, .int j => .ok (.int (i - j))
  | .mul, .int i, .int j => if i.natAbs.log2 + j.natAbs.log2 < 100000000 then .ok (.int (i * j)) else .bad
  | .fdiv, .int i, .int j => if j ≠ 0 ∧ j.natAbs.log2 < 9000 then .ok (.int (i.fdiv j)) else .bad
  | .mod, .int i, .int j => if j ≠ 0 then .ok (.int (i.fmod j)) else .bad
  | .pow, .int i, .int j => if 0 ≤ j ∧ j ≤ 1000000 ∧ i.natAbs < 2 ^ 64 then .ok (.int (i ^ j.toNat)) else .bad
  | _, _, _ => .bad
def oneSign (x : Str) : Option Nat := match x.cps.toList with
  | [c] => some c
  | _ => none
def flatD : PyData → Bool
  | .none => true
  | .bool _ => true
  | .int _ => true
  | .str _ => true
  | _ => false
def inD (d : PyData) : PyData → Option Bool
  | .list ds => if SeqAt.shaped d = true ∧ SeqAt.shaped (.list ds) = true then some (ds.any fun z => PyData.eqv z d) else none
  | .tuple ds => if flatD d = true ∧ ds.all flatD = true then some (ds.any fun z => PyData.eqv z d) else none
  | .str z => (match d with
    | .str x => (oneSign x).map fun c => decide (c ∈ z.cps.toList)
    | _ => none)
  | _ => none
def isNon : PyData → Bool
  | .none => true
  | _ => false
def cmp2 : C2 → PyData → PyData → R PyData
  | .lt, .int i, .int j => .ok (.bool (decide (i < j)))
  | .le, .int i, .int j => .ok (.bool (decide (i ≤ j)))
  | .gt, .int i, .int j => .ok (.bool (decide (j < i)))
  | .ge, .int i, .int j => .ok (.bool (decide (j ≤ i)))
  | .eq, d, e => if SeqAt.shaped d = true ∧ SeqAt.shaped e = true then .ok (.bool (PyData.eqv d e)) else .bad
  | .ne, d, e => if SeqAt.shaped d = true ∧ SeqAt.shaped e = true then .ok (.bool (!PyData.eqv d e)) else .bad
  | .is_, d, .none => .ok (.bool (isNon d))
  | .isn, d, .none => .ok (.bool (!isNon d))
  | .in_, d, e => (match inD d e with
    | some b => .ok (.bool b)
    | none => .bad)
  | .nin, d, e => (match inD d e with
    | some b => .ok (.bool (!b))
    | none => .bad)
  | _, _, _ => .bad
def truD : PyData → R PyData
  | .none => .ok (.bool false)
  | .bool b => .ok (.bool b)
  | .int i => .ok (.bool (i != 0))
  | .str x => if x.length ≤ sizeLine then .ok (.bool ((x.length : Int) != 0)) else .bad
  | .list ds => .ok (.bool (!ds.isEmpty))
  | .tuple ds => .ok (.bool (!ds.isEmpty))
  | .dict _ => .bad
def idxD : PyData → PyData → R PyData
  | .list ds, .int i => (match atI ds i with
    | some d => .ok d
    | none => .bad)
  | .tuple ds, .int i => (match atI ds i with
    | some d => .ok d
    | none => .bad)
  | .str x, .int i => (match atI x.cps.toList i with
    | some c => if x.length ≤ sizeLine then .ok (.str ⟨#[c]⟩) else .bad
    | none => .bad)
  | _, _ => .bad
def slcD (d : PyData) (lo hi : Option Int) : R PyData := match d with
  | .list ds => .ok (.list (cutD ds lo hi))
  | .tuple ds => .ok (.tuple (cutD ds lo hi))
  | .str x => if x.length ≤ sizeLine then .ok (.str (cutS x lo hi)) else .bad
  | _ => .bad
def intsOf : List PyData → Option (List Int)
  | [] => some []
  | .int i :: r => (intsOf r).map (i :: ·)
  | _ :: _ => none
def blsOf : List PyData → Option (List Bool)
  | [] => some []
  | .bool i :: r => (blsOf r).map (i :: ·)
  | _ :: _ => none
def strsOf : List PyData → Option (List Str)
  | [] => some []
  | .str i :: r => (strsOf r).map (i :: ·)
  | _ :: _ => none
def maxOf : Int → List Int → Int
  | m, [] => m
  | m, x :: r => maxOf (if x > m then x else m) r
def minOf : Int → List Int → Int
  | m, [] => m
  | m, x :: r => minOf (if x < m then x else m) r
def insS (x : Str) : List Str → List Str
  | [] => [x]
  | y :: r => if x.cps.toList < y.cps.toList then x :: y :: r else y :: insS x r
def sortS : List Str → List Str
  | [] => []
  | x :: r => insS x (sortS r)
def isKind : Bl → PyData → Bool
  | .isInt, .int _ => true
  | .isInt, .bool _ => true
  | .isBool, .bool _ => true
  | .isStr, .str _ => true
  | .isList, .list _ => true
  | .isTuple, .tuple _ => true
  | _, _ => false
def noDict : PyData → Bool
  | .dict _ => false
  | _ => true
def fn1 : Bl → PyData → R PyData
  | .len, .list ds => .ok (.int ds.length)
  | .len, .tuple ds => .ok (.int ds.length)
  | .len, .str x => if x.length ≤ sizeLine then .ok (.int x.length) else .bad
  | .abs, .int i => .ok (.int (if i < 0 then -i else i))
  | .max, .list ds => (match intsOf ds with
    | some (m :: r) => .ok (.int (maxOf m r))
    | _ => .bad)
  | .min, .list ds => (match intsOf ds with
    | some (m :: r) => .ok (.int (minOf m r))
    | _ => .bad)
  | .sorted, .list ds => (match strsOf ds with
    | some xs => if xs.length < 64 then .ok (.list ((sortS xs).map PyData.str)) else .bad
    | _ => .bad)
  | .tuple, .list ds => .ok (.tuple ds)
  | .tuple, .tuple ds => .ok (.tuple ds)
  | .list, .list ds => .ok (.list ds)
  | .list, .tuple ds => .ok (.list ds)
  | .str, .int i => if i.natAbs.log2 < 1920 then .ok (.str (toString i)) else .bad
  | .int, .int i => .ok (.int i)
  | .int, .bool b => .ok (.int (if b then 1 else 0))
  | .isInt, d => if noDict d then .ok (.bool (isKind .isInt d)) else .bad
  | .isBool, d => if noDict d then .ok (.bool (isKind .isBool d)) else .bad
  | .isStr, d => if noDict d then .ok (.bool (isKind .isStr d)) else .bad
  | .isList, d => if noDict d then .ok (.bool (isKind .isList d)) else .bad
  | .isTuple, d => if noDict d then .ok (.bool (isKind .isTuple d)) else .bad
  | .all, .list ds => (match blsOf ds with
    | some bs => .ok (.bool (bs.all id))
    | _ => .bad)
  | .any, .list ds => (match blsOf ds with
    | some bs => .ok (.bool (bs.any id))
    | _ => .bad)
  | _, _ => .bad
mutual
def tset : Tg → PyData → En → R En
  | .nm i, d, ρ => .ok (ρ.set i (.val d))
  | .tp l, .tuple ds, ρ => tsets l ds ρ
  | .tp _, _, _ => .bad
def tsets : Tgs → List PyData → En → R En
  | .nil, [], ρ => .ok ρ
  | .cons t l, d :: ds, ρ => (tset t d ρ).bind (tsets l ds)
  | _, _, _ => .bad
end
def getV (ρ : En) (i : Nat) : R PyData := match ρ[i]? with
  | some (.val d) => .ok d
  | _ => .bad
def getB (ρ : En) (i : Nat) : R PyData := match ρ[i]? with
  | some (.val d) => .ok d
  | some (.own (.fl ds)) => .ok (.list ds)
  | _ => .bad
/-- to be held against another, no more -/
def getC (ρ : En) (i : Nat) : R PyData := match ρ[i]? with
  | some (.val d) => .ok d
  | some (.own t) => .ok t.d
  | _ => .bad
def eqcD (n : Bool) (x y : PyData) : R PyData := cmp2 (if n then .ne else .eq) x y
def wipeE (ρ : En) : List Nat → En
  | [] => ρ
  | v :: vs => (wipeE ρ vs).set v .no
def escE (ρ : En) : List Nat → En
  | [] => ρ
  | v :: vs => (match (escE ρ vs)[v]? with
    | some (.own t) => (escE ρ vs).set v (.val t.d)
    | _ => escE ρ vs)
def bl1 (d : PyData) (k : Bool → R PyData) : R PyData := match d with
  | .bool b => k b
  | _ => .bad
def int1 (d : PyData) (k : Int → R PyData) : R PyData := match d with
  | .int b => k b
  | _ => .bad
def rgD (lo hi : Int) : List PyData := (List.range (hi - lo).toNat).map fun k => PyData.int (lo + (k : Nat))
def rgOk (i : Int) : Bool := decide (-(2 ^ 62) ≤ i) && decide (i < 2 ^ 62)
/-- range(a, b, c) -/
def rgCD (lo hi c : Int) : List PyData := (List.range (Builtin.Range.rangeSize lo hi c).toNat).map fun k => PyData.int (lo + (k : Nat) * c)
def rgCOk (lo hi c : Int) : Bool := decide (c ≠ 0) && decide (c.natAbs < 1073741824) && Builtin.Range.small lo hi c
def seqD : PyData → R (List PyData)
  | .list ds => .ok ds
  | .tuple ds => .ok ds
  | .str x => .ok (x.cps.toList.map fun c => PyData.str ⟨#[c]⟩)
  | _ => .bad
def rg1D : PyData → R (List PyData)
  | .int i => if rgOk i then .ok (rgD 0 i) else .bad
  | _ => .bad
def rg2D : PyData → PyData → R (List PyData)
  | .int i, .int j => if rgOk i && rgOk j then .ok (rgD i j) else .bad
  | _, _ => .bad
def rg3D : PyData → PyData → PyData → R (List PyData)
  | .int i, .int j, .int k => if rgCOk i j k then .ok (rgCD i j k) else .bad
  | _, _, _ => .bad
def zipD (a b : PyData) : R (List PyData) := match a, b with
  | .list xs, .list ys => .ok ((xs.zip ys).map fun p => PyData.tuple [p.1, p.2])
  | .tuple xs, .tuple ys => .ok ((xs.zip ys).map fun p => PyData.tuple [p.1, p.2])
  | _, _ => .bad
def enumD (a : PyData) : R (List PyData) := match a with
  | .list xs => .ok ((xs.zipIdx 0).map fun p => PyData.tuple [.int p.2, p.1])
  | _ => .bad
/-- the items kept, one by one: no error comes out of a comprehension here -/
def lcF (t : Tg) (c e : En → R PyData) (ρ : En) : List PyData → Option (List PyData)
  | [] => some []
  | d :: ds => match tset t d ρ with
    | .ok ρ1 => (match c ρ1 with
      | .ok (.bool true) => (match e ρ1 with
        | .ok x => (match lcF t c e ρ ds with
          | some xs => some (x :: xs)
          | none => none)
        | _ => none)
      | .ok (.bool false) => lcF t c e ρ ds
      | _ => none)
    | _ => none
def lcR : Option (List PyData) → R PyData
  | some xs => .ok (.list xs)
  | none => .bad
mutual
def ev : E → En → R PyData
  | .var i, ρ => getV ρ i
  | .bor i, ρ => getB ρ i
  | .boc i, ρ => getC ρ i
  | .cst d, _ => .ok d
  | .glo _ d, _ => .ok d
  | .op o a b, ρ => (ev a ρ).bind fun x => (ev b ρ).bind fun y => op2 o x y
  | .neg a, ρ => (ev a ρ).bind fun x => int1 x fun i => .ok (.int (-i))
  | .cmp c a b, ρ => (ev a ρ).bind fun x => (ev b ρ).bind fun y => cmp2 c x y
  | .eqc n a b, ρ => (ev a ρ).bind fun x => (ev b ρ).bind fun y => eqcD n x y
  | .chn c1 c2 a b e, ρ => (ev a ρ).bind fun x => (ev b ρ).bind fun y => (cmp2 c1 x y).bind fun z => bl1 z fun k => match k with
    | true => (ev e ρ).bind fun w => cmp2 c2 y w
    | false => .ok (.bool false)
  | .not a, ρ => (ev a ρ).bind fun x => bl1 x fun k => .ok (.bool (!k))
  | .and a b, ρ => (ev a ρ).bind fun x => bl1 x fun k => match k with
    | true => ev b ρ
    | false => .ok (.bool false)
  | .or a b, ρ => (ev a ρ).bind fun x => bl1 x fun k => match k with
    | true => .ok (.bool true)
    | false => ev b ρ
  | .tru a, ρ => (ev a ρ).bind truD
  | .ite c a b, ρ => (ev c ρ).bind fun x => bl1 x fun k => match k with
    | true => ev a ρ
    | false => ev b ρ
  | .tup as, ρ => (evs as ρ).bind fun xs => if xs.length ≤ sizeLine then .ok (.tuple xs) else .bad
  | .lst as, ρ => (evs as ρ).bind fun xs => if xs.length ≤ sizeLine then .ok (.list xs) else .bad
  | .idx a i, ρ => (ev a ρ).bind fun x => (ev i ρ).bind fun y => idxD x y
  | .slN a, ρ => (ev a ρ).bind fun x => slcD x none none
  | .slL a l, ρ => (ev a ρ).bind fun x => (ev l ρ).bind fun y => int1 y fun i => slcD x (some i) none
  | .slU a h, ρ => (ev a ρ).bind fun x => (ev h ρ).bind fun y => int1 y fun i => slcD x none (some i)
  | .slB a l h, ρ => (ev a ρ).bind fun x => (ev l ρ).bind fun y => int1 y fun i => (ev h ρ).bind fun z => int1 z fun j => slcD x (some i) (some j)
  | .rev a, ρ => (ev a ρ).bind fun x => match x with
    | .list ds => .ok (.list ds.reverse)
    | _ => .bad
  | .call _ g as, ρ => (evs as ρ).bind g
  | .fn b a, ρ => (ev a ρ).bind fun x => fn1 b x
  | .lc t s c own e, ρ => (evr s ρ).bind fun ds => if ds.length < sizeLine then lcR (lcF t (ev c) (ev e) (wipeE ρ own) ds) else .bad
def evs : Es → En → R (List PyData)
  | .nil, _ => .ok []
  | .cons a as, ρ => (ev a ρ).bind fun x => (evs as ρ).bind fun xs => .ok (x :: xs)
def evr : Sr → En → R (List PyData)
  | .it a, ρ => (ev a ρ).bind seqD
  | .rg1 a, ρ => (ev a ρ).bind rg1D
  | .rg2 a b, ρ => (ev a ρ).bind fun x => (ev b ρ).bind (rg2D x)
  | .rg3 a b c, ρ => (ev a ρ).bind fun x => (ev b ρ).bind fun y => (ev c ρ).bind (rg3D x y)
  | .zip a b, ρ => (ev a ρ).bind fun x => (ev b ρ).bind fun y => zipD x y
  | .enum a, ρ => (ev a ρ).bind enumD
end
def flM : PyData → R MT
  | .list ds => .ok (.fl ds)
  | _ => .bad
mutual
def evn : NE → En → R MT
  | .e a, ρ => (ev a ρ).bind fun d => .ok (.dat d)
  | .fl a, ρ => (ev a ρ).bind flM
  | .lst l, ρ => (evns l ρ).bind fun ts => if ts.ds.length ≤ sizeLine then .ok (.lst ts) else .bad
  | .tup l, ρ => (evns l ρ).bind fun ts => if ts.ds.length ≤ sizeLine then .ok (.tup ts) else .bad
  | .call _ g sh as, ρ => (evs as ρ).bind fun ds => (g ds).bind fun d => .ok (sh d)
def evns : NEs → En → R MTs
  | .nil, _ => .ok .nil
  | .cons n l, ρ => (evn n ρ).bind fun t => (evns l ρ).bind fun ts => .ok (.cons t ts)
end
inductive F where
  | nx (ρ : En) | rt (d : PyData) | rtn (t : MT) | bk (ρ : En) | ct (ρ : En) | exc (c : Str) (p : Option (Str × PyData)) (ρ : En) | bad
def F.then_ (f : F) (k : En → F) : F := match f with
  | .nx ρ => k ρ
  | _ => f
def R.on {α : Type} (r : R α) (ρ : En) (k : α → F) : F := match r with
  | .ok a => k a
  | .exc c p => .exc c p ρ
  | .bad => .bad
/-- a turn's end -/
def F.loop (f : F) (k : En → F) : F := match f with
  | .nx ρ2 => k ρ2
  | .ct ρ2 => k ρ2
  | .bk ρ2 => .nx ρ2
  | .rt x => .rt x
  | .rtn x => .rtn x
  | .exc c p ρ2 => .exc c p ρ2
  | .bad => .bad
def unpF : R En → F
  | .ok ρ => .nx ρ
  | _ => .bad
def ifF (x : PyData) (a b : F) : F := match x with
  | .bool true => a
  | .bool false => b
  | _ => .bad
def newF (i : Nat) (ρ : En) (t : MT) : F := .nx (ρ.set i (mkS t))
def parF (i j : Nat) (ρ : En) : List PyData → F
  | [x, y] => .nx ((ρ.set i (.val x)).set j (.val y))
  | _ => .bad
def appD (i : Nat) (ρ : En) (ds : List PyData) (d : PyData) : F := if ds.length < sizeLine then .nx (ρ.set i (.own (.fl (ds ++ [d])))) else .bad
def extD (i : Nat) (ρ : En) (ds : List PyData) : PyData → F
  | .list es => if ds.length + es.length ≤ sizeLine then .nx (ρ.set i (.own (.fl (ds ++ es)))) else .bad
  | _ => .bad
def stiD (i : Nat) (ρ : En) (ds : List PyData) (d : PyData) : PyData → F
  | .int z => (match ixN ds.length z with
    | some j => .nx (ρ.set i (.own (.fl (ds.set j d))))
    | none => .bad)
  | _ => .bad
/-- with the own list at a slot -/
def ownAt (ρ : En) (i : Nat) (k : List PyData → F) : F := match ρ[i]? with
  | some (.own (.fl ds)) => k ds
  | _ => .bad
/-- an own thing is handed back -/
def rtoF (ρ : En) (i : Nat) : F := match ρ[i]? with
  | some (.own t) => .rtn t
  | _ => .bad
/-- a loop's turns -/
def forF (t : Tg) (b : En → F) : List PyData → En → F
  | [], ρ => .nx ρ
  | d :: ds, ρ => match tset t d ρ with
    | .ok ρ1 => (b ρ1).loop (forF t b ds)
    | _ => .bad
def whlF (c : En → R PyData) (b : En → F) : Nat → En → F
  | 0, _ => .bad
  | n + 1, ρ => (c ρ).on ρ fun x => ifF x ((b ρ).loop (whlF c b n)) (.nx ρ)
noncomputable def whlD (c : En → R PyData) (b : En → F) (ρ : En) : F := if h : ∃ n, whlF c b n ρ ≠ .bad then whlF c b (choose h) ρ else .bad
theorem whlF_mono {c : En → R PyData} {b : En → F} : ∀ {n m : Nat} {ρ : En}, whlF c b n ρ ≠ .bad → n ≤ m → whlF c b m ρ = whlF c b n ρ
  | 0, _, _, h, _ => absurd rfl h
  | n + 1, 0, _, _, h => absurd h (Nat.not_succ_le_zero n)
  | n + 1, m + 1, ρ, h, hm => by
    have ih := fun {ρ} (q : whlF c b n ρ ≠ .bad) => whlF_mono (m := m) q (Nat.le_of_succ_le_succ hm)
    unfold whlF at h ⊢
    cases hc : c ρ with
    | ok x =>
      rw [hc] at h
      cases x with
      | bool k =>
        cases k with
        | true =>
          have h' : (b ρ).loop (whlF c b n) ≠ .bad := h
          show (b ρ).loop (whlF c b m) = (b ρ).loop (whlF c b n)
          cases hb : b ρ with
          | nx ρ2 => rw [hb] at h'; exact ih h'
          | ct ρ2 => rw [hb] at h'; exact ih h'
          | bk ρ2 => rfl
          | rt x => rfl
          | rtn x => rfl
          | exc c p ρ2 => rfl
          | bad => rfl
        | false => rfl
      | _ => rfl
    | exc c p => rfl
    | bad => rfl
theorem whlD_eq {c : En → R PyData} {b : En → F} {n : Nat} {ρ : En} (h : whlF c b n ρ ≠ .bad) : whlD c b ρ = whlF c b n ρ := by
  have hx : ∃ n, whlF c b n ρ ≠ .bad := ⟨n, h⟩
  unfold whlD
  rw [dif_pos hx]
  have h2 := choose_spec hx
  rcases Nat.le_total n (choose hx) with q | q
  · exact whlF_mono h q
  · exact (whlF_mono h2 q).symm
theorem whlD_bad {c : En → R PyData} {b : En → F} {ρ : En} (h : whlD c b ρ ≠ .bad) : ∃ n, whlF c b n ρ = whlD c b ρ ∧ whlF c b n ρ ≠ .bad := by
  by_cases hx : ∃ n, whlF c b n ρ ≠ .bad
  · obtain ⟨n, hn⟩ := hx
    exact ⟨n, (whlD_eq hn).symm, hn⟩
  · exact absurd (dif_neg hx) h
mutual
noncomputable def run : S → En → F
  | .set i e, ρ => (ev e ρ).on ρ fun d => .nx (ρ.set i (.val d))
  | .setN i n, ρ => (evn n ρ).on ρ (newF i ρ)
  | .par i j a b, ρ => (evs (.cons a (.cons b .nil)) ρ).on ρ (parF i j ρ)
  | .unp t e, ρ => (ev e ρ).on ρ fun d => unpF (tset t d ρ)
  | .app i e, ρ => ownAt ρ i fun ds => (ev e ρ).on ρ (appD i ρ ds)
  | .ext i e, ρ => ownAt ρ i fun ds => (ev e ρ).on ρ (extD i ρ ds)
  | .clr i, ρ => ownAt ρ i fun _ => .nx (ρ.set i (.own (.fl [])))
  | .sti i k e, ρ => (ev e ρ).on ρ fun d => ownAt ρ i fun ds => (ev k ρ).on ρ (stiD i ρ ds d)
  | .drop e, ρ => (ev e ρ).on ρ fun _ => .nx ρ
  | .ret e, ρ => (ev e ρ).on ρ .rt
  | .rtn n, ρ => (evn n ρ).on ρ .rtn
  | .rto i, ρ => rtoF ρ i
  | .retN, _ => .rt .none
  | .if_ c a b, ρ => (ev c ρ).on ρ fun x => ifF x (runs a ρ) (runs b ρ)
  | .for_ t s b, ρ => (evr s ρ).on ρ fun ds => forF t (runs b) ds ρ
  | .whl c b, ρ => whlD (ev c) (runs b) ρ
  | .brk, ρ => .bk ρ
  | .cnt, ρ => .ct ρ
  | .pass, ρ => .nx ρ
  | .never, _ => .bad
  | .esc l s, ρ => run s (escE ρ l)
noncomputable def runs : Ss → En → F
  | .nil, ρ => .nx ρ
  | .cons s l, ρ => (run s ρ).then_ (runs l)
end
/-- a def: its parameters, its other names, its body -/
noncomputable def def_ (n m : Nat) (b : Ss) : Sem := fun ds => if ds.length = n then (match runs b (ds.map .val ++ List.replicate m .no) with
  | .rt d => .ok d
  | .rtn t => .ok t.d
  | .nx _ => .ok .none
  | .exc c p _ => .exc c p
  | _ => .bad) else .bad
/-- a def whose result is new, as sh tells -/
noncomputable def defN (sh : PyData → MT) (n m : Nat) (b : Ss) : Sem := fun ds => if ds.length = n then (match runs b (ds.map .val ++ List.replicate m .no) with
  | .rt d => if sh d = .dat d then .ok d else .bad
  | .rtn t => if sh t.d = t then .ok t.d else .bad
  | .nx _ => if sh .none = .dat .none then .ok .none else .bad
  | .exc c p _ => .exc c p
  | _ => .bad) else .bad
/-- a new list, what is in it as it was -/
def shF : PyData → MT
  | .list ds => .fl ds
  | d => .dat d
end Dy

namespace Dy
open PySem PySem.Spec PyProof.Rows L2
open Classical
/-- what stays through a body: the written part, the module's names, the heap at the entry, what of it is hidden from the def's data -/
structure Pm where
  K : PySem.W.Frag
  mg : Str → Option Value
  H0 : Hp
  F : Addr → Prop
abbrev WX := Value → Option Addr → L2.St → Hp → Prop
mutual
inductive Ow (K : PySem.W.Frag) (F S : Addr → Prop) (H : Hp) : V → MT → List Addr → Prop
  | dat {v : V} {d : PyData} : Rp K (hid S H) v d → Ow K F S H v (.dat d) []
  | fl {a : Addr} {vs : List V} {ds : List PyData} : S a → ¬ F a → H a = some (.lst vs) → RpAll K (hid S H) vs ds → Ow K F S H (.ref a) (.fl ds) [a]
  | lst {a : Addr} {vs : List V} {l : MTs} {fp : List Addr} : S a → ¬ F a → H a = some (.lst vs) → OwAll K F S H vs l fp → a ∉ fp → Ow K F S H (.ref a) (.lst l) (a :: fp)
  | tup {a : Addr} {vs : List V} {l : MTs} {fp : List Addr} : SqT K (hid S H) a vs → OwAll K F S H vs l fp → Ow K F S H (.ref a) (.tup l) fp
inductive OwAll (K : PySem.W.Frag) (F S : Addr → Prop) (H : Hp) : List V → MTs → List Addr → Prop
  | nil : OwAll K F S H [] .nil []
  | cons {v : V} {vs : List V} {t : MT} {l : MTs} {fp fq : List Addr} : Ow K F S H v t fp → OwAll K F S H vs l fq → (∀ b ∈ fp, b ∉ fq) → OwAll K F S H (v :: vs) (.cons t l) (fp ++ fq)
end
section
variable {K : PySem.W.Frag} {F S S' : Addr → Prop} {H H' : Hp}
mutual
theorem Ow.at_ : ∀ {t : MT} {v : V} {fp : List Addr}, Ow K F S H v t fp → ∀ b ∈ fp, S b ∧ ¬ F b ∧ H b ≠ none
  | .dat _, _, _, h => by cases h; intro b hb; cases hb
  | .fl _, _, _, h => by
    cases h with
    | fl h1 h2 h3 h4 =>
      intro b hb
      rw [List.mem_singleton.mp hb]
      exact ⟨h1, h2, by rw [h3]; simp⟩
  | .lst l, _, _, h => by
    cases h with
    | lst h1 h2 h3 h4 h5 =>
      intro b hb
      rcases List.mem_cons.mp hb with e | hb
      · rw [e]; exact ⟨h1, h2, by rw [h3]; simp⟩
      · exact OwAll.at_ h4 b hb
  | .tup l, _, _, h => by
    cases h with
    | tup h1 h2 => exact OwAll.at_ h2
theorem OwAll.at_ : ∀ {l : MTs} {vs : List V} {fp : List Addr}, OwAll K F S H vs l fp → ∀ b ∈ fp, S b ∧ ¬ F b ∧ H b ≠ none
  | .nil, _, _, h => by cases h; intro b hb; cases hb
  | .cons t l, _, _, h => by
    cases h with
    | cons h1 h2 h3 =>
      intro b hb
      rcases List.mem_append.mp hb with hb | hb
      · exact Ow.at_ h1 b hb
      · exact OwAll.at_ h2 b hb
end
mutual
theorem Ow.imp (k : Same (hid S H) (hid S' H')) : ∀ {t : MT} {v : V} {fp : List Addr}, Ow K F S H v t fp → (∀ b ∈ fp, S' b) → (∀ b ∈ fp, ∀ o, H b = some o → H' b = some o) → Ow K F S' H' v t fp
  | .dat _, _, _, h, s, g => by
    cases h with
    | dat h1 => exact .dat (h1.mono k)
  | .fl _, _, _, h, s, g => by
    cases h with
    | fl h1 h2 h3 h4 => exact .fl (s _ List.mem_cons_self) h2 (g _ List.mem_cons_self _ h3) (h4.mono k)
  | .lst l, _, _, h, s, g => by
    cases h with
    | lst h1 h2 h3 h4 h5 => exact .lst (s _ List.mem_cons_self) h2 (g _ List.mem_cons_self _ h3) (OwAll.imp k h4 (fun b hb => s b (List.mem_cons_of_mem _ hb)) fun b hb => g b (List.mem_cons_of_mem _ hb)) h5
  | .tup l, _, _, h, s, g => by
    cases h with
    | tup h1 h2 => exact .tup (sqt_mono k h1) (OwAll.imp k h2 s g)
theorem OwAll.imp (k : Same (hid S H) (hid S' H')) : ∀ {l : MTs} {vs : List V} {fp : List Addr}, OwAll K F S H vs l fp → (∀ b ∈ fp, S' b) → (∀ b ∈ fp, ∀ o, H b = some o → H' b = some o) → OwAll K F S' H' vs l fp
  | .nil, _, _, h, s, g => by cases h; exact .nil
  | .cons t l, _, _, h, s, g => by
    cases h with
    | cons h1 h2 h3 => exact .cons (Ow.imp k h1 (fun b hb => s b (List.mem_append_left _ hb)) fun b hb => g b (List.mem_append_left _ hb)) (OwAll.imp k h2 (fun b hb => s b (List.mem_append_right _ hb)) fun b hb => g b (List.mem_append_right _ hb)) h3
end
mutual
theorem Ow.frame {F' : Addr → Prop} (f : ∀ a, F' a → F a) : ∀ {t : MT} {v : V} {fp : List Addr}, Ow K F S H v t fp → Ow K F' S H v t fp
  | .dat _, _, _, h => by
    cases h with
    | dat h1 => exact .dat h1
  | .fl _, _, _, h => by
    cases h with
    | fl h1 h2 h3 h4 => exact .fl h1 (fun z => h2 (f _ z)) h3 h4
  | .lst l, _, _, h => by
    cases h with
    | lst h1 h2 h3 h4 h5 => exact .lst h1 (fun z => h2 (f _ z)) h3 (OwAll.frame f h4) h5
  | .tup l, _, _, h => by
    cases h with
    | tup h1 h2 => exact .tup h1 (OwAll.frame f h2)
theorem OwAll.frame {F' : Addr → Prop} (f : ∀ a, F' a → F a) : ∀ {l : MTs} {vs : List V} {fp : List Addr}, OwAll K F S H vs l fp → OwAll K F' S H vs l fp
  | .nil, _, _, h => by cases h; exact .nil
  | .cons t l, _, _, h => by
    cases h with
    | cons h1 h2 h3 => exact .cons (Ow.frame f h1) (OwAll.frame f h2) h3
end
mutual
/-- as a datum, where its places are seen -/
theorem Ow.rp (sub : ∀ a, S' a → S a) : ∀ {t : MT} {v : V} {fp : List Addr}, Ow K F S H v t fp → (∀ b ∈ fp, ¬ S' b) → Rp K (hid S' H) v t.d
  | .dat _, _, _, h, n => by
    cases h with
    | dat h1 => exact h1.mono (hid_sub sub)
  | .fl _, _, _, h, n => by
    cases h with
    | fl h1 h2 h3 h4 => exact .lst (.inl (.inl (by rw [hid_neg (n _ List.mem_cons_self)]; exact h3))) (h4.mono (hid_sub sub))
  | .lst l, _, _, h, n => by
    cases h with
    | lst h1 h2 h3 h4 h5 => exact .lst (.inl (.inl (by rw [hid_neg (n _ List.mem_cons_self)]; exact h3))) (OwAll.rp sub h4 fun b hb => n b (List.mem_cons_of_mem _ hb))
  | .tup l, _, _, h, n => by
    cases h with
    | tup h1 h2 => exact .tup (sqt_mono (hid_sub sub) h1) (OwAll.rp sub h2 n)
theorem OwAll.rp (sub : ∀ a, S' a → S a) : ∀ {l : MTs} {vs : List V} {fp : List Addr}, OwAll K F S H vs l fp → (∀ b ∈ fp, ¬ S' b) → RpAll K (hid S' H) vs l.ds
  | .nil, _, _, h, n => by cases h; exact .nil
  | .cons t l, _, _, h, n => by
    cases h with
    | cons h1 h2 h3 => exact .cons (Ow.rp sub h1 fun b hb => n b (List.mem_append_left _ hb)) (OwAll.rp sub h2 fun b hb => n b (List.mem_append_right _ hb))
end
end
def addL (S : Addr → Prop) (fp : List Addr) : Addr → Prop := fun a => S a ∨ a ∈ fp
theorem addL_nil (S : Addr → Prop) : addL S [] = S := funext fun a => propext ⟨fun h => h.elim (fun h => h) (fun z => by cases z), fun h => .inl h⟩
theorem addL_app (S : Addr → Prop) (fp fq : List Addr) : addL (addL S fp) fq = addL S (fp ++ fq) := funext fun a => propext ⟨fun h => h.elim (fun h => h.elim .inl fun z => .inr (List.mem_append_left _ z)) fun z => .inr (List.mem_append_right _ z), fun h => h.elim (fun h => .inl (.inl h)) fun z => (List.mem_append.mp z).elim (fun z => .inl (.inr z)) .inr⟩
theorem addS_L (S : Addr → Prop) (D : Addr) : addS S D = addL S [D] := funext fun a => propext ⟨fun h => h.elim .inl fun z => .inr (List.mem_singleton.mpr z), fun h => h.elim .inl fun z => .inr (List.mem_singleton.mp z)⟩
/-- the slots as the evaluator has them; φ: where their own things lie -/
structure RsF (P : Pm) (φ : Nat → List Addr) (S : Addr → Prop) (σ : L2.St) (H : Hp) (ρ : En) : Prop where
  same : Same P.H0 H
  fs : ∀ a, P.F a → S a
  f0 : ∀ a, P.F a → P.H0 a ≠ none
  nw : ∀ a, S a → P.F a ∨ P.H0 a = none
  al : ∀ a, S a → H a ≠ none
  len : σ.length = ρ.length
  sl : ∀ (i : Nat) (d : PyData), ρ[i]? = some (.val d) → ∃ v, σ[i]? = some (some v) ∧ Rp P.K (hid S H) v d
  ow : ∀ (i : Nat) (t : MT), ρ[i]? = some (.own t) → ∃ v, σ[i]? = some (some v) ∧ Ow P.K P.F S H v t (φ i)
  di : ∀ (i j : Nat) (t u : MT), i ≠ j → ρ[i]? = some (.own t) → ρ[j]? = some (.own u) → ∀ b ∈ φ i, b ∉ φ j
def Rs (P : Pm) (S : Addr → Prop) (σ : L2.St) (H : Hp) (ρ : En) : Prop := ∃ φ, RsF P φ S σ H ρ
theorem set_get_self {α : Type} {l : List α} {i : Nat} {x : α} (h : i < l.length) : (l.set i x)[i]? = some x := by rw [List.getElem?_set_self h]
theorem set_get_ne {α : Type} {l : List α} {i j : Nat} {x : α} (h : i ≠ j) : (l.set i x)[j]? = l[j]? := List.getElem?_set_ne h
theorem set_inv {α : Type} {l : List α} {i j : Nat} {x y : α} (h : (l.set i x)[j]? = some y) : (j = i ∧ y = x) ∨ (j ≠ i ∧ l[j]? = some y) := by
  by_cases e : i = j
  · subst e
    have hl : i < l.length := by
      have := (List.getElem?_eq_some_iff.mp h).1
      rw [List.length_set] at this
      exact this
    rw [set_get_self hl] at h
    exact .inl ⟨rfl, (Option.some.inj h).symm⟩
  · rw [set_get_ne e] at h
    exact .inr ⟨fun z => e z.symm, h⟩
theorem lt_of_get {α : Type} {l : List α} {i : Nat} {x : α} (h : l[i]? = some x) : i < l.length := (List.getElem?_eq_some_iff.mp h).1
section
variable {P : Pm} {φ : Nat → List Addr} {S S' : Addr → Prop} {σ : L2.St} {H H' : Hp} {ρ : En}
theorem Rs.same (r : Rs P S σ H ρ) : Same P.H0 H := r.elim fun _ r => r.same
theorem Rs.fs (r : Rs P S σ H ρ) : ∀ a, P.F a → S a := r.elim fun _ r => r.fs
theorem Rs.f0 (r : Rs P S σ H ρ) : ∀ a, P.F a → P.H0 a ≠ none := r.elim fun _ r => r.f0
theorem Rs.nw (r : Rs P S σ H ρ) : ∀ a, S a → P.F a ∨ P.H0 a = none := r.elim fun _ r => r.nw
theorem Rs.al (r : Rs P S σ H ρ) : ∀ a, S a → H a ≠ none := r.elim fun _ r => r.al
theorem Rs.len (r : Rs P S σ H ρ) : σ.length = ρ.length := r.elim fun _ r => r.len
theorem Rs.sl (r : Rs P S σ H ρ) : ∀ (i : Nat) (d : PyData), ρ[i]? = some (.val d) → ∃ v, σ[i]? = some (some v) ∧ Rp P.K (hid S H) v d := r.elim fun _ r => r.sl
theorem Rs.ow (r : Rs P S σ H ρ) : ∀ (i : Nat) (t : MT), ρ[i]? = some (.own t) → ∃ v fp, σ[i]? = some (some v) ∧ Ow P.K P.F S H v t fp := fun i t h => r.elim fun φ r => (r.ow i t h).elim fun v q => ⟨v, φ i, q⟩
theorem Rs.notS (r : Rs P S σ H ρ) {a : Addr} (h : H a = none) : ¬ S a := fun z => r.al a z h
/-- another heap, more of it hidden -/
theorem RsF.to (r : RsF P φ S σ H ρ) (e : Same P.H0 H') (nw : ∀ a, S' a → P.F a ∨ P.H0 a = none) (al : ∀ a, S' a → H' a ≠ none) (fs : ∀ a, P.F a → S' a) (k : Same (hid S H) (hid S' H')) (s : ∀ a, S a → S' a)
    (g : ∀ (i : Nat) (t : MT), ρ[i]? = some (.own t) → ∀ b ∈ φ i, ∀ o, H b = some o → H' b = some o) : RsF P φ S' σ H' ρ where
  same := e
  fs := fs
  f0 := r.f0
  nw := nw
  al := al
  len := r.len
  sl := fun i d h => by
    obtain ⟨v, h1, h2⟩ := r.sl i d h
    exact ⟨v, h1, h2.mono k⟩
  ow := fun i t h => by
    obtain ⟨v, h1, h2⟩ := r.ow i t h
    exact ⟨v, h1, Ow.imp k h2 (fun b hb => s b (h2.at_ b hb).1) (g i t h)⟩
  di := r.di
theorem RsF.grow (r : RsF P φ S σ H ρ) (e : Same H H') : RsF P φ S σ H' ρ :=
  r.to (r.same.trans e) r.nw (fun a h z => r.al a h (e.free z)) r.fs (hid_same e) (fun _ h => h) fun _ _ _ b _ o q => e b o q
theorem Rs.grow (r : Rs P S σ H ρ) (e : Same H H') : Rs P S σ H' ρ := r.elim fun φ r => ⟨φ, r.grow e⟩
theorem RsF.mem (r : RsF P φ S σ H ρ) {i : Nat} {t : MT} (h : ρ[i]? = some (.own t)) : ∀ b ∈ φ i, S b ∧ ¬ P.F b ∧ H b ≠ none := by
  obtain ⟨v, _, h2⟩ := r.ow i t h
  exact h2.at_
/-- new things are hidden -/
theorem RsF.hideL (r : RsF P φ S σ H ρ) {fp : List Addr} (e : Same H H') (n : ∀ b ∈ fp, H b = none) (y : ∀ b ∈ fp, H' b ≠ none) (k : Same (hid S H) (hid (addL S fp) H')) : RsF P φ (addL S fp) σ H' ρ :=
  r.to (r.same.trans e) (fun a h => h.elim (r.nw a) fun z => .inr (r.same.free (n a z))) (fun a h => h.elim (fun h z => r.al a h (e.free z)) (y a)) (fun a h => .inl (r.fs a h)) k (fun _ h => .inl h) fun _ _ _ b _ o q => e b o q
theorem Rs.hideL (r : Rs P S σ H ρ) {fp : List Addr} (e : Same H H') (n : ∀ b ∈ fp, H b = none) (y : ∀ b ∈ fp, H' b ≠ none) (k : Same (hid S H) (hid (addL S fp) H')) : Rs P (addL S fp) σ H' ρ := r.elim fun φ r => ⟨φ, r.hideL e n y k⟩
theorem RsF.hide (r : RsF P φ S σ H ρ) {D : Addr} {xs : List V} (h : H D = none) : RsF P φ (addS S D) σ (upd H D (.lst xs)) ρ := by
  rw [addS_L]
  refine r.hideL (same_new h) (fun b hb => by rw [List.mem_singleton.mp hb]; exact h) (fun b hb => by rw [List.mem_singleton.mp hb, upd_same]; simp) ?_
  rw [← addS_L, hid_new h]
  exact Same.refl _
/-- a hidden thing changes that no slot owns -/
theorem RsF.back (r : RsF P φ S σ H ρ) {D : Addr} {xs : List V} (hS : S D) (hF : ¬ P.F D) (hn : ∀ (i : Nat) (t : MT), ρ[i]? = some (.own t) → D ∉ φ i) : RsF P φ S σ (upd H D (.lst xs)) ρ := by
  refine r.to (fun b o e => ?_) r.nw (fun a q => ?_) r.fs (by rw [hid_upd hS]; exact Same.refl _) (fun _ h => h) fun i t h b hb o q => ?_
  · have hb : b ≠ D := fun z => by
      rw [z] at e
      rcases r.nw D hS with q | q
      · exact hF q
      · rw [q] at e; cases e
    rw [upd_ne hb]; exact r.same b o e
  · by_cases e : a = D
    · rw [e, upd_same]; simp
    · rw [upd_ne e]; exact r.al a q
  · rw [upd_ne (fun z => hn i t h (by rw [← z]; exact hb))]; exact q
/-- a slot takes a datum -/
theorem RsF.put (r : RsF P φ S σ H ρ) {i : Nat} {v : V} {d : PyData} (h : Rp P.K (hid S H) v d) : RsF P φ S (σ.set i (some v)) H (ρ.set i (.val d)) where
  same := r.same
  fs := r.fs
  f0 := r.f0
  nw := r.nw
  al := r.al
  len := by rw [List.length_set, List.length_set]; exact r.len
  sl := fun j e q => by
    rcases set_inv q with ⟨rfl, z⟩ | ⟨hj, q⟩
    · injection z with z
      subst z
      refine ⟨v, set_get_self ?_, h⟩
      have := lt_of_get q
      rw [List.length_set] at this
      rw [r.len]; exact this
    · obtain ⟨u, h1, h2⟩ := r.sl j e q
      exact ⟨u, by rw [set_get_ne (Ne.symm hj)]; exact h1, h2⟩
  ow := fun j t q => by
    rcases set_inv q with ⟨_, z⟩ | ⟨hj, q⟩
    · cases z
    · obtain ⟨u, h1, h2⟩ := r.ow j t q
      exact ⟨u, by rw [set_get_ne (Ne.symm hj)]; exact h1, h2⟩
  di := fun j k t u hjk q1 q2 => by
    rcases set_inv q1 with ⟨_, z⟩ | ⟨_, q1⟩
    · cases z
    rcases set_inv q2 with ⟨_, z⟩ | ⟨_, q2⟩
    · cases z
    exact r.di j k t u hjk q1 q2
theorem Rs.put (r : Rs P S σ H ρ) {i : Nat} {v : V} {d : PyData} (h : Rp P.K (hid S H) v d) : Rs P S (σ.set i (some v)) H (ρ.set i (.val d)) := r.elim fun φ r => ⟨φ, r.put h⟩
theorem RsF.forget (r : RsF P φ S σ H ρ) (i : Nat) (x : Option V) : RsF P φ S (σ.set i x) H (ρ.set i .no) where
  same := r.same
  fs := r.fs
  f0 := r.f0
  nw := r.nw
  al := r.al
  len := by rw [List.length_set, List.length_set]; exact r.len
  sl := fun j e q => by
    rcases set_inv q with ⟨_, z⟩ | ⟨hj, q⟩
    · cases z
    · obtain ⟨u, h1, h2⟩ := r.sl j e q
      exact ⟨u, by rw [set_get_ne (Ne.symm hj)]; exact h1, h2⟩
  ow := fun j t q => by
    rcases set_inv q with ⟨_, z⟩ | ⟨hj, q⟩
    · cases z
    · obtain ⟨u, h1, h2⟩ := r.ow j t q
      exact ⟨u, by rw [set_get_ne (Ne.symm hj)]; exact h1, h2⟩
  di := fun j k t u hjk q1 q2 => by
    rcases set_inv q1 with ⟨_, z⟩ | ⟨_, q1⟩
    · cases z
    rcases set_inv q2 with ⟨_, z⟩ | ⟨_, q2⟩
    · cases z
    exact r.di j k t u hjk q1 q2
theorem RsF.wipe (r : RsF P φ S σ H ρ) : ∀ l : List Nat, RsF P φ S (wipe σ l) H (wipeE ρ l)
  | [] => r
  | v :: vs => (RsF.wipe r vs).forget v none
theorem Rs.wipe (r : Rs P S σ H ρ) (l : List Nat) : Rs P S (wipe σ l) H (wipeE ρ l) := r.elim fun φ r => ⟨φ, r.wipe l⟩
/-- a slot takes a new thing, its own -/
theorem Rs.putNew (r : Rs P S σ H ρ) {i : Nat} {v : V} {t : MT} {fp : List Addr} (e : Same H H') (n : ∀ b ∈ fp, H b = none) (k : Same (hid S H) (hid (addL S fp) H')) (h : Ow P.K P.F (addL S fp) H' v t fp) : Rs P (addL S fp) (σ.set i (some v)) H' (ρ.set i (.own t)) := by
  obtain ⟨φ, r⟩ := r
  have r2 := r.hideL e n (fun b hb => (h.at_ b hb).2.2) k
  have dis : ∀ j u, ρ[j]? = some (.own u) → ∀ b ∈ φ j, b ∉ fp := fun j u q b hb z => (r.mem q b hb).2.2 (n b z)
  refine ⟨fun j => if j = i then fp else φ j, r2.same, r2.fs, r2.f0, r2.nw, r2.al, by rw [List.length_set, List.length_set]; exact r.len, fun j d q => ?_, fun j u q => ?_, fun j m u w hjm q1 q2 => ?_⟩
  · rcases set_inv q with ⟨_, z⟩ | ⟨hj, q⟩
    · cases z
    · obtain ⟨u, h1, h2⟩ := r2.sl j d q
      exact ⟨u, by rw [set_get_ne (Ne.symm hj)]; exact h1, h2⟩
  · rcases set_inv q with ⟨rfl, z⟩ | ⟨hj, q⟩
    · injection z with z
      subst z
      refine ⟨v, set_get_self ?_, by rw [if_pos rfl]; exact h⟩
      have := lt_of_get q
      rw [List.length_set] at this
      rw [r.len]; exact this
    · obtain ⟨w, h1, h2⟩ := r2.ow j u q
      exact ⟨w, by rw [set_get_ne (Ne.symm hj)]; exact h1, by rw [if_neg hj]; exact h2⟩
  · rcases set_inv q1 with ⟨ej, _⟩ | ⟨hj, q1⟩
    · rcases set_inv q2 with ⟨ek, _⟩ | ⟨hk, q2⟩
      · exact absurd (ej.trans ek.symm) hjm
      · intro b hb z
        rw [if_pos ej] at hb
        rw [if_neg hk] at z
        exact dis m w q2 b z hb
    · rcases set_inv q2 with ⟨ek, _⟩ | ⟨hk, q2⟩
      · intro b hb z
        rw [if_neg hj] at hb
        rw [if_pos ek] at z
        exact dis j u q1 b hb z
      · intro b hb z
        rw [if_neg hj] at hb
        rw [if_neg hk] at z
        exact r.di j m u w hjm q1 q2 b hb z
/-- an own thing changes at one of its places -/
theorem RsF.turn (r : RsF P φ S σ H ρ) {i : Nat} {a : Addr} {o : HO} {v : V} {t t' : MT} {fq : List Addr} (hi : ρ[i]? = some (.own t)) (hv : σ[i]? = some (some v)) (ha : a ∈ φ i) (hq : ∀ b ∈ fq, b ∈ φ i) (h : Ow P.K P.F S (upd H a o) v t' fq) : RsF P (fun j => if j = i then fq else φ j) S σ (upd H a o) (ρ.set i (.own t')) := by
  obtain ⟨sA, nF, _⟩ := r.mem hi a ha
  have same : Same P.H0 (upd H a o) := fun b u e => by
    have hb : b ≠ a := fun z => by
      rw [z] at e
      rcases r.nw a sA with q | q
      · exact nF q
      · rw [q] at e; cases e
    rw [upd_ne hb]; exact r.same b u e
  refine ⟨same, r.fs, r.f0, r.nw, fun b q => ?_, by rw [List.length_set]; exact r.len, fun j d q => ?_, fun j u q => ?_, fun j m u w hjm q1 q2 => ?_⟩
  · by_cases e : b = a
    · rw [e, upd_same]; simp
    · rw [upd_ne e]; exact r.al b q
  · rcases set_inv q with ⟨_, z⟩ | ⟨hj, q⟩
    · cases z
    · obtain ⟨x, h1, h2⟩ := r.sl j d q
      exact ⟨x, h1, by rw [hid_upd sA]; exact h2⟩
  · rcases set_inv q with ⟨rfl, z⟩ | ⟨hj, q⟩
    · injection z with z
      subst z
      exact ⟨v, hv, by rw [if_pos rfl]; exact h⟩
    · obtain ⟨x, h1, h2⟩ := r.ow j u q
      refine ⟨x, h1, ?_⟩
      rw [if_neg hj]
      refine Ow.imp (by rw [hid_upd sA]; exact Same.refl _) h2 (fun b hb => (h2.at_ b hb).1) fun b hb o' e => ?_
      rw [upd_ne (fun z => r.di j i u t hj q hi b hb (by rw [z]; exact ha))]
      exact e
  · have g : ∀ {j : Nat} {u : MT}, (ρ.set i (Slot.own t'))[j]? = some (Slot.own u) → ∃ u' : MT, ρ[j]? = some (Slot.own u') := fun {j u} q => by
      rcases set_inv q with ⟨e, _⟩ | ⟨_, q⟩
      · exact ⟨_, by rw [e]; exact hi⟩
      · exact ⟨_, q⟩
    obtain ⟨u', q1⟩ := g q1
    obtain ⟨w', q2⟩ := g q2
    intro b hb z
    have hb' : b ∈ φ j := by
      by_cases e : j = i
      · rw [if_pos e] at hb; rw [e]; exact hq b hb
      · rw [if_neg e] at hb; exact hb
    have z' : b ∈ φ m := by
      by_cases e : m = i
      · rw [if_pos e] at z; rw [e]; exact hq b z
      · rw [if_neg e] at z; exact z
    exact r.di j m u' w' hjm q1 q2 b hb' z'
/-- the slot's own flat list changes -/
theorem Rs.flat (r : Rs P S σ H ρ) {i : Nat} {ds : List PyData} (hi : ρ[i]? = some (.own (.fl ds))) : ∃ a vs, σ[i]? = some (some (.ref a)) ∧ S a ∧ ¬ P.F a ∧ H a = some (.lst vs) ∧ RpAll P.K (hid S H) vs ds := by
  obtain ⟨φ, r⟩ := r
  obtain ⟨v, h1, h2⟩ := r.ow i _ hi
  generalize φ i = fp at h2
  cases h2 with
  | fl g1 g2 g3 g4 => exact ⟨_, _, h1, g1, g2, g3, g4⟩
theorem Rs.turn (r : Rs P S σ H ρ) {i : Nat} {a : Addr} {us : List V} {ds es : List PyData} (hi : ρ[i]? = some (.own (.fl ds))) (ha : σ[i]? = some (some (.ref a))) (hu : RpAll P.K (hid S H) us es) : Rs P S σ (upd H a (.lst us)) (ρ.set i (.own (.fl es))) := by
  obtain ⟨φ, r⟩ := r
  obtain ⟨v, h1, h2⟩ := r.ow i _ hi
  rw [ha] at h1
  cases h1
  have e : φ i = [a] := by
    generalize φ i = fp at h2
    cases h2
    rfl
  rw [e] at h2
  cases h2 with
  | fl g1 g2 g3 g4 => exact ⟨_, r.turn hi ha (by rw [e]; exact List.mem_cons_self) (fun b hb => by rw [e]; exact hb) (.fl g1 g2 upd_same (by rw [hid_upd g1]; exact hu))⟩
/-- an own thing is shared from here on -/
theorem Rs.share (r : Rs P S σ H ρ) {i : Nat} {t : MT} (hi : ρ[i]? = some (.own t)) : ∃ S', (∀ a, S' a → S a) ∧ Rs P S' σ H (ρ.set i (.val t.d)) := by
  obtain ⟨φ, r⟩ := r
  have sub : ∀ b, (S b ∧ b ∉ φ i) → S b := fun b q => q.1
  refine ⟨fun b => S b ∧ b ∉ φ i, sub, φ, r.same, fun b q => ⟨r.fs b q, fun e => (r.mem hi b e).2.1 q⟩, r.f0, fun b q => r.nw b q.1, fun b q => r.al b q.1, by rw [List.length_set]; exact r.len, fun j d q => ?_, fun j u q => ?_, fun j k u w hjk q1 q2 => ?_⟩
  · rcases set_inv q with ⟨rfl, z⟩ | ⟨hj, q⟩
    · injection z with z
      subst z
      obtain ⟨v, h1, h2⟩ := r.ow j _ hi
      exact ⟨v, h1, Ow.rp sub h2 fun b hb z => z.2 hb⟩
    · obtain ⟨v, h1, h2⟩ := r.sl j d q
      exact ⟨v, h1, h2.mono (hid_sub sub)⟩
  · rcases set_inv q with ⟨_, z⟩ | ⟨hj, q⟩
    · cases z
    · obtain ⟨v, h1, h2⟩ := r.ow j u q
      exact ⟨v, h1, Ow.imp (hid_sub sub) h2 (fun b hb => ⟨(h2.at_ b hb).1, r.di j i u t hj q hi b hb⟩) fun _ _ _ e => e⟩
  · rcases set_inv q1 with ⟨_, z⟩ | ⟨_, q1⟩
    · cases z
    rcases set_inv q2 with ⟨_, z⟩ | ⟨_, q2⟩
    · cases z
    exact r.di j k u w hjk q1 q2
theorem Rs.esc (r : Rs P S σ H ρ) : ∀ l : List Nat, ∃ S', (∀ a, S' a → S a) ∧ Rs P S' σ H (escE ρ l)
  | [] => ⟨S, fun _ h => h, r⟩
  | v :: vs => by
    obtain ⟨S1, h1, r1⟩ := Rs.esc r vs
    show ∃ S', (∀ a, S' a → S a) ∧ Rs P S' σ H (match (escE ρ vs)[v]? with
      | some (.own t) => (escE ρ vs).set v (.val t.d)
      | _ => escE ρ vs)
    cases e : (escE ρ vs)[v]? with
    | none => exact ⟨S1, h1, r1⟩
    | some sl =>
      cases sl with
      | no => exact ⟨S1, h1, r1⟩
      | val d => exact ⟨S1, h1, r1⟩
      | own t =>
        obtain ⟨S2, h2, r2⟩ := r1.share e
        exact ⟨S2, fun a q => h1 a (h2 a q), r2⟩
end
/-- what an error bears -/
def Pay (K : PySem.W.Frag) (G : Hp) (o : Option Addr) : Option (Str × PyData) → Prop
  | none => True
  | some (f, d) => ∃ a v, o = some a ∧ G a = some (.xd [(f, v)]) ∧ Rp K G v d
theorem Pay.mono {K : PySem.W.Frag} {G G' : Hp} {o : Option Addr} {p : Option (Str × PyData)} (e : Same G G') (h : Pay K G o p) : Pay K G' o p := by
  cases p with
  | none => trivial
  | some q =>
    obtain ⟨f, d⟩ := q
    obtain ⟨a, v, h1, h2, h3⟩ := h
    exact ⟨a, v, h1, e _ _ h2, h3.mono e⟩
def XW (P : Pm) (W : WX) (S : Addr → Prop) (σ : L2.St) (H : Hp) (c : Str) (p : Option (Str × PyData)) : Prop :=
  ∀ C o H', P.mg c = some (.ref C) → Same H H' → Pay P.K (hid S H') o p → W (.ref C) o σ H'
theorem XW.mono {P : Pm} {W : WX} {S : Addr → Prop} {σ : L2.St} {H H' : Hp} {c : Str} {p : Option (Str × PyData)} (h : XW P W S σ H c p) (e : Same H H') : XW P W S σ H' c p := fun C o H2 m s y => h C o H2 m (e.trans s) y
/-- a value that is lent: an own list too -/
def Bp (P : Pm) (S : Addr → Prop) (H : Hp) (v : V) : PyData → Prop
  | .list ds => ∃ a vs, v = .ref a ∧ SqL P.K (hid P.F H) a vs ∧ RpAll P.K (hid S H) vs ds
  | d => Rp P.K (hid S H) v d
def RD (P : Pm) (W : WX) (S : Addr → Prop) (σ : L2.St) (H : Hp) (r : R PyData) (Q : VK) : Prop := match r with
  | .ok d => ∀ v H', Same H H' → Rp P.K (hid S H') v d → Q v H'
  | .exc c p => XW P W S σ H c p
  | .bad => False
def RB (P : Pm) (W : WX) (S : Addr → Prop) (σ : L2.St) (H : Hp) (r : R PyData) (Q : VK) : Prop := match r with
  | .ok d => ∀ v H', Same H H' → Bp P S H' v d → Q v H'
  | .exc c p => XW P W S σ H c p
  | .bad => False
/-- a new list, its own -/
def RN (P : Pm) (W : WX) (S : Addr → Prop) (σ : L2.St) (H : Hp) (r : R PyData) (Q : VK) : Prop := match r with
  | .ok (.list ds) => ∀ a vs H', Same H H' → H a = none → H' a = some (.lst vs) → Same (hid S H) (hid (addS S a) H') → RpAll P.K (hid (addS S a) H') vs ds → Q (.ref a) H'
  | .ok _ => False
  | .exc c p => XW P W S σ H c p
  | .bad => False
/-- new things, its own -/
def RM (P : Pm) (W : WX) (S : Addr → Prop) (σ : L2.St) (H : Hp) (r : R MT) (Q : VK) : Prop := match r with
  | .ok t => ∀ v fp H', Same H H' → (∀ b ∈ fp, H b = none) → Same (hid S H) (hid (addL S fp) H') → Ow P.K P.F (addL S fp) H' v t fp → Q v H'
  | .exc c p => XW P W S σ H c p
  | .bad => False
def RMs (P : Pm) (W : WX) (S : Addr → Prop) (σ : L2.St) (H : Hp) (r : R MTs) (Q : List V → Hp → Prop) : Prop := match r with
  | .ok l => ∀ vs fp H', Same H H' → (∀ b ∈ fp, H b = none) → Same (hid S H) (hid (addL S fp) H') → OwAll P.K P.F (addL S fp) H' vs l fp → Q vs H'
  | .exc c p => XW P W S σ H c p
  | .bad => False
/-- a value that is held against another -/
def RC (P : Pm) (W : WX) (S : Addr → Prop) (σ : L2.St) (H : Hp) (r : R PyData) (Q : VK) : Prop := match r with
  | .ok d => ∀ v H', Same H H' → Rp P.K (hid P.F H') v d → Q v H'
  | .exc c p => XW P W S σ H c p
  | .bad => False
def RT (P : Pm) (W : WX) (S : Addr → Prop) (σ : L2.St) (H : Hp) (r : R PyData) (Q : Bool → Hp → Prop) : Prop := match r with
  | .ok (.bool b) => ∀ H', Same H H' → Q b H'
  | .ok _ => False
  | .exc c p => XW P W S σ H c p
  | .bad => False
def RA (P : Pm) (W : WX) (S : Addr → Prop) (σ : L2.St) (H : Hp) (r : R (List PyData)) (Q : List V → Hp → Prop) : Prop := match r with
  | .ok ds => ∀ vs H', Same H H' → RpAll P.K (hid S H') vs ds → Q vs H'
  | .exc c p => XW P W S σ H c p
  | .bad => False
def TD (P : Pm) (W : WX) (e : E) : TE := fun σ H Q => ∃ ρ S, Rs P S σ H ρ ∧ RD P W S σ H (ev e ρ) Q
def TB (P : Pm) (W : WX) (e : E) : TE := fun σ H Q => ∃ ρ S, Rs P S σ H ρ ∧ RB P W S σ H (ev e ρ) Q
def TN (P : Pm) (W : WX) (e : E) : TE := fun σ H Q => ∃ ρ S, Rs P S σ H ρ ∧ RN P W S σ H (ev e ρ) Q
def TC (P : Pm) (W : WX) (e : E) : TE := fun σ H Q => ∃ ρ S, Rs P S σ H ρ ∧ RC P W S σ H (ev e ρ) Q
def TM (P : Pm) (W : WX) (n : NE) : TE := fun σ H Q => ∃ ρ S, Rs P S σ H ρ ∧ RM P W S σ H (evn n ρ) Q
def TMs (P : Pm) (W : WX) (l : NEs) : TA := fun σ H Q => ∃ ρ S, Rs P S σ H ρ ∧ RMs P W S σ H (evns l ρ) Q
def TTt (P : Pm) (W : WX) (e : E) : TT := fun σ H Q => ∃ ρ S, Rs P S σ H ρ ∧ RT P W S σ H (ev e ρ) Q
def TAs (P : Pm) (W : WX) (es : Es) : TA := fun σ H Q => ∃ ρ S, Rs P S σ H ρ ∧ RA P W S σ H (evs es ρ) Q
section
variable {P : Pm} {W : WX} {S : Addr → Prop} {σ : L2.St} {H H' : Hp} {r : R PyData} {Q : VK} {v : V} {d : PyData}
theorem Bp.of (h : Rp P.K (hid S H) v d) (fs : ∀ a, P.F a → S a) : Bp P S H v d := by
  cases d with
  | list ds =>
    cases h with
    | lst h1 h2 => exact ⟨_, _, rfl, sql_mono (hid_sub fs) h1, h2⟩
  | _ => exact h
theorem Bp.mono (h : Bp P S H v d) (e : Same H H') : Bp P S H' v d := by
  cases d with
  | list ds =>
    obtain ⟨a, vs, h1, h2, h3⟩ := h
    exact ⟨a, vs, h1, sql_mono (hid_same e) h2, h3.mono (hid_same e)⟩
  | none => exact Rp.mono (hid_same e) (show Rp P.K (hid S H) v .none from h)
  | bool b => exact Rp.mono (hid_same e) (show Rp P.K (hid S H) v (.bool b) from h)
  | int b => exact Rp.mono (hid_same e) (show Rp P.K (hid S H) v (.int b) from h)
  | str b => exact Rp.mono (hid_same e) (show Rp P.K (hid S H) v (.str b) from h)
  | tuple b => exact Rp.mono (hid_same e) (show Rp P.K (hid S H) v (.tuple b) from h)
  | dict b => exact Rp.mono (hid_same e) (show Rp P.K (hid S H) v (.dict b) from h)
/-- lent, as data of the whole heap -/
theorem Bp.rpF (h : Bp P S H v d) (fs : ∀ a, P.F a → S a) : Rp P.K (hid P.F H) v d := by
  cases d with
  | list ds =>
    obtain ⟨a, vs, h1, h2, h3⟩ := h
    rw [h1]
    exact .lst h2 (h3.mono (hid_sub fs))
  | none => exact Rp.mono (hid_sub fs) (show Rp P.K (hid S H) v .none from h)
  | bool b => exact Rp.mono (hid_sub fs) (show Rp P.K (hid S H) v (.bool b) from h)
  | int b => exact Rp.mono (hid_sub fs) (show Rp P.K (hid S H) v (.int b) from h)
  | str b => exact Rp.mono (hid_sub fs) (show Rp P.K (hid S H) v (.str b) from h)
  | tuple b => exact Rp.mono (hid_sub fs) (show Rp P.K (hid S H) v (.tuple b) from h)
  | dict b => exact Rp.mono (hid_sub fs) (show Rp P.K (hid S H) v (.dict b) from h)
theorem Bp.rp (h : Bp P S H v d) (fs : ∀ a, P.F a → S a) : Rp P.K H v d := (h.rpF fs).mono hid_full
theorem Bp.int {i : Int} (h : Bp P S H v (.int i)) : v = .int i := by
  have h : Rp P.K (hid S H) v (.int i) := h
  cases h; rfl
theorem Bp.bool {i : Bool} (h : Bp P S H v (.bool i)) : v = .bl i := by
  have h : Rp P.K (hid S H) v (.bool i) := h
  cases h; rfl
theorem Bp.str {i : Str} (h : Bp P S H v (.str i)) : v = .str i := by
  have h : Rp P.K (hid S H) v (.str i) := h
  cases h; rfl
theorem Bp.non (h : Bp P S H v .none) : v = .non := by
  have h : Rp P.K (hid S H) v .none := h
  cases h; rfl
theorem Bp.tup {ds : List PyData} (h : Bp P S H v (.tuple ds)) : ∃ a vs, v = .ref a ∧ SqT P.K (hid S H) a vs ∧ RpAll P.K (hid S H) vs ds := by
  have h : Rp P.K (hid S H) v (.tuple ds) := h
  cases h with
  | tup h1 h2 => exact ⟨_, _, rfl, h1, h2⟩
theorem RD.mono (h : RD P W S σ H r Q) (e : Same H H') : RD P W S σ H' r Q := by
  cases r with
  | ok d => exact fun v H2 s y => h v H2 (e.trans s) y
  | exc c p => exact XW.mono h e
  | bad => exact h
theorem RB.mono (h : RB P W S σ H r Q) (e : Same H H') : RB P W S σ H' r Q := by
  cases r with
  | ok d => exact fun v H2 s y => h v H2 (e.trans s) y
  | exc c p => exact XW.mono h e
  | bad => exact h
theorem RN.mono (h : RN P W S σ H r Q) (e : Same H H') (al : ∀ a, S a → H a ≠ none) : RN P W S σ H' r Q := by
  cases r with
  | ok d =>
    cases d with
    | list ds => exact fun a vs H2 s n l k y => h a vs H2 (e.trans s) (e.free n) l ((hid_same e).trans k) y
    | _ => exact h
  | exc c p => exact XW.mono h e
  | bad => exact h
theorem RT.mono {Q : Bool → Hp → Prop} (h : RT P W S σ H r Q) (e : Same H H') : RT P W S σ H' r Q := by
  cases r with
  | ok d =>
    cases d with
    | bool ds => exact fun H2 s => h H2 (e.trans s)
    | _ => exact h
  | exc c p => exact XW.mono h e
  | bad => exact h
theorem RA.mono {r : R (List PyData)} {Q : List V → Hp → Prop} (h : RA P W S σ H r Q) (e : Same H H') : RA P W S σ H' r Q := by
  cases r with
  | ok d => exact fun v H2 s y => h v H2 (e.trans s) y
  | exc c p => exact XW.mono h e
  | bad => exact h
/-- what follows a reading of an ok -/
theorem RD.ok (h : RD P W S σ H (.ok d) Q) {v : V} {H' : Hp} (e : Same H H') (q : Rp P.K (hid S H') v d) : Q v H' := h v H' e q
theorem td_b {e : E} (h : TB P W e σ H Q) : TD P W e σ H Q := by
  obtain ⟨ρ, S, r, q⟩ := h
  refine ⟨ρ, S, r, ?_⟩
  cases z : ev e ρ with
  | ok d =>
    rw [z] at q
    exact fun v H' s y => q v H' s (Bp.of y r.fs)
  | exc c p => rw [z] at q; exact q
  | bad => rw [z] at q; exact q
end
theorem PE.imp {X : Cx} {e : Expr} {t t' : TE} (h : PE X e t) (i : ∀ σ H Q, t' σ H Q → t σ H Q) : PE X e t' := ⟨fun pins s σ H Q I q => h.run pins s σ H Q I (i σ H Q q)⟩
theorem PT.imp {X : Cx} {e : Expr} {t t' : TT} (h : PT X e t) (i : ∀ σ H Q, t' σ H Q → t σ H Q) : PT X e t' := ⟨fun pins s σ H Q I q => h.run pins s σ H Q I (i σ H Q q)⟩
theorem PW.imp {X : Cx} {e : Expr} {t t' : TT} (h : PW X e t) (i : ∀ σ H Q, t' σ H Q → t σ H Q) : PW X e t' := ⟨fun wh pins s σ H Q I q => h.run wh pins s σ H Q I (i σ H Q q)⟩
theorem PA.imp {X : Cx} {e : List Expr} {t t' : TA} (h : PA X e t) (i : ∀ σ H Q, t' σ H Q → t σ H Q) : PA X e t' := ⟨fun pos pins s σ H Q I q => h.run pos pins s σ H Q I (i σ H Q q)⟩
theorem PS.imp {X : Cx} {e : Stmt} {t t' : TS} (h : PS X e t) (i : ∀ D σ H, t' D σ H → t D σ H) : PS X e t' := ⟨fun pins s σ H D I q => h.run pins s σ H D I (i D σ H q)⟩
theorem PSs.imp {X : Cx} {e : List Stmt} {t t' : TS} (h : PSs X e t) (i : ∀ D σ H, t' D σ H → t D σ H) : PSs X e t' := ⟨fun pins s σ H D I q => h.run pins s σ H D I (i D σ H q)⟩
end Dy

namespace Dy
open PySem PySem.Spec PyProof.Rows L2
open Classical
section
variable {X : Cx}
theorem mulOk {i j : Int} (h : i.natAbs.log2 + j.natAbs.log2 < 100000000) : IntMulOk i j := by
  have b : ∀ x : Int, Builtin.Int.intBits x ≤ x.natAbs.log2 + 1 := fun x => by
    unfold Builtin.Int.intBits
    split <;> omega
  have h1 := b i
  have h2 := b j
  have e : bitsLine = 134217728 := by decide
  unfold IntMulOk
  intro z
  rw [Bool.and_eq_true] at z
  have z2 := z.2
  unfold Builtin.Int.intTooBig at z2
  have z3 := of_decide_eq_true z2
  rw [e] at z3
  omega
theorem op_mulX : OpR X (binaryOp .Mult) (rI (fun i j => i.natAbs.log2 + j.natAbs.log2 < 100000000) fun i j => .int (i * j)) := opI fun _ _ _ _ _ _ _ hc q => mul_int q (mulOk hc)
theorem op_fdivX : OpR X (binaryOp .FloorDiv) (rI (fun _ j => j ≠ 0 ∧ j.natAbs.log2 < 9000) fun i j => .int (i.fdiv j)) := opI fun i j _ _ _ _ _ hc q =>
  floordiv_int hc.1 q (.inl (PyProof.noPylong_of_log2 hc.2))
def rCatR (K : PySem.W.Frag) : R2 := fun x y H Q => ∃ l b xs zs, x = .ref l ∧ y = .ref b ∧ SqL K H l xs ∧ SqL K H b zs ∧ xs.length + zs.length ≤ sizeLine ∧ ∀ p, H p = none → Q (.ref p) (upd H p (.lst (xs ++ zs)))
theorem op_catR : OpR X (binaryOp .Add) (rCatR X.K) := by
  intro pins s σ H x y v u Q I rx ry h
  obtain ⟨l, b, xs, zs, rfl, rfl, hH, hB, hz, q⟩ := h
  cases rx
  cases ry
  obtain ⟨its, r, ⟨⟨cls, dd, data, sl⟩, n, ho, hc, hdn, hdt⟩, hl⟩ := I.list hH
  obtain ⟨its2, r2, ⟨⟨cls2, dd2, data2, sl2⟩, n2, ho2, hc2, hdn2, hdt2⟩, hl2⟩ := I.list hB
  simp only at hc hdt hc2 hdt2
  subst hc hdt hc2 hdt2
  have h1 := r.length
  have h2 := r2.length
  have ea : its.toArray ++ its2.toArray = (its ++ its2).toArray := by simp
  refine concat_meets ⟨_, ho, rfl⟩ ⟨_, ho2, rfl⟩ noFill_list_add seq_list_add PySem.F.slot_list_add PySem.F.entry_list_add (PySem.F.args_list_add_2 _ _) (list_addW l b its.toArray its2.toArray n n2 dd dd2 sl sl2 (by rw [List.size_toArray, List.size_toArray]; omega)) ⟨ho, ho2, ?_⟩
  rw [ea]
  exact ⟨.ref _, _, I.lnew (t' := s.toks) (r.append r2) (by rw [List.length_append]; omega), rfl, q _ I.fresh⟩
def rStrCat : R2 := fun x y H Q => ∃ i j, x = .str i ∧ y = .str j ∧ i.length + j.length ≤ sizeLine ∧ Q (.str (i ++ j)) H
def rAddAll (K : PySem.W.Frag) : R2 := fun x y H Q => rI0 (fun i j => .int (i + j)) x y H Q ∨ (rStrCat x y H Q ∨ (rCatR K x y H Q ∨ rCatA K x y H Q))
theorem op_addAll : OpR X (binaryOp .Add) (rAddAll X.K) := op_add.or (OpR.or (r := rStrCat) op_add_str (op_catR.or op_catA))
def rO2 (K : PySem.W.Frag) : O2 → R2
  | .add => rAddAll K
  | .sub => rI0 fun i j => .int (i - j)
  | .mul => rI (fun i j => i.natAbs.log2 + j.natAbs.log2 < 100000000) fun i j => .int (i * j)
  | .fdiv => rI (fun _ j => j ≠ 0 ∧ j.natAbs.log2 < 9000) fun i j => .int (i.fdiv j)
  | .mod => rI (fun _ j => j ≠ 0) fun i j => .int (i.fmod j)
  | .pow => rI CPow fun i j => .int (i ^ j.toNat)
def opOf : O2 → Operator
  | .add => .Add | .sub => .Sub | .mul => .Mult | .fdiv => .FloorDiv | .mod => .Mod | .pow => .Pow
theorem op_o2 : ∀ o : O2, OpR X (binaryOp (opOf o)) (rO2 X.K o)
  | .add => op_addAll
  | .sub => op_sub
  | .mul => op_mulX
  | .fdiv => op_fdivX
  | .mod => op_modN
  | .pow => op_pow
end
structure Po (P : Pm) (W : WX) (S : Addr → Prop) (σ : L2.St) (G : Hp → R PyData → Prop) : Prop where
  mono : ∀ {H H' r}, G H r → Same H H' → G H' r
  exc : ∀ {H c p}, G H (.exc c p) → XW P W S σ H c p
  bad : ∀ {H}, ¬ G H .bad
section
variable {P : Pm} {W : WX} {S : Addr → Prop} {σ : L2.St} {H H' : Hp} {ρ : En} {Q : VK} {v : V} {d : PyData} {G : Hp → R PyData → Prop}
theorem po_d : Po P W S σ fun H r => RD P W S σ H r Q := ⟨fun h e => h.mono e, fun h => h, fun h => h⟩
theorem po_b : Po P W S σ fun H r => RB P W S σ H r Q := ⟨fun h e => h.mono e, fun h => h, fun h => h⟩
theorem po_n (al : ∀ a, S a → True) : Po P W S σ fun H r => RN P W S σ H r Q := ⟨fun {H H' r} h e => by
  cases r with
  | ok d =>
    cases d with
    | list ds => exact fun a vs H2 s n l k y => h a vs H2 (e.trans s) (e.free n) l ((hid_same e).trans k) y
    | _ => exact h
  | exc c p => exact XW.mono h e
  | bad => exact h, fun h => h, fun h => h⟩
theorem po_t {Q : Bool → Hp → Prop} : Po P W S σ fun H r => RT P W S σ H r Q := ⟨fun h e => h.mono e, fun h => h, fun h => h⟩
theorem tb_bind {a : E} {f : PyData → R PyData} (po : Po P W S σ G) (r : Rs P S σ H ρ) (q : G H ((ev a ρ).bind f)) (k : ∀ x H1 d, Same H H1 → Rs P S σ H1 ρ → Bp P S H1 x d → G H1 (f d) → Q x H1) : TB P W a σ H Q := by
  refine ⟨ρ, S, r, ?_⟩
  cases z : ev a ρ with
  | ok d =>
    rw [z] at q
    exact fun x H1 s y => k x H1 d s (r.grow s) y (po.mono q s)
  | exc c p => rw [z] at q; exact po.exc q
  | bad => rw [z] at q; exact po.bad q
theorem td_bind {a : E} {f : PyData → R PyData} (po : Po P W S σ G) (r : Rs P S σ H ρ) (q : G H ((ev a ρ).bind f)) (k : ∀ x H1 d, Same H H1 → Rs P S σ H1 ρ → Rp P.K (hid S H1) x d → G H1 (f d) → Q x H1) : TD P W a σ H Q := by
  refine ⟨ρ, S, r, ?_⟩
  cases z : ev a ρ with
  | ok d =>
    rw [z] at q
    exact fun x H1 s y => k x H1 d s (r.grow s) y (po.mono q s)
  | exc c p => rw [z] at q; exact po.exc q
  | bad => rw [z] at q; exact po.bad q
theorem tt_bind {a : E} {f : PyData → R PyData} {Q : Bool → Hp → Prop} (po : Po P W S σ G) (r : Rs P S σ H ρ) (q : G H ((ev a ρ).bind f)) (hb : ∀ d, (∀ b, d ≠ .bool b) → f d = .bad) (k : ∀ b H1, Same H H1 → Rs P S σ H1 ρ → G H1 (f (.bool b)) → Q b H1) : TTt P W a σ H Q := by
  refine ⟨ρ, S, r, ?_⟩
  cases z : ev a ρ with
  | ok d =>
    rw [z] at q
    cases d with
    | bool b => exact fun H1 s => k b H1 s (r.grow s) (po.mono q s)
    | _ => exact po.bad (by have q2 : G H (f _) := q; rw [hb _ (fun b z => by cases z)] at q2; exact q2)
  | exc c p => rw [z] at q; exact po.exc q
  | bad => rw [z] at q; exact po.bad q
theorem ta_bind {as : Es} {f : List PyData → R PyData} {Q : List V → Hp → Prop} (po : Po P W S σ G) (r : Rs P S σ H ρ) (q : G H ((evs as ρ).bind f)) (k : ∀ xs H1 ds, Same H H1 → Rs P S σ H1 ρ → RpAll P.K (hid S H1) xs ds → G H1 (f ds) → Q xs H1) : TAs P W as σ H Q := by
  refine ⟨ρ, S, r, ?_⟩
  cases z : evs as ρ with
  | ok d =>
    rw [z] at q
    exact fun x H1 s y => k x H1 d s (r.grow s) y (po.mono q s)
  | exc c p => rw [z] at q; exact po.exc q
  | bad => rw [z] at q; exact po.bad q
theorem RpAll.tupNew (r : Rs P S σ H ρ) {p : Addr} {vs : List V} {ds : List PyData} (n : H p = none) (h : RpAll P.K (hid S H) vs ds) : Rp P.K (hid S (upd H p (.tup vs))) (.ref p) (.tuple ds) :=
  .tup (.inl (.inl (by rw [hid_neg (r.notS n)]; exact upd_same))) (h.mono (hid_same (same_new n)))
theorem RpAll.lstNew (r : Rs P S σ H ρ) {p : Addr} {vs : List V} {ds : List PyData} (n : H p = none) (h : RpAll P.K (hid S H) vs ds) : Rp P.K (hid S (upd H p (.lst vs))) (.ref p) (.list ds) :=
  .lst (.inl (.inl (by rw [hid_neg (r.notS n)]; exact upd_same))) (h.mono (hid_same (same_new n)))
theorem Bp.lst {ds : List PyData} (h : Bp P S H v (.list ds)) : ∃ a vs, v = .ref a ∧ SqL P.K H a vs ∧ RpAll P.K (hid S H) vs ds := by
  obtain ⟨a, vs, h1, h2, h3⟩ := h
  exact ⟨a, vs, h1, sql_mono hid_full h2, h3⟩
/-- the value of an operator -/
theorem vo {o : O2} {x y : V} {d e : PyData} (r : Rs P S σ H ρ) (hx : Bp P S H x d) (hy : Bp P S H y e) (q : RD P W S σ H (op2 o d e) Q) : rO2 P.K o x y H Q := by
  have z : Same H H := Same.refl H
  cases o with
  | add =>
    cases d with
    | int i => cases e with
      | int j => exact .inl ⟨i, j, hx.int, hy.int, q _ H z (.int _)⟩
      | _ => exact q.elim
    | str i => cases e with
      | str j =>
        have q : RD P W S σ H (if i.length + j.length ≤ sizeLine then .ok (.str (i ++ j)) else .bad) Q := q
        by_cases c : i.length + j.length ≤ sizeLine
        · rw [if_pos c] at q
          exact .inr (.inl ⟨i, j, hx.str, hy.str, c, q _ H z (.str _)⟩)
        · rw [if_neg c] at q; exact q.elim
      | _ => exact q.elim
    | list ds => cases e with
      | list es =>
        have q : RD P W S σ H (if ds.length + es.length ≤ sizeLine then .ok (.list (ds ++ es)) else .bad) Q := q
        by_cases c : ds.length + es.length ≤ sizeLine
        · rw [if_pos c] at q
          obtain ⟨a, vs, e1, h1, h2⟩ := hx.lst
          obtain ⟨b, us, e2, g1, g2⟩ := hy.lst
          refine .inr (.inr (.inl ⟨a, b, vs, us, e1, e2, h1, g1, by rw [h2.len, g2.len]; exact c, fun p n => q _ _ (same_new n) ?_⟩))
          exact RpAll.lstNew r n (h2.append g2)
        · rw [if_neg c] at q; exact q.elim
      | _ => exact q.elim
    | tuple ds => cases e with
      | tuple es =>
        have q : RD P W S σ H (if ds.length + es.length ≤ sizeLine then .ok (.tuple (ds ++ es)) else .bad) Q := q
        by_cases c : ds.length + es.length ≤ sizeLine
        · rw [if_pos c] at q
          obtain ⟨a, vs, e1, h1, h2⟩ := hx.tup
          obtain ⟨b, us, e2, g1, g2⟩ := hy.tup
          refine .inr (.inr (.inr ⟨a, b, vs, us, e1, e2, sqt_mono hid_full h1, sqt_mono hid_full g1, by rw [h2.len, g2.len]; exact c, fun w => ?_, fun w1 w2 => ?_, fun _ _ p n => q _ _ (same_new n) ?_⟩))
          · rw [h2.nilIff] at w
            subst w
            exact q _ H z (.tup g1 g2)
          · rw [g2.nilIff] at w2
            subst w2
            rw [List.append_nil] at q
            exact q _ H z (.tup h1 h2)
          · exact RpAll.tupNew r n (h2.append g2)
        · rw [if_neg c] at q; exact q.elim
      | _ => exact q.elim
    | _ => cases e <;> exact q.elim
  | sub =>
    cases d with
    | int i => cases e with
      | int j => exact ⟨i, j, hx.int, hy.int, q _ H z (.int _)⟩
      | _ => exact q.elim
    | _ => cases e <;> exact q.elim
  | mul =>
    cases d with
    | int i => cases e with
      | int j =>
        have q : RD P W S σ H (if i.natAbs.log2 + j.natAbs.log2 < 100000000 then .ok (.int (i * j)) else .bad) Q := q
        by_cases c : i.natAbs.log2 + j.natAbs.log2 < 100000000
        · rw [if_pos c] at q
          exact ⟨i, j, hx.int, hy.int, c, q _ H z (.int _)⟩
        · rw [if_neg c] at q; exact q.elim
      | _ => exact q.elim
    | _ => cases e <;> exact q.elim
  | fdiv =>
    cases d with
    | int i => cases e with
      | int j =>
        have q : RD P W S σ H (if j ≠ 0 ∧ j.natAbs.log2 < 9000 then .ok (.int (i.fdiv j)) else .bad) Q := q
        by_cases c : j ≠ 0 ∧ j.natAbs.log2 < 9000
        · rw [if_pos c] at q
          exact ⟨i, j, hx.int, hy.int, c, q _ H z (.int _)⟩
        · rw [if_neg c] at q; exact q.elim
      | _ => exact q.elim
    | _ => cases e <;> exact q.elim
  | mod =>
    cases d with
    | int i => cases e with
      | int j =>
        have q : RD P W S σ H (if j ≠ 0 then .ok (.int (i.fmod j)) else .bad) Q := q
        by_cases c : j ≠ 0
        · rw [if_pos c] at q
          exact ⟨i, j, hx.int, hy.int, c, q _ H z (.int _)⟩
        · rw [if_neg c] at q; exact q.elim
      | _ => exact q.elim
    | _ => cases e <;> exact q.elim
  | pow =>
    cases d with
    | int i => cases e with
      | int j =>
        have q : RD P W S σ H (if 0 ≤ j ∧ j ≤ 1000000 ∧ i.natAbs < 2 ^ 64 then .ok (.int (i ^ j.toNat)) else .bad) Q := q
        by_cases c : 0 ≤ j ∧ j ≤ 1000000 ∧ i.natAbs < 2 ^ 64
        · rw [if_pos c] at q
          exact ⟨i, j, hx.int, hy.int, c, q _ H z (.int _)⟩
        · rw [if_neg c] at q; exact q.elim
      | _ => exact q.elim
    | _ => cases e <;> exact q.elim
end
section
variable {X : Cx} {P : Pm} {W : WX} {a b : Expr} {ia ib : E} {pos : Pos}
theorem re_op (hK : P.K = X.K) (o : O2) (ha : PE X a (TB P W ia)) (hb : PE X b (TB P W ib)) : PE X (.BinOp a (opOf o) b pos) (TD P W (.op o ia ib)) := by
  refine PE.imp (pe_op (op_o2 o) ha hb) fun σ H Q ⟨ρ, S, r, q⟩ => ?_
  rw [← hK]
  exact tb_bind po_d r q fun x H1 d s1 r1 y1 q1 => tb_bind po_d r1 q1 fun y H2 e s2 r2 y2 q2 => vo r2 (y1.mono s2) y2 q2
end
end Dy

namespace Dy
open PySem PySem.Spec PyProof.Rows L2
open Classical
def cmOf : C2 → CmpOp
  | .lt => .Lt | .le => .LtE | .gt => .Gt | .ge => .GtE | .eq => .Eq | .ne => .NotEq | .is_ => .Is | .isn => .IsNot | .in_ => .In | .nin => .NotIn
def rInS1 (neg : Bool) : R2 := fun x y H Q => ∃ (c : Nat) (z : Str), x = .str ⟨#[c]⟩ ∧ y = .str z ∧ Q (.bl (if neg then !decide (c ∈ z.cps.toList) else decide (c ∈ z.cps.toList))) H
def rC2 (K : PySem.W.Frag) : C2 → R2
  | .lt => rI0 fun i j => .bl (decide (i < j))
  | .le => rI0 fun i j => .bl (decide (i ≤ j))
  | .gt => rI0 fun i j => .bl (decide (j < i))
  | .ge => rI0 fun i j => .bl (decide (j ≤ i))
  | .eq => rEqD K
  | .ne => rNeD K
  | .is_ => fun x y H Q => y = .non ∧ Q (.bl (decide (x = .non))) H
  | .isn => fun x y H Q => y = .non ∧ Q (.bl (!decide (x = .non))) H
  | .in_ => fun x y H Q => rInD K x y H Q ∨ (rInS1 false x y H Q ∨ rIn K false x y H Q)
  | .nin => fun x y H Q => rNotInD K x y H Q ∨ (rInS1 true x y H Q ∨ rIn K true x y H Q)
section
variable {X : Cx}
theorem op_inS1 : OpR X (compareOp .In) (rInS1 false) := op_in_sign
theorem op_ninS1 : OpR X (compareOp .NotIn) (rInS1 true) := op_notIn_sign
theorem op_c2 (hu : X.A.units + 65 < cLine) : ∀ c : C2, OpR X (compareOp (cmOf c)) (rC2 X.K c)
  | .lt => op_lt
  | .le => op_le
  | .gt => op_gt
  | .ge => op_ge
  | .eq => op_eqD (by omega)
  | .ne => op_neD (by omega)
  | .is_ => op_isN
  | .isn => op_notN
  | .in_ => (op_inD hu).or (op_inS1.or op_in_seq)
  | .nin => (op_notInD hu).or (op_ninS1.or op_notIn_seq)
end
theorem flat_rp {K : PySem.W.Frag} {G : Hp} {v : V} {d : PyData} (h : Rp K G v d) (f : flatD d = true) : flatV v = true := by
  cases h <;> first | rfl | exact absurd f Bool.false_ne_true
theorem eqV_rp {K : PySem.W.Frag} {G : Hp} {v w : V} {d e : PyData} (h : Rp K G v d) (g : Rp K G w e) (f : flatD d = true) (f2 : flatD e = true) : eqV v w = PyData.eqv d e := by
  cases h <;> first
    | exact absurd f Bool.false_ne_true
    | (cases g <;> first | exact absurd f2 Bool.false_ne_true | rfl | simp [eqV, PyData.eqv])
theorem flats_rp {K : PySem.W.Frag} {G : Hp} : ∀ {ds : List PyData} {vs : List V}, RpAll K G vs ds → ds.all flatD = true → vs.all flatV = true
  | [], _, h, _ => by cases h; rfl
  | d :: ds, _, h, f => by
    cases h with
    | cons h1 h2 =>
      rw [List.all_cons, Bool.and_eq_true] at f ⊢
      exact ⟨flat_rp h1 f.1, flats_rp h2 f.2⟩
theorem inV_rp {K : PySem.W.Frag} {G : Hp} {w : V} {e : PyData} (g : Rp K G w e) (f2 : flatD e = true) : ∀ {ds : List PyData} {vs : List V}, RpAll K G vs ds → ds.all flatD = true → inV w vs = ds.any fun z => PyData.eqv z e
  | [], _, h, _ => by cases h; rfl
  | d :: ds, _, h, f => by
    cases h with
    | cons h1 h2 =>
      rw [List.all_cons, Bool.and_eq_true] at f
      have ih := inV_rp g f2 h2 f.2
      unfold inV at ih ⊢
      rw [List.any_cons, List.any_cons, ih, eqV_rp h1 g f.1 f2]
theorem oneSign_eq {x : Str} {c : Nat} (h : oneSign x = some c) : x = ⟨#[c]⟩ := by
  obtain ⟨⟨l⟩⟩ := x
  unfold oneSign at h
  cases l with
  | nil => cases h
  | cons a r =>
    cases r with
    | nil =>
      have e : a = c := Option.some.inj h
      rw [e]
    | cons b r => cases h
section
variable {P : Pm} {W : WX} {S : Addr → Prop} {σ : L2.St} {H H' : Hp} {ρ : En} {Q : VK} {v : V} {d : PyData}
theorem rp_flat_b (h : Bp P S H v d) (f : flatD d = true) : Rp P.K (hid S H) v d := by
  cases d <;> first | exact absurd f Bool.false_ne_true | exact h
theorem none_dec {v : V} {d : PyData} (h : Bp P S H v d) : decide (v = .non) = isNon d := by
  cases d with
  | none => rw [h.non]; rfl
  | bool b => rw [h.bool]; simp [isNon]
  | int b => rw [h.int]; simp [isNon]
  | str b => rw [h.str]; simp [isNon]
  | list ds => obtain ⟨a, vs, e, _⟩ := h.lst; rw [e]; simp [isNon]
  | tuple ds => obtain ⟨a, vs, e, _⟩ := h.tup; rw [e]; simp [isNon]
  | dict _ =>
    have h : Rp P.K (hid S H) v (.dict _) := h
    cases h
/-- the value of a comparison -/
theorem vin (r : Rs P S σ H ρ) {x y : V} {d e : PyData} (hx : Bp P S H x d) (hy : Bp P S H y e) {b : Bool} (q : inD d e = some b) :
    (∀ Q : VK, Q (.bl b) H → rInD P.K x y H Q ∨ (rInS1 false x y H Q ∨ rIn P.K false x y H Q)) ∧ (∀ Q : VK, Q (.bl (!b)) H → rNotInD P.K x y H Q ∨ (rInS1 true x y H Q ∨ rIn P.K true x y H Q)) := by
  cases e with
  | list ds =>
    have q : (if SeqAt.shaped d = true ∧ SeqAt.shaped (.list ds) = true then some (ds.any fun z => PyData.eqv z d) else none) = some b := q
    by_cases c : SeqAt.shaped d = true ∧ SeqAt.shaped (.list ds) = true
    · rw [if_pos c] at q
      have e := Option.some.inj q
      subst e
      exact ⟨fun Q k => .inl ⟨d, ds, (hx.rp r.fs).dp, (hy.rp r.fs).dp, c.1, c.2, k⟩, fun Q k => .inl ⟨d, ds, (hx.rp r.fs).dp, (hy.rp r.fs).dp, c.1, c.2, k⟩⟩
    · rw [if_neg c] at q; cases q
  | tuple ds =>
    have q : (if flatD d = true ∧ ds.all flatD = true then some (ds.any fun z => PyData.eqv z d) else none) = some b := q
    by_cases c : flatD d = true ∧ ds.all flatD = true
    · rw [if_pos c] at q
      have e := Option.some.inj q
      subst e
      obtain ⟨a, vs, e1, h1, h2⟩ := hy.tup
      have hx' := rp_flat_b hx c.1
      have e2 := inV_rp hx' c.1 h2 c.2
      rw [← e2]
      exact ⟨fun Q k => .inr (.inr ⟨a, vs, e1, .inr (sqt_mono hid_full h1), flat_rp hx' c.1, flats_rp h2 c.2, k⟩), fun Q k => .inr (.inr ⟨a, vs, e1, .inr (sqt_mono hid_full h1), flat_rp hx' c.1, flats_rp h2 c.2, k⟩)⟩
    · rw [if_neg c] at q; cases q
  | str z =>
    cases d with
    | str x' =>
      have q : (oneSign x').map (fun c => decide (c ∈ z.cps.toList)) = some b := q
      cases hc : oneSign x' with
      | none => rw [hc] at q; cases q
      | some c =>
        rw [hc] at q
        have e := Option.some.inj q
        subst e
        have e1 := oneSign_eq hc
        subst e1
        exact ⟨fun Q k => .inr (.inl ⟨c, z, hx.str, hy.str, k⟩), fun Q k => .inr (.inl ⟨c, z, hx.str, hy.str, k⟩)⟩
    | _ => cases q
  | _ => cases q
theorem vc {c : C2} {x y : V} {d e : PyData} (r : Rs P S σ H ρ) (hx : Bp P S H x d) (hy : Bp P S H y e) (q : RD P W S σ H (cmp2 c d e) Q) : rC2 P.K c x y H Q := by
  have z : Same H H := Same.refl H
  have hint : ∀ (g : Int → Int → Bool), (match d, e with | .int i, .int j => RD P W S σ H (.ok (.bool (g i j))) Q | _, _ => False) → rI0 (fun i j => .bl (g i j)) x y H Q := fun g q => by
    cases d with
    | int i => cases e with
      | int j => exact ⟨i, j, hx.int, hy.int, q _ H z (.bl _)⟩
      | _ => exact q.elim
    | _ => cases e <;> exact q.elim
  cases c with
  | lt => exact hint _ (by cases d <;> cases e <;> exact q)
  | le => exact hint _ (by cases d <;> cases e <;> exact q)
  | gt => exact hint _ (by cases d <;> cases e <;> exact q)
  | ge => exact hint _ (by cases d <;> cases e <;> exact q)
  | eq =>
    have q : RD P W S σ H (if SeqAt.shaped d = true ∧ SeqAt.shaped e = true then .ok (.bool (PyData.eqv d e)) else .bad) Q := q
    by_cases c : SeqAt.shaped d = true ∧ SeqAt.shaped e = true
    · rw [if_pos c] at q
      exact ⟨d, e, (hx.rp r.fs).dp, (hy.rp r.fs).dp, c.1, c.2, q _ H z (.bl _)⟩
    · rw [if_neg c] at q; exact q.elim
  | ne =>
    have q : RD P W S σ H (if SeqAt.shaped d = true ∧ SeqAt.shaped e = true then .ok (.bool (!PyData.eqv d e)) else .bad) Q := q
    by_cases c : SeqAt.shaped d = true ∧ SeqAt.shaped e = true
    · rw [if_pos c] at q
      exact ⟨d, e, (hx.rp r.fs).dp, (hy.rp r.fs).dp, c.1, c.2, q _ H z (.bl _)⟩
    · rw [if_neg c] at q; exact q.elim
  | is_ =>
    cases e with
    | none =>
      refine ⟨hy.non, ?_⟩
      rw [none_dec hx]
      exact q _ H z (.bl _)
    | _ => exact q.elim
  | isn =>
    cases e with
    | none =>
      refine ⟨hy.non, ?_⟩
      rw [none_dec hx]
      exact q _ H z (.bl _)
    | _ => exact q.elim
  | in_ =>
    have q : RD P W S σ H (match inD d e with | some b => .ok (.bool b) | none => .bad) Q := q
    cases h : inD d e with
    | none => rw [h] at q; exact q.elim
    | some b =>
      rw [h] at q
      exact (vin r hx hy h).1 Q (q _ H z (.bl _))
  | nin =>
    have q : RD P W S σ H (match inD d e with | some b => .ok (.bool (!b)) | none => .bad) Q := q
    cases h : inD d e with
    | none => rw [h] at q; exact q.elim
    | some b =>
      rw [h] at q
      exact (vin r hx hy h).2 Q (q _ H z (.bl _))
theorem rt_rd {r : R PyData} {Q : Bool → Hp → Prop} (h : RT P W S σ H r Q) : RD P W S σ H r (fun z H' => ∃ k, z = .bl k ∧ Q k H') := by
  cases r with
  | ok d =>
    cases d with
    | bool b => exact fun v H' s y => ⟨b, by cases y; rfl, h H' s⟩
    | _ => exact h.elim
  | exc c p => exact h
  | bad => exact h
end
section
variable {X : Cx} {P : Pm} {W : WX} {a b e : Expr} {ia ib ie : E} {pos : Pos}
theorem re_cmp (hK : P.K = X.K) (hu : X.A.units + 65 < cLine) (c : C2) (ha : PE X a (TB P W ia)) (hb : PE X b (TB P W ib)) (hm : behindInMarks (cmOf c) b = false) : PE X (.Compare a [cmOf c] [b] pos) (TD P W (.cmp c ia ib)) := by
  refine PE.imp (pe_cmpR (op_c2 hu c) ha hb hm) fun σ H Q ⟨ρ, S, r, q⟩ => ?_
  rw [← hK]
  exact tb_bind po_d r q fun x H1 d s1 r1 y1 q1 => tb_bind po_d r1 q1 fun y H2 e s2 r2 y2 q2 => vc r2 (y1.mono s2) y2 q2
theorem rt_cmp (hK : P.K = X.K) (hu : X.A.units + 65 < cLine) (c : C2) (ha : PE X a (TB P W ia)) (hb : PE X b (TB P W ib)) (hm : behindInMarks (cmOf c) b = false) : PT X (.Compare a [cmOf c] [b] pos) (TTt P W (.cmp c ia ib)) := by
  refine PT.imp (pt_cmpR (op_c2 hu c) ha hb hm) fun σ H Q ⟨ρ, S, r, q⟩ => ?_
  rw [← hK]
  exact tb_bind po_t r q fun x H1 d s1 r1 y1 q1 => tb_bind po_t r1 q1 fun y H2 e s2 r2 y2 q2 => vc r2 (y1.mono s2) y2 (rt_rd q2)
/-- a chain's middle -/
theorem chn_mid {G : Hp → R PyData → Prop} {S : Addr → Prop} {σ : L2.St} {H : Hp} {ρ : En} (po : Po P W S σ G) {c1 : C2} {x y : V} {d1 d2 : PyData} {f : Bool → R PyData} (r : Rs P S σ H ρ) (hx : Bp P S H x d1) (hy : Bp P S H y d2) (q : G H ((cmp2 c1 d1 d2).bind fun z => bl1 z f)) {Q : VK}
    (k : ∀ b H3, Same H H3 → Rs P S σ H3 ρ → G H3 (f b) → Q (.bl b) H3) : rC2 P.K c1 x y H Q := by
  refine vc (W := W) r hx hy ?_
  cases z : cmp2 c1 d1 d2 with
  | ok w =>
    rw [z] at q
    cases w with
    | bool b => exact fun v H3 s yv => by cases yv; exact k b H3 s (r.grow s) (po.mono q s)
    | _ => exact (po.bad q).elim
  | exc c p => rw [z] at q; exact po.exc q
  | bad => rw [z] at q; exact po.bad q
theorem re_chn (hK : P.K = X.K) (hu : X.A.units + 65 < cLine) (c1 c2 : C2) (ha : PE X a (TB P W ia)) (hb : PE X b (TB P W ib)) (he : PE X e (TB P W ie)) (hm : lastMarks [cmOf c1, cmOf c2] [b, e] = false) : PE X (.Compare a [cmOf c1, cmOf c2] [b, e] pos) (TD P W (.chn c1 c2 ia ib ie)) := by
  refine PE.imp (pe_chain (op_c2 hu c1) (op_c2 hu c2) ha hb he hm) fun σ H Q ⟨ρ, S, r, q⟩ => ?_
  rw [← hK]
  refine tb_bind po_d r q fun x H1 d s1 r1 y1 q1 => tb_bind po_d r1 q1 fun y H2 e s2 r2 y2 q2 => chn_mid po_d r2 (y1.mono s2) y2 q2 fun k H3 s3 r3 q3 => ⟨k, rfl, ?_⟩
  cases k with
  | true =>
    rw [if_pos rfl]
    exact tb_bind po_d r3 q3 fun w H4 e4 s4 r4 y4 q4 => vc r4 ((y2.mono s3).mono s4) y4 q4
  | false =>
    rw [if_neg Bool.false_ne_true]
    exact q3 _ _ (Same.refl _) (.bl _)
theorem rt_chn (hK : P.K = X.K) (hu : X.A.units + 65 < cLine) (c1 c2 : C2) (ha : PE X a (TB P W ia)) (hb : PE X b (TB P W ib)) (he : PE X e (TB P W ie)) (hm : lastMarks [cmOf c1, cmOf c2] [b, e] = false) : PT X (.Compare a [cmOf c1, cmOf c2] [b, e] pos) (TTt P W (.chn c1 c2 ia ib ie)) := by
  refine PT.imp (pt_chain (op_c2 hu c1) (op_c2 hu c2) ha hb he hm) fun σ H Q ⟨ρ, S, r, q⟩ => ?_
  rw [← hK]
  refine tb_bind po_t r q fun x H1 d s1 r1 y1 q1 => tb_bind po_t r1 q1 fun y H2 e s2 r2 y2 q2 => chn_mid po_t r2 (y1.mono s2) y2 q2 fun k H3 s3 r3 q3 => ⟨k, rfl, ?_⟩
  cases k with
  | true =>
    rw [if_pos rfl]
    exact tb_bind po_t r3 q3 fun w H4 e4 s4 r4 y4 q4 => vc r4 ((y2.mono s3).mono s4) y4 (rt_rd q4)
  | false =>
    rw [if_neg Bool.false_ne_true]
    exact ⟨false, rfl, q3 _ (Same.refl _)⟩
theorem bl1_bad {d : PyData} {f : Bool → R PyData} (h : ∀ b, d ≠ .bool b) : bl1 d f = .bad := by
  cases d <;> first | rfl | exact absurd rfl (h _)
theorem Rp.bool {K : PySem.W.Frag} {G : Hp} {v : V} {b : Bool} (h : Rp K G v (.bool b)) : v = .bl b := by cases h; rfl
theorem Rp.int' {K : PySem.W.Frag} {G : Hp} {v : V} {b : Int} (h : Rp K G v (.int b)) : v = .int b := by cases h; rfl
/-- a value that must be a truth -/
theorem bl_of {G : Hp → R PyData → Prop} {S : Addr → Prop} {σ : L2.St} {H : Hp} (po : Po P W S σ G) {x : V} {d : PyData} {f : Bool → R PyData} (hx : Rp P.K (hid S H) x d) (q : G H (bl1 d f)) : ∃ c, x = .bl c ∧ G H (f c) := by
  cases d with
  | bool b => exact ⟨b, hx.bool, q⟩
  | _ => exact (po.bad q).elim
theorem re_not (ha : PE X a (TD P W ia)) : PE X (.UnaryOp .Not a pos) (TD P W (.not ia)) :=
  PE.imp (pe_not ha) fun σ H Q ⟨ρ, S, r, q⟩ => td_bind po_d r q fun x H1 d s1 r1 y1 q1 => by
    obtain ⟨c, e, q2⟩ := bl_of po_d y1 q1
    exact ⟨c, e, q2 _ _ (Same.refl _) (.bl _)⟩
theorem rt_not (ha : PT X a (TTt P W ia)) : PT X (.UnaryOp .Not a pos) (TTt P W (.not ia)) :=
  PT.imp (pt_not ha) fun σ H Q ⟨ρ, S, r, q⟩ => tt_bind po_t r q (fun d h => bl1_bad h) fun b H1 s1 r1 q1 => q1 _ (Same.refl _)
theorem re_and {rest : List Expr} (ha : PE X a (TD P W ia)) (hb : PE X (.BoolOp .And (b :: rest) pos) (TD P W ib)) : PE X (.BoolOp .And (a :: b :: rest) pos) (TD P W (.and ia ib)) :=
  PE.imp (pe_and ha hb) fun σ H Q ⟨ρ, S, r, q⟩ => td_bind po_d r q fun x H1 d s1 r1 y1 q1 => by
    obtain ⟨c, e, q2⟩ := bl_of po_d y1 q1
    refine ⟨c, e, ?_⟩
    cases c with
    | true => rw [if_pos rfl]; exact ⟨ρ, S, r1, q2⟩
    | false => rw [if_neg Bool.false_ne_true]; exact q2 _ _ (Same.refl _) (.bl _)
theorem re_or {rest : List Expr} (ha : PE X a (TD P W ia)) (hb : PE X (.BoolOp .Or (b :: rest) pos) (TD P W ib)) : PE X (.BoolOp .Or (a :: b :: rest) pos) (TD P W (.or ia ib)) :=
  PE.imp (pe_or ha hb) fun σ H Q ⟨ρ, S, r, q⟩ => td_bind po_d r q fun x H1 d s1 r1 y1 q1 => by
    obtain ⟨c, e, q2⟩ := bl_of po_d y1 q1
    refine ⟨c, e, ?_⟩
    cases c with
    | true => rw [if_pos rfl]; exact q2 _ _ (Same.refl _) (.bl _)
    | false => rw [if_neg Bool.false_ne_true]; exact ⟨ρ, S, r1, q2⟩
theorem rw_and {rest : List Expr} (ha : PT X a (TTt P W ia)) (hb : PW X (.BoolOp .And (b :: rest) pos) (TTt P W ib)) : PW X (.BoolOp .And (a :: b :: rest) pos) (TTt P W (.and ia ib)) :=
  PW.imp (pw_and ha hb) fun σ H Q ⟨ρ, S, r, q⟩ => tt_bind po_t r q (fun d h => bl1_bad h) fun c H1 s1 r1 q1 => by
    cases c with
    | true => rw [if_pos rfl]; exact ⟨ρ, S, r1, q1⟩
    | false => rw [if_neg Bool.false_ne_true]; exact q1 _ (Same.refl _)
theorem rw_or {rest : List Expr} (ha : PT X a (TTt P W ia)) (hb : PW X (.BoolOp .Or (b :: rest) pos) (TTt P W ib)) : PW X (.BoolOp .Or (a :: b :: rest) pos) (TTt P W (.or ia ib)) :=
  PW.imp (pw_or ha hb) fun σ H Q ⟨ρ, S, r, q⟩ => tt_bind po_t r q (fun d h => bl1_bad h) fun c H1 s1 r1 q1 => by
    cases c with
    | true => rw [if_pos rfl]; exact q1 _ (Same.refl _)
    | false => rw [if_neg Bool.false_ne_true]; exact ⟨ρ, S, r1, q1⟩
theorem RpAll.isEmpty {K : PySem.W.Frag} {G : Hp} {vs : List V} {ds : List PyData} (h : RpAll K G vs ds) : vs.isEmpty = ds.isEmpty := by
  cases h <;> rfl
theorem truD_ok {S : Addr → Prop} {σ : L2.St} {H : Hp} {x : V} {d : PyData} {Q : Bool → Hp → Prop} (hx : Bp P S H x d) (q : RT P W S σ H (truD d) Q) : ∃ k, TruV P.K x H k ∧ Q k H := by
  have z : Same H H := Same.refl H
  cases d with
  | none => exact ⟨false, by rw [hx.non]; rfl, q _ z⟩
  | bool b => exact ⟨b, by rw [hx.bool]; rfl, q _ z⟩
  | int i => exact ⟨i != 0, by rw [hx.int]; rfl, q _ z⟩
  | str y =>
    have q : RT P W S σ H (if y.length ≤ sizeLine then .ok (.bool ((y.length : Int) != 0)) else .bad) Q := q
    by_cases c : y.length ≤ sizeLine
    · rw [if_pos c] at q
      exact ⟨_, by rw [hx.str]; exact ⟨c, rfl⟩, q _ z⟩
    · rw [if_neg c] at q; exact q.elim
  | list ds =>
    obtain ⟨a, vs, e, h1, h2⟩ := hx.lst
    exact ⟨!ds.isEmpty, by rw [e]; exact .inl ⟨vs, h1, by rw [h2.isEmpty]⟩, q _ z⟩
  | tuple ds =>
    obtain ⟨a, vs, e, h1, h2⟩ := hx.tup
    exact ⟨!ds.isEmpty, by rw [e]; exact .inr (.inl ⟨vs, sqt_mono hid_full h1, by rw [h2.isEmpty]⟩), q _ z⟩
  | dict _ => exact q.elim
theorem rt_tru (hK : P.K = X.K) (ha : PE X a (TB P W ia)) (he : ∀ whole, isTrue a X.env whole = (do let v ← whole; standAt a.pos; holding [v] (truthy v))) : PT X a (TTt P W (.tru ia)) := by
  refine PT.imp (pt_truth ha he) fun σ H Q ⟨ρ, S, r, q⟩ => ?_
  rw [← hK]
  exact tb_bind po_t r q fun x H1 d s1 r1 y1 q1 => truD_ok y1 q1
theorem re_ite (hc : PT X e (TTt P W ie)) (ha : PE X a (TD P W ia)) (hb : PE X b (TD P W ib)) : PE X (.IfExp e a b pos) (TD P W (.ite ie ia ib)) :=
  PE.imp (pe_ifExp hc ha hb) fun σ H Q ⟨ρ, S, r, q⟩ => tt_bind po_d r q (fun d h => bl1_bad h) fun c H1 s1 r1 q1 => by
    cases c with
    | true => rw [if_pos rfl]; exact ⟨ρ, S, r1, q1⟩
    | false => rw [if_neg Bool.false_ne_true]; exact ⟨ρ, S, r1, q1⟩
theorem re_neg (ha : PE X a (TB P W ia)) : PE X (.UnaryOp .USub a pos) (TD P W (.neg ia)) :=
  PE.imp (pe_un un_neg ha) fun σ H Q ⟨ρ, S, r, q⟩ => tb_bind po_d r q fun x H1 d s1 r1 y1 q1 => by
    cases d with
    | int i => exact ⟨i, y1.int, q1 _ _ (Same.refl _) (.int _)⟩
    | _ => exact q1.elim
theorem re_tc {e : Expr} {ie : E} (h : PE X e (TB P W ie)) : PE X e (TC P W ie) := PE.imp h fun σ H Q ⟨ρ, S, r, q⟩ => by
  refine ⟨ρ, S, r, ?_⟩
  cases z : ev ie ρ with
  | ok d => rw [z] at q; exact fun v H' s y => q v H' s (y.rpF r.fs)
  | exc c p => rw [z] at q; exact q
  | bad => rw [z] at q; exact q
theorem tc_bind {S : Addr → Prop} {σ : L2.St} {H : Hp} {ρ : En} {Q : VK} {G : Hp → R PyData → Prop} {a : E} {f : PyData → R PyData} (po : Po P W S σ G) (r : Rs P S σ H ρ) (q : G H ((ev a ρ).bind f)) (k : ∀ x H1 d, Same H H1 → Rs P S σ H1 ρ → Rp P.K (hid P.F H1) x d → G H1 (f d) → Q x H1) : TC P W a σ H Q := by
  refine ⟨ρ, S, r, ?_⟩
  cases z : ev a ρ with
  | ok d =>
    rw [z] at q
    exact fun x H1 s y => k x H1 d s (r.grow s) y (po.mono q s)
  | exc c p => rw [z] at q; exact po.exc q
  | bad => rw [z] at q; exact po.bad q
theorem veqc {n : Bool} {S : Addr → Prop} {σ : L2.St} {H : Hp} {Q : VK} {x y : V} {d e : PyData} (hx : Rp P.K (hid P.F H) x d) (hy : Rp P.K (hid P.F H) y e) (q : RD P W S σ H (eqcD n d e) Q) : rC2 P.K (if n then .ne else .eq) x y H Q := by
  have z : Same H H := Same.refl H
  cases n with
  | false =>
    have q : RD P W S σ H (if SeqAt.shaped d = true ∧ SeqAt.shaped e = true then .ok (.bool (PyData.eqv d e)) else .bad) Q := q
    by_cases c : SeqAt.shaped d = true ∧ SeqAt.shaped e = true
    · rw [if_pos c] at q
      exact ⟨d, e, (hx.mono hid_full).dp, (hy.mono hid_full).dp, c.1, c.2, q _ H z (.bl _)⟩
    · rw [if_neg c] at q; exact q.elim
  | true =>
    have q : RD P W S σ H (if SeqAt.shaped d = true ∧ SeqAt.shaped e = true then .ok (.bool (!PyData.eqv d e)) else .bad) Q := q
    by_cases c : SeqAt.shaped d = true ∧ SeqAt.shaped e = true
    · rw [if_pos c] at q
      exact ⟨d, e, (hx.mono hid_full).dp, (hy.mono hid_full).dp, c.1, c.2, q _ H z (.bl _)⟩
    · rw [if_neg c] at q; exact q.elim
theorem re_eqc (hK : P.K = X.K) (hu : X.A.units + 65 < cLine) (n : Bool) (ha : PE X a (TC P W ia)) (hb : PE X b (TC P W ib)) (hm : behindInMarks (cmOf (if n then .ne else .eq)) b = false) : PE X (.Compare a [cmOf (if n then .ne else .eq)] [b] pos) (TD P W (.eqc n ia ib)) := by
  refine PE.imp (pe_cmpR (op_c2 hu (if n then .ne else .eq)) ha hb hm) fun σ H Q ⟨ρ, S, r, q⟩ => ?_
  rw [← hK]
  exact tc_bind po_d r q fun x H1 d s1 r1 y1 q1 => tc_bind po_d r1 q1 fun y H2 e s2 r2 y2 q2 => veqc (y1.mono (hid_same s2)) y2 q2
theorem rt_eqc (hK : P.K = X.K) (hu : X.A.units + 65 < cLine) (n : Bool) (ha : PE X a (TC P W ia)) (hb : PE X b (TC P W ib)) (hm : behindInMarks (cmOf (if n then .ne else .eq)) b = false) : PT X (.Compare a [cmOf (if n then .ne else .eq)] [b] pos) (TTt P W (.eqc n ia ib)) := by
  refine PT.imp (pt_cmpR (op_c2 hu (if n then .ne else .eq)) ha hb hm) fun σ H Q ⟨ρ, S, r, q⟩ => ?_
  rw [← hK]
  exact tc_bind po_t r q fun x H1 d s1 r1 y1 q1 => tc_bind po_t r1 q1 fun y H2 e s2 r2 y2 q2 => veqc (y1.mono (hid_same s2)) y2 (rt_rd q2)
end
end Dy

namespace Dy
open PySem PySem.Spec PyProof.Rows L2
open Classical
section
variable {X : Cx} {P : Pm} {W : WX} {a b e : Expr} {ia ib ie : E} {pos : Pos} {es : List Expr} {is : Es}
theorem ra_nil : PA X [] (TAs P W .nil) := PA.imp pa_nil fun σ H Q ⟨ρ, S, r, q⟩ => q [] H (Same.refl H) .nil
theorem ra_cons (ha : PE X a (TD P W ia)) (hr : PA X es (TAs P W is)) (hs : starEach (a :: es) X.env = (false, eval a X.env) :: starEach es X.env) : PA X (a :: es) (TAs P W (.cons ia is)) := by
  refine PA.imp (pa_cons ha hr hs) fun σ H Q ⟨ρ, S, r, q⟩ => ?_
  have q : RA P W S σ H ((ev ia ρ).bind fun x => (evs is ρ).bind fun xs => .ok (x :: xs)) Q := q
  refine ⟨ρ, S, r, ?_⟩
  cases z : ev ia ρ with
  | ok d =>
    rw [z] at q
    intro x H1 s1 y1
    refine ⟨ρ, S, r.grow s1, ?_⟩
    have q : RA P W S σ H ((evs is ρ).bind fun xs => .ok (d :: xs)) Q := q
    cases z2 : evs is ρ with
    | ok ds =>
      rw [z2] at q
      exact fun vs H2 s2 y2 => q (x :: vs) H2 (s1.trans s2) (.cons (y1.mono (hid_same s2)) y2)
    | exc c p => rw [z2] at q; exact XW.mono q s1
    | bad => rw [z2] at q; exact q
  | exc c p => rw [z] at q; exact q
  | bad => rw [z] at q; exact q
theorem re_tup {k : Nat} (h : PA X es (TAs P W is)) : PE X (.Tuple es k pos) (TD P W (.tup is)) :=
  PE.imp (pe_tup h) fun σ H Q ⟨ρ, S, r, q⟩ => ta_bind po_d r q fun xs H1 ds s1 r1 y1 q1 => by
    by_cases c : ds.length ≤ sizeLine
    · have q1 : RD P W S σ H1 (if ds.length ≤ sizeLine then .ok (.tuple ds) else .bad) Q := q1
      rw [if_pos c] at q1
      exact ⟨by rw [y1.len]; exact c, fun p n => q1 _ _ (same_new n) (RpAll.tupNew r1 n y1)⟩
    · have q1 : RD P W S σ H1 (if ds.length ≤ sizeLine then .ok (.tuple ds) else .bad) Q := q1
      rw [if_neg c] at q1; exact q1.elim
theorem re_lst (h : PA X es (TAs P W is)) : PE X (.List es pos) (TD P W (.lst is)) :=
  PE.imp (pe_lst h) fun σ H Q ⟨ρ, S, r, q⟩ => ta_bind po_d r q fun xs H1 ds s1 r1 y1 q1 => by
    by_cases c : ds.length ≤ sizeLine
    · have q1 : RD P W S σ H1 (if ds.length ≤ sizeLine then .ok (.list ds) else .bad) Q := q1
      rw [if_pos c] at q1
      exact ⟨by rw [y1.len]; exact c, fun p n => q1 _ _ (same_new n) (RpAll.lstNew r1 n y1)⟩
    · have q1 : RD P W S σ H1 (if ds.length ≤ sizeLine then .ok (.list ds) else .bad) Q := q1
      rw [if_neg c] at q1; exact q1.elim
/-- what a new list leaves hidden -/
theorem new_hid {S : Addr → Prop} {σ : L2.St} {H H1 : Hp} {ρ : En} {p : Addr} {o : HO} (s : Same H H1) (n : H1 p = none) : Same (hid S H) (hid (addS S p) (upd H1 p o)) := by
  rw [hid_new n]
  exact hid_same s
theorem rn_of {S : Addr → Prop} {σ : L2.St} {H H1 : Hp} {ρ : En} {p : Addr} {ds : List PyData} {vs : List V} {Q : VK} (q : RN P W S σ H (.ok (.list ds)) Q) (s : Same H H1) (n : H1 p = none) (y : RpAll P.K (hid S H1) vs ds) : Q (.ref p) (upd H1 p (.lst vs)) :=
  q p vs _ (s.trans (same_new n)) (s.free n) upd_same (new_hid (σ := σ) (ρ := ρ) s n) (by rw [hid_new n]; exact y)
theorem rn_lst (h : PA X es (TAs P W is)) : PE X (.List es pos) (TN P W (.lst is)) :=
  PE.imp (pe_lst h) fun σ H Q ⟨ρ, S, r, q⟩ => ta_bind (G := fun H r => RN P W S σ H r Q) (po_n fun _ _ => trivial) r q fun xs H1 ds s1 r1 y1 q1 => by
    by_cases c : ds.length ≤ sizeLine
    · have q1 : RN P W S σ H1 (if ds.length ≤ sizeLine then .ok (.list ds) else .bad) Q := q1
      rw [if_pos c] at q1
      exact ⟨by rw [y1.len]; exact c, fun p n => rn_of (ρ := ρ) q1 (Same.refl _) n y1⟩
    · have q1 : RN P W S σ H1 (if ds.length ≤ sizeLine then .ok (.list ds) else .bad) Q := q1
      rw [if_neg c] at q1; exact q1.elim
theorem atI_len {α β : Type} {xs : List α} {ys : List β} (h : xs.length = ys.length) {i : Int} {x : α} (e : atI xs i = some x) : ∃ j : Nat, xs[j]? = some x ∧ ∀ y, ys[j]? = some y → atI ys i = some y := by
  unfold atI at e
  cases z : ixN xs.length i with
  | none => rw [z] at e; cases e
  | some j =>
    rw [z] at e
    refine ⟨j, e, fun y q => ?_⟩
    unfold atI
    rw [← h, z]
    exact q
theorem RpAll.atI {K : PySem.W.Frag} {G : Hp} {vs : List V} {ds : List PyData} (h : RpAll K G vs ds) {i : Int} {d : PyData} (e : L2.atI ds i = some d) : ∃ v, L2.atI vs i = some v ∧ Rp K G v d := by
  obtain ⟨j, h1, h2⟩ := atI_len (ys := vs) h.len.symm e
  obtain ⟨v, g1, g2⟩ := h.get h1
  exact ⟨v, h2 v g1, g2⟩
theorem vidx {S : Addr → Prop} {σ : L2.St} {H : Hp} {ρ : En} {x y : V} {d e : PyData} {Q : VK} (r : Rs P S σ H ρ) (hx : Bp P S H x d) (hy : Bp P S H y e) (q : RD P W S σ H (idxD d e) Q) : rIx P.K x y H Q := by
  have z : Same H H := Same.refl H
  cases e with
  | int i =>
    cases d with
    | list ds =>
      have q : RD P W S σ H (match atI ds i with | some d => .ok d | none => .bad) Q := q
      cases c : atI ds i with
      | none => rw [c] at q; exact q.elim
      | some w =>
        rw [c] at q
        obtain ⟨a, vs, e1, h1, h2⟩ := hx.lst
        obtain ⟨v, g1, g2⟩ := h2.atI c
        exact .inl ⟨a, vs, i, v, e1, hy.int, h1, g1, q _ _ z g2⟩
    | tuple ds =>
      have q : RD P W S σ H (match atI ds i with | some d => .ok d | none => .bad) Q := q
      cases c : atI ds i with
      | none => rw [c] at q; exact q.elim
      | some w =>
        rw [c] at q
        obtain ⟨a, vs, e1, h1, h2⟩ := hx.tup
        obtain ⟨v, g1, g2⟩ := h2.atI c
        exact .inr (.inl ⟨a, vs, i, v, e1, hy.int, sqt_mono hid_full h1, g1, q _ _ z g2⟩)
    | str s =>
      have q : RD P W S σ H (match atI s.cps.toList i with | some c => if s.length ≤ sizeLine then .ok (.str ⟨#[c]⟩) else .bad | none => .bad) Q := q
      cases c : atI s.cps.toList i with
      | none => rw [c] at q; exact q.elim
      | some w =>
        rw [c] at q
        have q : RD P W S σ H (if s.length ≤ sizeLine then .ok (.str ⟨#[w]⟩) else .bad) Q := q
        by_cases l : s.length ≤ sizeLine
        · rw [if_pos l] at q
          exact .inr (.inr ⟨s, i, w, hx.str, hy.int, l, c, q _ _ z (.str _)⟩)
        · rw [if_neg l] at q; exact q.elim
    | _ => exact q.elim
  | _ => cases d <;> exact q.elim
theorem re_idx (hK : P.K = X.K) (ha : PE X a (TB P W ia)) (hb : PE X b (TB P W ib)) (hs : PlainIx b) : PE X (.Subscript a b pos) (TD P W (.idx ia ib)) := by
  refine PE.imp (pe_ix ix_seq ha hb hs) fun σ H Q ⟨ρ, S, r, q⟩ => ?_
  rw [← hK]
  exact tb_bind po_d r q fun x H1 d s1 r1 y1 q1 => tb_bind po_d r1 q1 fun y H2 e s2 r2 y2 q2 => vidx r2 (y1.mono s2) y2 q2
def rSl (K : PySem.W.Frag) : V → Option Int → Option Int → Hp → VK → Prop := fun x lo hi H Q => rSlL K x lo hi H Q ∨ (rSlA K x lo hi H Q ∨ rSlS x lo hi H Q)
theorem sl_all : SlR X (rSl X.K) := sl_list.or (sl_tupA.or sl_str)
theorem RpAll.cut {K : PySem.W.Frag} {G : Hp} {vs : List V} {ds : List PyData} (h : RpAll K G vs ds) (lo hi : Option Int) : RpAll K G (cutV vs lo hi) (cutD ds lo hi) := by
  unfold cutV cutD
  rw [h.len]
  exact (h.drop _).take _
theorem vslc {S : Addr → Prop} {σ : L2.St} {H : Hp} {ρ : En} {x : V} {d : PyData} {lo hi : Option Int} {Q : VK} (r : Rs P S σ H ρ) (hx : Bp P S H x d) (q : RD P W S σ H (slcD d lo hi) Q) : rSl P.K x lo hi H Q := by
  have z : Same H H := Same.refl H
  cases d with
  | list ds =>
    obtain ⟨a, vs, e1, h1, h2⟩ := hx.lst
    exact .inl ⟨a, vs, e1, h1, fun p n => q _ _ (same_new n) (RpAll.lstNew r n (h2.cut lo hi))⟩
  | tuple ds =>
    obtain ⟨a, vs, e1, h1, h2⟩ := hx.tup
    refine .inr (.inl ⟨a, vs, e1, sqt_mono hid_full h1, fun w => ?_, fun w p n => q _ _ (same_new n) (RpAll.tupNew r n (h2.cut lo hi))⟩)
    have e : cutD ds lo hi = ds := by
      unfold cutD
      rw [h2.len] at w
      rw [w.1, w.2, Nat.sub_zero, List.drop_zero, List.take_length]
    have q : RD P W S σ H (.ok (.tuple (cutD ds lo hi))) Q := q
    rw [e] at q
    exact q _ _ z (.tup h1 h2)
  | str s =>
    have q : RD P W S σ H (if s.length ≤ sizeLine then .ok (.str (cutS s lo hi)) else .bad) Q := q
    by_cases l : s.length ≤ sizeLine
    · rw [if_pos l] at q
      exact .inr (.inr ⟨s, hx.str, l, q _ _ z (.str _)⟩)
    · rw [if_neg l] at q; exact q.elim
  | _ => exact q.elim
variable {lo hi : Expr} {il ih : E} {p2 : Pos}
theorem re_slN (hK : P.K = X.K) (ha : PE X a (TB P W ia)) : PE X (.Subscript a (.Slice none none none p2) pos) (TD P W (.slN ia)) := by
  refine PE.imp (pe_slice sl_all ha po_none po_none) fun σ H Q ⟨ρ, S, r, q⟩ => ?_
  rw [← hK]
  exact tb_bind po_d r q fun x H1 d s1 r1 y1 q1 => vslc r1 y1 q1
theorem int_of {S : Addr → Prop} {σ : L2.St} {H : Hp} {G : Hp → R PyData → Prop} (po : Po P W S σ G) {x : V} {d : PyData} {f : Int → R PyData} (hx : Bp P S H x d) (q : G H (int1 d f)) : ∃ i, x = .int i ∧ G H (f i) := by
  cases d with
  | int i => exact ⟨i, hx.int, q⟩
  | _ => exact (po.bad q).elim
theorem re_slL (hK : P.K = X.K) (ha : PE X a (TB P W ia)) (hl : PE X lo (TB P W il)) : PE X (.Subscript a (.Slice (some lo) none none p2) pos) (TD P W (.slL ia il)) := by
  refine PE.imp (pe_slice sl_all ha (po_some hl) po_none) fun σ H Q ⟨ρ, S, r, q⟩ => ?_
  rw [← hK]
  refine tb_bind po_d r q fun x H1 d s1 r1 y1 q1 => tb_bind po_d r1 q1 fun y H2 e s2 r2 y2 q2 => ?_
  obtain ⟨i, e1, q3⟩ := int_of po_d y2 q2
  exact ⟨i, e1, vslc r2 (y1.mono s2) q3⟩
theorem re_slU (hK : P.K = X.K) (ha : PE X a (TB P W ia)) (hh : PE X hi (TB P W ih)) : PE X (.Subscript a (.Slice none (some hi) none p2) pos) (TD P W (.slU ia ih)) := by
  refine PE.imp (pe_slice sl_all ha po_none (po_some hh)) fun σ H Q ⟨ρ, S, r, q⟩ => ?_
  rw [← hK]
  refine tb_bind po_d r q fun x H1 d s1 r1 y1 q1 => tb_bind po_d r1 q1 fun y H2 e s2 r2 y2 q2 => ?_
  obtain ⟨i, e1, q3⟩ := int_of po_d y2 q2
  exact ⟨i, e1, vslc r2 (y1.mono s2) q3⟩
theorem re_slB (hK : P.K = X.K) (ha : PE X a (TB P W ia)) (hl : PE X lo (TB P W il)) (hh : PE X hi (TB P W ih)) : PE X (.Subscript a (.Slice (some lo) (some hi) none p2) pos) (TD P W (.slB ia il ih)) := by
  refine PE.imp (pe_slice sl_all ha (po_some hl) (po_some hh)) fun σ H Q ⟨ρ, S, r, q⟩ => ?_
  rw [← hK]
  refine tb_bind po_d r q fun x H1 d s1 r1 y1 q1 => tb_bind po_d r1 q1 fun y H2 e s2 r2 y2 q2 => ?_
  obtain ⟨i, e1, q3⟩ := int_of po_d y2 q2
  refine ⟨i, e1, tb_bind po_d r2 q3 fun w H3 e' s3 r3 y3 q4 => ?_⟩
  obtain ⟨j, e2, q5⟩ := int_of po_d y3 q4
  exact ⟨j, e2, vslc r3 ((y1.mono s2).mono s3) q5⟩
theorem re_rev {k : Nat} {p1 p3 p4 : Pos} (hK : P.K = X.K) (ha : PE X a (TB P W ia)) : PE X (.Subscript a (.Slice none none (some (.UnaryOp .USub (.Constant (.int 1) k p1) p3)) p4) pos) (TD P W (.rev ia)) := by
  refine PE.imp (pe_revL ha) fun σ H Q ⟨ρ, S, r, q⟩ => ?_
  rw [← hK]
  refine tb_bind po_d r q fun x H1 d s1 r1 y1 q1 => ?_
  cases d with
  | list ds =>
    obtain ⟨a, vs, e1, h1, h2⟩ := y1.lst
    exact ⟨a, vs, e1, h1, fun p n => q1 _ _ (same_new n) (RpAll.lstNew r1 n h2.rev)⟩
  | _ => exact q1.elim
end
/-- what a def promises: handed data, it hands back what the function says; what stood stands -/
def spec (K : PySem.W.Frag) (mg : Str → Option Value) (n : Nat) (g : Sem) : Sp := fun vs H Q E => vs.length = n ∧ ∃ ds F, (∀ a, F a → H a ≠ none) ∧ RpAll K (hid F H) vs ds ∧ (match g ds with
  | .ok d => ∀ v H', Same H H' → Rp K (hid F H') v d → Q v H'
  | .exc c p => ∀ C o H', mg c = some (.ref C) → Same H H' → Pay K (hid F H') o p → E (.ref C) o H'
  | .bad => False)
/-- the same of a def whose result is new, as sh tells -/
def specN (K : PySem.W.Frag) (mg : Str → Option Value) (n : Nat) (g : Sem) (sh : PyData → MT) : Sp := fun vs H Q E => vs.length = n ∧ ∃ ds F, (∀ a, F a → H a ≠ none) ∧ RpAll K (hid F H) vs ds ∧ (match g ds with
  | .ok d => ∀ v fp H', Same H H' → (∀ b ∈ fp, H b = none) → Same (hid F H) (hid (addL F fp) H') → Ow K F (addL F fp) H' v (sh d) fp → Q v H'
  | .exc c p => ∀ C o H', mg c = some (.ref C) → Same H H' → Pay K (hid F H') o p → E (.ref C) o H'
  | .bad => False)
theorem spec_N {K : PySem.W.Frag} {mg : Str → Option Value} {n : Nat} {g : Sem} {sh : PyData → MT} (hd : ∀ d, (sh d).d = d) {vs : List V} {H : Hp} {Q : VK} {E : XK} (h : spec K mg n g vs H Q E) : specN K mg n g sh vs H Q E := by
  obtain ⟨h1, ds, F, h2, h3, h4⟩ := h
  refine ⟨h1, ds, F, h2, h3, ?_⟩
  cases z : g ds with
  | ok d =>
    rw [z] at h4
    intro v fp H' s n k y
    have q := Ow.rp (S' := F) (fun a h => .inl h) y fun b hb z => h2 b z (n b hb)
    rw [hd] at q
    exact h4 v H' s q
  | exc c p => rw [z] at h4; exact h4
  | bad => rw [z] at h4; exact h4
structure FOkN (X : Cx) (x : Str) (g : Sem) (sh : PyData → MT) : Prop where
  ex : ∃ f fd ps k n, X.mg x = some (.ref f) ∧ PySem.W.keepIn X.K (.ref f) = true ∧ FnOk X.prog X.w X.K X.mg X.base (L2.CX X.prog X.w) k f fd ps (specN X.K X.mg n g sh) ∧ Room k X.A ∧ Binds X.K fd ps [] ∧ ∀ ds, g ds ≠ .bad → ds.length = n
structure FOk (X : Cx) (x : Str) (g : Sem) : Prop where
  ex : ∃ f fd ps k n, X.mg x = some (.ref f) ∧ PySem.W.keepIn X.K (.ref f) = true ∧ FnOk X.prog X.w X.K X.mg X.base (L2.CX X.prog X.w) k f fd ps (spec X.K X.mg n g) ∧ Room k X.A ∧ Binds X.K fd ps [] ∧ ∀ ds, g ds ≠ .bad → ds.length = n
section
variable {X : Cx} {P : Pm} {W : WX} {a b e : Expr} {ia ib ie : E} {pos p : Pos} {es : List Expr} {is : Es} {x : Str} {g : Sem}
theorem re_call (hK : P.K = X.K) (hM : P.mg = X.mg) (tk : Takes X W) (F : FOk X x g) (hg : Gl X x) (hdb : (x == ("__debug__" : Str)) = false) (ha : PA X (e :: es) (TAs P W is))
    (he : starEach (e :: es) X.env = (false, eval e X.env) :: starEach es X.env) (hpl : (backTo pos (starEach es X.env)).any (·.1) = false) : PE X (.Call (.Name x p) (e :: es) [] pos) (TD P W (.call x g is)) := by
  obtain ⟨f, fd, ps, k, n, hm, hk, F, hr, hb, ar⟩ := F.ex
  refine PE.imp (pe_callS F hr hg hm hk hb (passAt tk) ha hdb he hpl) fun σ H Q ⟨ρ, S, r, q⟩ => ?_
  refine ta_bind po_d r q fun vs H1 ds s1 r1 y1 q1 => ?_
  have hl := y1.len
  rw [← hK, ← hM]
  refine ⟨?_, ds, S, r1.al, y1, ?_⟩
  · rw [hl]
    refine ar ds fun z => ?_
    rw [z] at q1
    exact q1
  · cases z : g ds with
    | ok d => rw [z] at q1; exact q1
    | exc c p => rw [z] at q1; exact q1
    | bad => rw [z] at q1; exact q1
end
end Dy

namespace Dy
open PySem PySem.Spec PyProof.Rows L2
open Classical
section
variable {X : Cx} {P : Pm} {W : WX} {a : Expr} {ia : E} {pos p : Pos} {x : Str} {id T : String} {r : List V → Hp → VK → Prop}
/-- a built-in that keeps its word -/
def BlOk (K : PySem.W.Frag) (b : Bl) (r : List V → Hp → VK → Prop) : Prop :=
  ∀ {P : Pm} {W : WX} {S : Addr → Prop} {σ : L2.St} {H : Hp} {ρ : En} {x : V} {d : PyData} {Q : VK}, P.K = K → Rs P S σ H ρ → Bp P S H x d → RD P W S σ H (fn1 b d) Q → r [x] H Q
theorem re_fnB {b : Bl} (hK : P.K = X.K) (hc : CallR X (.builtin id) r) (ok : BlOk X.K b r) (hg : Gl X x) (hm : X.mg x = none) (hv : bootBuiltins x = some (.builtin id)) (hn : x ≠ "__name__") (hdb : (x == ("__debug__" : Str)) = false)
    (ha : PE X a (TB P W ia)) (he : starEach [a] X.env = (false, eval a X.env) :: starEach [] X.env) : PE X (.Call (.Name x p) [a] [] pos) (TD P W (.fn b ia)) :=
  PE.imp (pe_callB hc hg hm hv (pa_cons ha pa_nil he) hn hdb he rfl) fun σ H Q ⟨ρ, S, r, q⟩ => tb_bind po_d r q fun x H1 d s1 r1 y1 q1 => ok hK r1 y1 q1
theorem re_fnT {b : Bl} (hK : P.K = X.K) (hc : CallR X (.type T) r) (ok : BlOk X.K b r) (hg : Gl X x) (hm : X.mg x = none) (hv : bootBuiltins x = some (.type T)) (hn : x ≠ "__name__") (hdb : (x == ("__debug__" : Str)) = false)
    (ha : PE X a (TB P W ia)) (he : starEach [a] X.env = (false, eval a X.env) :: starEach [] X.env) : PE X (.Call (.Name x p) [a] [] pos) (TD P W (.fn b ia)) :=
  PE.imp (pe_callTy hc hg hm hv (pa_cons ha pa_nil he) hn hdb he rfl) fun σ H Q ⟨ρ, S, r, q⟩ => tb_bind po_d r q fun x H1 d s1 r1 y1 q1 => ok hK r1 y1 q1
theorem ok_len : BlOk X.K .len (fun xs H Q => ∃ x n, xs = [x] ∧ LenV X.K x H n ∧ Q (.int n) H) := by
  intro P W S σ H ρ x d Q hK r hx q
  have z : Same H H := Same.refl H
  cases d with
  | list ds =>
    obtain ⟨a, vs, e, h1, h2⟩ := hx.lst
    exact ⟨x, ds.length, rfl, by rw [e]; exact .inl ⟨vs, by rw [← hK]; exact h1, h2.len.symm⟩, q _ _ z (.int _)⟩
  | tuple ds =>
    obtain ⟨a, vs, e, h1, h2⟩ := hx.tup
    exact ⟨x, ds.length, rfl, by rw [e, ← hK]; exact .inr ⟨vs, sqt_mono hid_full h1, h2.len.symm⟩, q _ _ z (.int _)⟩
  | str s =>
    have q : RD P W S σ H (if s.length ≤ sizeLine then .ok (.int s.length) else .bad) Q := q
    by_cases c : s.length ≤ sizeLine
    · rw [if_pos c] at q
      exact ⟨x, s.length, rfl, by rw [hx.str]; exact ⟨c, rfl⟩, q _ _ z (.int _)⟩
    · rw [if_neg c] at q; exact q.elim
  | _ => exact q.elim
theorem ok_abs : BlOk X.K .abs (fun xs H Q => ∃ i, xs = [.int i] ∧ Q (.int (if i < 0 then -i else i)) H) := by
  intro P W S σ H ρ x d Q hK r hx q
  cases d with
  | int i => exact ⟨i, by rw [hx.int], q _ _ (Same.refl H) (.int _)⟩
  | _ => exact q.elim
theorem ok_tuple : BlOk X.K .tuple (fun xs H Q => ∃ p ys, xs = [.ref p] ∧ ((SqL X.K H p ys ∧ ∀ l, H l = none → Q (.ref l) (upd H l (.tup ys))) ∨ (SqT X.K H p ys ∧ Q (.ref p) H))) := by
  intro P W S σ H ρ x d Q hK r hx q
  cases d with
  | list ds =>
    obtain ⟨a, vs, e, h1, h2⟩ := hx.lst
    exact ⟨a, vs, by rw [e], .inl ⟨by rw [← hK]; exact h1, fun l n => q _ _ (same_new n) (RpAll.tupNew r n h2)⟩⟩
  | tuple ds =>
    obtain ⟨a, vs, e, h1, h2⟩ := hx.tup
    exact ⟨a, vs, by rw [e], .inr ⟨by rw [← hK]; exact sqt_mono hid_full h1, q _ _ (Same.refl H) (.tup h1 h2)⟩⟩
  | _ => exact q.elim
theorem ok_list : BlOk X.K .list (fun xs H Q => ∃ p ys, xs = [.ref p] ∧ (SqL X.K H p ys ∨ SqT X.K H p ys) ∧ ∀ l, H l = none → Q (.ref l) (upd H l (.lst ys))) := by
  intro P W S σ H ρ x d Q hK r hx q
  cases d with
  | list ds =>
    obtain ⟨a, vs, e, h1, h2⟩ := hx.lst
    exact ⟨a, vs, by rw [e], .inl (by rw [← hK]; exact h1), fun l n => q _ _ (same_new n) (RpAll.lstNew r n h2)⟩
  | tuple ds =>
    obtain ⟨a, vs, e, h1, h2⟩ := hx.tup
    exact ⟨a, vs, by rw [e], .inr (by rw [← hK]; exact sqt_mono hid_full h1), fun l n => q _ _ (same_new n) (RpAll.lstNew r n h2)⟩
  | _ => exact q.elim
theorem ok_str : BlOk X.K .str (fun xs H Q => ∃ i, xs = [.int i] ∧ i.natAbs.log2 < 1920 ∧ Q (.str (toString i)) H) := by
  intro P W S σ H ρ x d Q hK r hx q
  cases d with
  | int i =>
    have q : RD P W S σ H (if i.natAbs.log2 < 1920 then .ok (.str (toString i)) else .bad) Q := q
    by_cases c : i.natAbs.log2 < 1920
    · rw [if_pos c] at q
      exact ⟨i, by rw [hx.int], c, q _ _ (Same.refl H) (.str _)⟩
    · rw [if_neg c] at q; exact q.elim
  | _ => exact q.elim
theorem ok_int : BlOk X.K .int (fun xs H Q => (∃ i, xs = [.int i] ∧ Q (.int i) H) ∨ ∃ k, xs = [.bl k] ∧ Q (.int (if k then 1 else 0)) H) := by
  intro P W S σ H ρ x d Q hK r hx q
  cases d with
  | int i => exact .inl ⟨i, by rw [hx.int], q _ _ (Same.refl H) (.int _)⟩
  | bool k => exact .inr ⟨k, by rw [hx.bool], q _ _ (Same.refl H) (.int _)⟩
  | _ => exact q.elim
theorem ints_rp {K : PySem.W.Frag} {G : Hp} : ∀ {ds : List PyData} {vs : List V} {ns : List Int}, RpAll K G vs ds → intsOf ds = some ns → vs = ns.map V.int
  | [], _, _, h, e => by
    cases h
    cases e
    rfl
  | d :: ds, _, ns, h, e => by
    cases h with
    | cons h1 h2 =>
      cases d with
      | int i =>
        have e : (intsOf ds).map (i :: ·) = some ns := e
        cases z : intsOf ds with
        | none => rw [z] at e; cases e
        | some r =>
          rw [z] at e
          cases e
          rw [h1.int', ints_rp h2 z]
          rfl
      | _ => cases e
theorem bls_rp {K : PySem.W.Frag} {G : Hp} : ∀ {ds : List PyData} {vs : List V} {ns : List Bool}, RpAll K G vs ds → blsOf ds = some ns → vs = ns.map V.bl
  | [], _, _, h, e => by
    cases h
    cases e
    rfl
  | d :: ds, _, ns, h, e => by
    cases h with
    | cons h1 h2 =>
      cases d with
      | bool i =>
        have e : (blsOf ds).map (i :: ·) = some ns := e
        cases z : blsOf ds with
        | none => rw [z] at e; cases e
        | some r =>
          rw [z] at e
          cases e
          rw [h1.bool, bls_rp h2 z]
          rfl
      | _ => cases e
theorem maxOf_ge : ∀ (l : List Int) (m : Int), m ≤ maxOf m l ∧ (∀ y ∈ l, y ≤ maxOf m l) ∧ (maxOf m l = m ∨ maxOf m l ∈ l)
  | [], m => ⟨Int.le_refl _, (fun y h => by cases h), .inl rfl⟩
  | x :: r, m => by
    obtain ⟨h1, h2, h3⟩ := maxOf_ge r (if x > m then x else m)
    have e : maxOf m (x :: r) = maxOf (if x > m then x else m) r := rfl
    rw [e]
    refine ⟨?_, fun y hy => ?_, ?_⟩
    · refine Int.le_trans ?_ h1
      split <;> omega
    · rcases List.mem_cons.mp hy with rfl | hy
      · refine Int.le_trans ?_ h1
        split <;> omega
      · exact h2 y hy
    · rcases h3 with h3 | h3
      · rw [h3]
        by_cases c : x > m
        · rw [if_pos c]; exact .inr List.mem_cons_self
        · rw [if_neg c]; exact .inl rfl
      · exact .inr (List.mem_cons_of_mem _ h3)
theorem minOf_le : ∀ (l : List Int) (m : Int), minOf m l ≤ m ∧ (∀ y ∈ l, minOf m l ≤ y) ∧ (minOf m l = m ∨ minOf m l ∈ l)
  | [], m => ⟨Int.le_refl _, (fun y h => by cases h), .inl rfl⟩
  | x :: r, m => by
    obtain ⟨h1, h2, h3⟩ := minOf_le r (if x < m then x else m)
    have e : minOf m (x :: r) = minOf (if x < m then x else m) r := rfl
    rw [e]
    refine ⟨?_, fun y hy => ?_, ?_⟩
    · refine Int.le_trans h1 ?_
      split <;> omega
    · rcases List.mem_cons.mp hy with rfl | hy
      · refine Int.le_trans h1 ?_
        split <;> omega
      · exact h2 y hy
    · rcases h3 with h3 | h3
      · rw [h3]
        by_cases c : x < m
        · rw [if_pos c]; exact .inr List.mem_cons_self
        · rw [if_neg c]; exact .inl rfl
      · exact .inr (List.mem_cons_of_mem _ h3)
theorem ok_max : BlOk X.K .max (rMax X.K) := by
  intro P W S σ H ρ x d Q hK r hx q
  cases d with
  | list ds =>
    obtain ⟨a, vs, e, h1, h2⟩ := hx.lst
    have q : RD P W S σ H (match intsOf ds with | some (m :: r) => .ok (.int (maxOf m r)) | _ => .bad) Q := q
    cases z : intsOf ds with
    | none => rw [z] at q; exact q.elim
    | some ns =>
      rw [z] at q
      cases ns with
      | nil => exact q.elim
      | cons m t =>
        have ev := ints_rp h2 z
        refine ⟨a, m :: t, by rw [e], by rw [← hK, ← ev]; exact h1, Nat.succ_pos _, fun k hk hm => ?_⟩
        obtain ⟨g1, g2, g3⟩ := maxOf_ge t m
        have e2 : k = maxOf m t := by
          refine Int.le_antisymm ?_ ?_
          · rcases List.mem_cons.mp hk with rfl | hk
            · exact g1
            · exact g2 k hk
          · rcases g3 with g3 | g3
            · rw [g3]; exact hm m List.mem_cons_self
            · exact hm _ (List.mem_cons_of_mem _ g3)
        rw [e2]
        exact q _ _ (Same.refl H) (.int _)
  | _ => exact q.elim
theorem ok_min : BlOk X.K .min (rMin X.K) := by
  intro P W S σ H ρ x d Q hK r hx q
  cases d with
  | list ds =>
    obtain ⟨a, vs, e, h1, h2⟩ := hx.lst
    have q : RD P W S σ H (match intsOf ds with | some (m :: r) => .ok (.int (minOf m r)) | _ => .bad) Q := q
    cases z : intsOf ds with
    | none => rw [z] at q; exact q.elim
    | some ns =>
      rw [z] at q
      cases ns with
      | nil => exact q.elim
      | cons m t =>
        have ev := ints_rp h2 z
        refine ⟨a, m :: t, by rw [e], by rw [← hK, ← ev]; exact h1, Nat.succ_pos _, fun k hk hm => ?_⟩
        obtain ⟨g1, g2, g3⟩ := minOf_le t m
        have e2 : k = minOf m t := by
          refine Int.le_antisymm ?_ ?_
          · rcases g3 with g3 | g3
            · rw [g3]; exact hm m List.mem_cons_self
            · exact hm _ (List.mem_cons_of_mem _ g3)
          · rcases List.mem_cons.mp hk with rfl | hk
            · exact g1
            · exact g2 k hk
        rw [e2]
        exact q _ _ (Same.refl H) (.int _)
  | _ => exact q.elim
theorem ok_all : BlOk X.K .all (rAll X.K) := by
  intro P W S σ H ρ x d Q hK r hx q
  cases d with
  | list ds =>
    obtain ⟨a, vs, e, h1, h2⟩ := hx.lst
    have q : RD P W S σ H (match blsOf ds with | some bs => .ok (.bool (bs.all _root_.id)) | _ => .bad) Q := q
    cases z : blsOf ds with
    | none => rw [z] at q; exact q.elim
    | some ns =>
      rw [z] at q
      have ev := bls_rp h2 z
      exact ⟨a, ns, by rw [e], by rw [← hK, ← ev]; exact h1, q _ _ (Same.refl H) (.bl _)⟩
  | _ => exact q.elim
theorem ok_any : BlOk X.K .any (rAny X.K) := by
  intro P W S σ H ρ x d Q hK r hx q
  cases d with
  | list ds =>
    obtain ⟨a, vs, e, h1, h2⟩ := hx.lst
    have q : RD P W S σ H (match blsOf ds with | some bs => .ok (.bool (bs.any _root_.id)) | _ => .bad) Q := q
    cases z : blsOf ds with
    | none => rw [z] at q; exact q.elim
    | some ns =>
      rw [z] at q
      have ev := bls_rp h2 z
      exact ⟨a, ns, by rw [e], by rw [← hK, ← ev]; exact h1, q _ _ (Same.refl H) (.bl _)⟩
  | _ => exact q.elim
def tyOf : PyData → String
  | .none => "NoneType" | .bool _ => "bool" | .int _ => "int" | .str _ => "str" | .list _ => "list" | .tuple _ => "tuple" | .dict _ => "dict"
theorem tyX_of {P : Pm} {S : Addr → Prop} {H : Hp} {v : V} {d : PyData} (h : Bp P S H v d) (nd : noDict d = true) : TyX P.K H v (.type (tyOf d)) := by
  cases d with
  | none => rw [h.non]; exact .base .non
  | bool b => rw [h.bool]; exact .base (.bl _)
  | int b => rw [h.int]; exact .base (.int _)
  | str b => rw [h.str]; exact .base (.str _)
  | list ds =>
    obtain ⟨a, vs, e, h1, h2⟩ := h.lst
    rw [e]
    rcases h1 with (h1 | ⟨o, h1⟩) | ⟨o, its, n, h1, h2, _⟩
    · exact .base (.lst h1)
    · exact .base (.frz h1)
    · exact .kList h1 h2
  | tuple ds =>
    obtain ⟨a, vs, e, h1, h2⟩ := h.tup
    rw [e]
    rcases sqt_mono hid_full h1 with (h1 | ⟨o, h1⟩) | ⟨o, its, n, h1, h2, _⟩
    · exact .base (.tup h1)
    · exact .fTuple h1
    · exact .kTuple h1 h2
  | dict _ => exact absurd nd Bool.false_ne_true
def tyName : Bl → String
  | .isInt => "int" | .isBool => "bool" | .isStr => "str" | .isList => "list" | .isTuple => "tuple" | _ => ""
def isBl : Bl → Bool
  | .isInt => true | .isBool => true | .isStr => true | .isList => true | .isTuple => true | _ => false
theorem kit_bl {K : PySem.W.Frag} {b : Bl} {d : PyData} (hb : isBl b = true) (nd : noDict d = true) : PySem.W.kitOne K (.type (tyOf d)) (.type (tyName b)) = some (isKind b d) := by
  cases b <;> first
    | exact absurd hb Bool.false_ne_true
    | (cases d <;> first
        | exact absurd nd Bool.false_ne_true
        | exact kit_ty (by kernel_rfl))
theorem fn1_isBl {b : Bl} (hb : isBl b = true) (d : PyData) : fn1 b d = if noDict d = true then .ok (.bool (isKind b d)) else .bad := by
  cases b <;> first
    | exact absurd hb Bool.false_ne_true
    | (cases d <;> rfl)
theorem re_isinst {b : Bl} {y : Str} {p2 : Pos} (hK : P.K = X.K) (hb : isBl b = true) (hg : Gl X "isinstance") (hm : X.mg "isinstance" = none) (hg2 : Gl X y) (hm2 : X.mg y = none) (hv : bootBuiltins y = some (.type (tyName b))) (hn : y ≠ "__name__") (hdb : (y == ("__debug__" : Str)) = false)
    (ha : PE X a (TB P W ia)) (he : starEach [a, .Name y p2] X.env = (false, eval a X.env) :: starEach [.Name y p2] X.env) : PE X (.Call (.Name "isinstance" p) [a, .Name y p2] [] pos) (TD P W (.fn b ia)) := by
  refine PE.imp (pe_callB call_isi hg hm (by decide +kernel) (pa_cons ha (pa_cons (pe_bltn (v := .ty (tyName b)) hg2 hm2 hv rfl hn hdb) pa_nil rfl) he) (by decide) (by decide) he rfl) fun σ H Q ⟨ρ, S, r, q⟩ => tb_bind po_d r q fun x H1 d s1 r1 y1 q1 => ?_
  rw [fn1_isBl hb] at q1
  by_cases nd : noDict d = true
  · rw [if_pos nd] at q1
    exact ⟨x, .ty (tyName b), .type (tyOf d), .type (tyName b), isKind b d, rfl, .ty _, by rw [← hK]; exact tyX_of y1 nd, kit_bl hb nd, q1 _ _ (Same.refl _) (.bl _)⟩
  · rw [if_neg nd] at q1; exact q1.elim
end
end Dy

namespace Dy
open PySem PySem.Spec PyProof.Rows L2
open Classical
mutual
def tv : Tg → List Nat
  | .nm i => [i]
  | .tp l => tvs l
def tvs : Tgs → List Nat
  | .nil => []
  | .cons t l => tv t ++ tvs l
end
def SameOff (l : List Nat) (σ σ' : L2.St) : Prop := σ'.length = σ.length ∧ ∀ i : Nat, i ∉ l → σ'[i]? = σ[i]?
theorem SameOff.refl (l : List Nat) (σ : L2.St) : SameOff l σ σ := ⟨rfl, fun _ _ => rfl⟩
theorem SameOff.trans {l l' : List Nat} {σ σ1 σ2 : L2.St} (a : SameOff l σ σ1) (b : SameOff l' σ1 σ2) : SameOff (l ++ l') σ σ2 := ⟨b.1.trans a.1, fun i h => (b.2 i fun z => h (List.mem_append_right _ z)).trans (a.2 i fun z => h (List.mem_append_left _ z))⟩
def GT (P : Pm) (t : Tg) : TG := fun v σ H Q => ∃ ρ S d, Rs P S σ H ρ ∧ Rp P.K (hid S H) v d ∧ (match tset t d ρ with
  | .ok ρ' => ∀ σ', Rs P S σ' H ρ' → SameOff (tv t) σ σ' → Q σ' H
  | _ => False)
def GTs (P : Pm) (t : Tgs) : TGs := fun vs σ H Q => ∃ ρ S ds, Rs P S σ H ρ ∧ RpAll P.K (hid S H) vs ds ∧ (match tsets t ds ρ with
  | .ok ρ' => ∀ σ', Rs P S σ' H ρ' → SameOff (tvs t) σ σ' → Q σ' H
  | _ => False)
theorem PG.imp {X : Cx} {e : Expr} {t t' : TG} (h : PG X e t) (i : ∀ v σ H Q, t' v σ H Q → t v σ H Q) : PG X e t' := ⟨fun pins s σ H v u Q I r q => h.run pins s σ H v u Q I r (i v σ H Q q)⟩
theorem PGs.imp {X : Cx} {e : List Expr} {t t' : TGs} (h : PGs X e t) (i : ∀ v σ H Q, t' v σ H Q → t v σ H Q) : PGs X e t' := ⟨fun pins s σ H v u Q I r q => h.run pins s σ H v u Q I r (i v σ H Q q)⟩
theorem PI.imp {X : Cx} {tg e : Expr} {t t' : TI} (h : PI X tg e t) (i : ∀ σ H R, t' σ H R → t σ H R) : PI X tg e t' := ⟨fun pins s σ H R I q => h.run pins s σ H R I (i σ H R q)⟩
section
variable {X : Cx} {P : Pm} {W : WX} {pos : Pos}
theorem rg_name {i : Nat} {x : Str} (hN : X.N.Nodup) (hi : X.N[i]? = some x) (hx : Loc X.env.scope x) (hf : X.fn x = true ∨ X.env.scope.names.lookup x = some .local) : PG X (.Name x pos) (GT P (.nm i)) :=
  PG.imp (pg_name hN hi hx hf) fun v σ H Q ⟨ρ, S, d, r, y, q⟩ => q _ (r.put y) ⟨List.length_set, fun j h => set_get_ne fun e => h (by rw [e]; exact List.mem_singleton.mpr rfl)⟩
theorem rgs_nil : PGs X [] (GTs P .nil) := PGs.imp pgs_nil fun vs σ H Q ⟨ρ, S, ds, r, y, q⟩ => by
  cases ds with
  | nil =>
    cases y
    exact ⟨rfl, q σ r (SameOff.refl _ _)⟩
  | cons d ds => exact q.elim
theorem rgs_cons {e : Expr} {es : List Expr} {t : Tg} {l : Tgs} (h1 : PG X e (GT P t)) (h2 : PGs X es (GTs P l)) (hs : (assignEach (e :: es) X.env).map (·.2) = assign e X.env :: (assignEach es X.env).map (·.2)) : PGs X (e :: es) (GTs P (.cons t l)) :=
  PGs.imp (pgs_cons h1 h2 hs) fun vs σ H Q ⟨ρ, S, ds, r, y, q⟩ => by
    cases ds with
    | nil => exact q.elim
    | cons d ds =>
      cases y with
      | cons y1 y2 =>
        refine ⟨_, _, rfl, ρ, S, d, r, y1, ?_⟩
        have q : (match (tset t d ρ).bind (tsets l ds) with
          | .ok ρ' => ∀ σ', Rs P S σ' H ρ' → SameOff (tvs (.cons t l)) σ σ' → Q σ' H
          | _ => False) := q
        cases z : tset t d ρ with
        | ok ρ1 =>
          rw [z] at q
          intro σ1 r1 o1
          refine ⟨ρ1, S, ds, r1, y2, ?_⟩
          have q : (match tsets l ds ρ1 with
            | .ok ρ' => ∀ σ', Rs P S σ' H ρ' → SameOff (tvs (.cons t l)) σ σ' → Q σ' H
            | _ => False) := q
          cases z2 : tsets l ds ρ1 with
          | ok ρ2 =>
            rw [z2] at q
            exact fun σ2 r2 o2 => q σ2 r2 (o1.trans o2)
          | exc c p => rw [z2] at q; exact q
          | bad => rw [z2] at q; exact q
        | exc c p => rw [z] at q; exact q
        | bad => rw [z] at q; exact q
def lenT : Tgs → Nat
  | .nil => 0
  | .cons _ l => lenT l + 1
theorem tsets_len : ∀ {l : Tgs} {ds : List PyData} {ρ ρ' : En}, tsets l ds ρ = .ok ρ' → ds.length = lenT l
  | .nil, [], _, _, _ => rfl
  | .nil, _ :: _, _, _, h => by cases h
  | .cons _ _, [], _, _, h => by cases h
  | .cons t l, d :: ds, ρ, ρ', h => by
    have h : (tset t d ρ).bind (tsets l ds) = .ok ρ' := h
    cases z : tset t d ρ with
    | ok ρ1 =>
      rw [z] at h
      show ds.length + 1 = lenT l + 1
      rw [tsets_len (l := l) (ds := ds) (ρ := ρ1) h]
    | exc c p => rw [z] at h; cases h
    | bad => rw [z] at h; cases h
theorem rg_tup {es : List Expr} {k : Nat} {l : Tgs} (hK : P.K = X.K) (hc : X.calm = true) (h : PGs X es (GTs P l)) (hn : (assignEach es X.env).length = lenT l) (hst : (assignEach es X.env).findIdx? (·.1) = none) : PG X (.Tuple es k pos) (GT P (.tp l)) := by
  refine PG.imp (pg_tup hc h hn hst) fun v σ H Q ⟨ρ, S, d, r, y, q⟩ => ?_
  cases d with
  | tuple ds =>
    cases y with
    | tup y1 y2 =>
      rw [← hK]
      refine ⟨_, _, rfl, sqt_mono hid_full y1, ?_, ρ, S, ds, r, y2, q⟩
      rw [y2.len]
      have q : (match tsets l ds ρ with
        | .ok ρ' => ∀ σ', Rs P S σ' H ρ' → SameOff (tv (.tp l)) σ σ' → Q σ' H
        | _ => False) := q
      cases z : tsets l ds ρ with
      | ok ρ' => exact tsets_len z
      | exc c p => rw [z] at q; exact q.elim
      | bad => rw [z] at q; exact q.elim
  | _ => exact q.elim
end
structure Walk (K : PySem.W.Frag) (S : Addr → Prop) (H0 : Hp) (J : It) (ds : List PyData) : Prop where
  go : ∀ (i : Nat) S' H, i < ds.length → Same (hid S H0) (hid S' H) → J.go i H
  stop : ∀ (i : Nat) S' H, ds.length ≤ i → Same (hid S H0) (hid S' H) → J.stop i H
  yld : ∀ (i : Nat) S' H x H', i < ds.length → (∀ a, S' a → H a ≠ none) → Same (hid S H0) (hid S' H) → J.yld i H x H' → Same H H' ∧ ∃ d, ds[i]? = some d ∧ Rp K (hid S' H') x d
def TIs (P : Pm) (W : WX) (s : Sr) : TI := fun σ H R => ∃ ρ S, Rs P S σ H ρ ∧ (match evr s ρ with
  | .ok ds => ∀ J H', Same H H' → Walk P.K S H' J ds → R J H'
  | .exc c p => XW P W S σ H c p
  | .bad => False)
section
variable {K : PySem.W.Frag} {S : Addr → Prop} {H : Hp} {ds : List PyData}
theorem walk_list {a : Addr} {vs : List V} (h1 : SqL K (hid S H) a vs) (h2 : RpAll K (hid S H) vs ds) : Walk K S H (Itl K a) ds where
  go := fun i S' H' hi s => by
    obtain ⟨v, e, _⟩ := h2.get (List.getElem?_eq_getElem hi)
    exact ⟨vs, v, sql_mono (s.trans hid_full) h1, e⟩
  stop := fun i S' H' hi s => ⟨vs, sql_mono (s.trans hid_full) h1, by rw [h2.len]; exact hi⟩
  yld := fun i S' H' x H2 hi al s y => by
    obtain ⟨e, f⟩ := y
    subst e
    have hx := f vs (sql_mono (s.trans hid_full) h1)
    obtain ⟨d, g1, g2⟩ := (h2.mono s).getV hx
    exact ⟨Same.refl _, d, g1, g2⟩
theorem walk_tup {a : Addr} {vs : List V} (h1 : SqT K (hid S H) a vs) (h2 : RpAll K (hid S H) vs ds) : Walk K S H (Itt K a) ds where
  go := fun i S' H' hi s => by
    obtain ⟨v, e, _⟩ := h2.get (List.getElem?_eq_getElem hi)
    exact ⟨vs, v, sqt_mono (s.trans hid_full) h1, e⟩
  stop := fun i S' H' hi s => ⟨vs, sqt_mono (s.trans hid_full) h1, by rw [h2.len]; exact hi⟩
  yld := fun i S' H' x H2 hi al s y => by
    obtain ⟨e, f⟩ := y
    subst e
    have hx := f vs (sqt_mono (s.trans hid_full) h1)
    obtain ⟨d, g1, g2⟩ := (h2.mono s).getV hx
    exact ⟨Same.refl _, d, g1, g2⟩
theorem walk_str {x : Str} : Walk K S H (Its x) (x.cps.toList.map fun c => PyData.str ⟨#[c]⟩) where
  go := fun i S' H' hi s => by
    show i < x.cps.size
    simpa using hi
  stop := fun i S' H' hi s => by
    have hi : (x.cps.toList.map fun c => PyData.str ⟨#[c]⟩).length ≤ i := hi
    rw [List.length_map] at hi
    show x.cps.size ≤ i
    simpa using hi
  yld := fun i S' H' y H2 hi al s q => by
    obtain ⟨e, c, h1, h2⟩ := q
    subst e h2
    refine ⟨Same.refl _, .str ⟨#[c]⟩, ?_, .str _⟩
    rw [List.getElem?_map, Array.getElem?_toList, h1]
    rfl
theorem rgD_len (lo hi : Int) : (rgD lo hi).length = (hi - lo).toNat := by unfold rgD; rw [List.length_map, List.length_range]
theorem walk_rg {lo hi : Int} : Walk K S H (Itr lo (hi - lo).toNat) (rgD lo hi) where
  go := fun i S' H' h s => by rw [rgD_len] at h; exact h
  stop := fun i S' H' h s => by rw [rgD_len] at h; exact h
  yld := fun i S' H' y H2 h al s q => by
    obtain ⟨e, e2⟩ := q
    subst e e2
    rw [rgD_len] at h
    refine ⟨Same.refl _, .int (lo + i), ?_, .int _⟩
    unfold rgD
    rw [List.getElem?_map, List.getElem?_range h]
    rfl
theorem zip_get {α β : Type} : ∀ {xs : List α} {ys : List β} {i : Nat}, i < (xs.zip ys).length → ∃ x y, xs[i]? = some x ∧ ys[i]? = some y ∧ (xs.zip ys)[i]? = some (x, y)
  | [], ys, i, h => by simp at h
  | x :: xs, [], i, h => by simp at h
  | x :: xs, y :: ys, 0, h => ⟨x, y, rfl, rfl, rfl⟩
  | x :: xs, y :: ys, i + 1, h => by
    rw [List.zip_cons_cons, List.length_cons] at h
    obtain ⟨a, b, h1, h2, h3⟩ := zip_get (xs := xs) (ys := ys) (i := i) (by omega)
    exact ⟨a, b, by simpa using h1, by simpa using h2, by simpa using h3⟩
theorem pair_rp {S' : Addr → Prop} {H : Hp} {T : Addr} {x y : V} {d e : PyData} (al : ∀ a, S' a → H a ≠ none) (n : H T = none) (hx : Rp K (hid S' H) x d) (hy : Rp K (hid S' H) y e) : Rp K (hid S' (upd H T (.tup [x, y]))) (.ref T) (.tuple [d, e]) :=
  .tup (.inl (.inl (by rw [hid_neg fun z => al T z n]; exact upd_same))) (.cons (hx.mono (hid_same (same_new n))) (.cons (hy.mono (hid_same (same_new n))) .nil))
theorem walk_zipL {a b : Addr} {vs us : List V} {es : List PyData} (h1 : SqL K (hid S H) a vs) (h2 : RpAll K (hid S H) vs ds) (g1 : SqL K (hid S H) b us) (g2 : RpAll K (hid S H) us es) : Walk K S H (Itz K a b) ((ds.zip es).map fun p => PyData.tuple [p.1, p.2]) where
  go := fun i S' H' hi s => by
    rw [List.length_map] at hi
    obtain ⟨d, e, q1, q2, _⟩ := zip_get hi
    obtain ⟨v, e1, _⟩ := h2.get q1
    obtain ⟨u, e2, _⟩ := g2.get q2
    exact ⟨vs, us, v, u, sql_mono (s.trans hid_full) h1, sql_mono (s.trans hid_full) g1, e1, e2⟩
  stop := fun i S' H' hi s => by
    refine ⟨vs, us, sql_mono (s.trans hid_full) h1, sql_mono (s.trans hid_full) g1, ?_⟩
    have hi : ((ds.zip es).map fun p => PyData.tuple [p.1, p.2]).length ≤ i := hi
    rw [List.length_map, List.length_zip] at hi
    rw [h2.len, g2.len]
    omega
  yld := fun i S' H' x H2 hi al s y => by
    obtain ⟨T, v, u, rfl, n, rfl, f1, f2⟩ := y
    rw [List.length_map] at hi
    obtain ⟨d, e, q1, q2, q3⟩ := zip_get hi
    obtain ⟨d', k1, k2⟩ := (h2.mono s).getV (f1 vs (sql_mono (s.trans hid_full) h1))
    obtain ⟨e', k3, k4⟩ := (g2.mono s).getV (f2 us (sql_mono (s.trans hid_full) g1))
    rw [q1] at k1
    rw [q2] at k3
    cases k1
    cases k3
    exact ⟨same_new n, .tuple [d, e], by rw [List.getElem?_map, q3]; rfl, pair_rp al n k2 k4⟩
theorem walk_zipT {a b : Addr} {vs us : List V} {es : List PyData} (h1 : SqT K (hid S H) a vs) (h2 : RpAll K (hid S H) vs ds) (g1 : SqT K (hid S H) b us) (g2 : RpAll K (hid S H) us es) : Walk K S H (RZ.ItzT K a b) ((ds.zip es).map fun p => PyData.tuple [p.1, p.2]) where
  go := fun i S' H' hi s => by
    rw [List.length_map] at hi
    obtain ⟨d, e, q1, q2, _⟩ := zip_get hi
    obtain ⟨v, e1, _⟩ := h2.get q1
    obtain ⟨u, e2, _⟩ := g2.get q2
    exact ⟨vs, us, v, u, sqt_mono (s.trans hid_full) h1, sqt_mono (s.trans hid_full) g1, e1, e2⟩
  stop := fun i S' H' hi s => by
    refine ⟨vs, us, sqt_mono (s.trans hid_full) h1, sqt_mono (s.trans hid_full) g1, ?_⟩
    have hi : ((ds.zip es).map fun p => PyData.tuple [p.1, p.2]).length ≤ i := hi
    rw [List.length_map, List.length_zip] at hi
    rw [h2.len, g2.len]
    omega
  yld := fun i S' H' x H2 hi al s y => by
    obtain ⟨T, v, u, rfl, n, rfl, f1, f2⟩ := y
    rw [List.length_map] at hi
    obtain ⟨d, e, q1, q2, q3⟩ := zip_get hi
    obtain ⟨d', k1, k2⟩ := (h2.mono s).getV (f1 vs (sqt_mono (s.trans hid_full) h1))
    obtain ⟨e', k3, k4⟩ := (g2.mono s).getV (f2 us (sqt_mono (s.trans hid_full) g1))
    rw [q1] at k1
    rw [q2] at k3
    cases k1
    cases k3
    exact ⟨same_new n, .tuple [d, e], by rw [List.getElem?_map, q3]; rfl, pair_rp al n k2 k4⟩
theorem walk_enum {a : Addr} {vs : List V} (h1 : SqL K (hid S H) a vs) (h2 : RpAll K (hid S H) vs ds) : Walk K S H (Ite K a) ((ds.zipIdx 0).map fun p => PyData.tuple [.int p.2, p.1]) where
  go := fun i S' H' hi s => by
    rw [List.length_map, List.length_zipIdx] at hi
    obtain ⟨v, e, _⟩ := h2.get (List.getElem?_eq_getElem hi)
    exact ⟨vs, v, sql_mono (s.trans hid_full) h1, e⟩
  stop := fun i S' H' hi s => by
    have hi : ((ds.zipIdx 0).map fun p => PyData.tuple [.int p.2, p.1]).length ≤ i := hi
    rw [List.length_map, List.length_zipIdx] at hi
    exact ⟨vs, sql_mono (s.trans hid_full) h1, by rw [h2.len]; exact hi⟩
  yld := fun i S' H' x H2 hi al s y => by
    obtain ⟨T, v, rfl, n, rfl, f⟩ := y
    rw [List.length_map, List.length_zipIdx] at hi
    obtain ⟨d, g1, g2⟩ := (h2.mono s).getV (f vs (sql_mono (s.trans hid_full) h1))
    refine ⟨same_new n, .tuple [.int i, d], ?_, pair_rp al n (.int _) g2⟩
    rw [List.getElem?_map, List.getElem?_zipIdx, g1]
    simp
end
section
variable {X : Cx} {P : Pm} {W : WX} {a b tg : Expr} {ia ib : E} {pos p : Pos}
/-- a list, a tuple, a text -/
def iAny (K : PySem.W.Frag) (tl : TE) : TI := fun σ H R => tl σ H fun x H1 => (∃ a, x = .ref a ∧ (∃ xs, SqL K H1 a xs) ∧ R (Itl K a) H1) ∨ (∃ a, x = .ref a ∧ (∃ xs, SqT K H1 a xs) ∧ R (Itt K a) H1) ∨ ∃ z, x = .str z ∧ R (Its z) H1
theorem pi_any {l : Expr} {tl : TE} (hl : PE X l tl) : PI X tg l (iAny X.K tl) := by
  refine ⟨fun pins s σ H R I h => ?_⟩
  refine thn (hl.run pins s σ H _ I h) fun v s1 ⟨x, H1, I1, r1, q1⟩ => ?_
  rcases q1 with ⟨a, e, ⟨xs, hq⟩, q⟩ | ⟨a, e, ⟨xs, hq⟩, q⟩ | ⟨z, e, q⟩
  · subst e
    cases r1
    obtain ⟨its, rv, p, hz⟩ := I1.list hq
    refine wpAny_pyIter_list p.isList ?_
    refine ⟨s1.heap.objs.size, [s1.heap.objs.size], _, _, H1, rfl, I1.kept (t' := s1.toks) fun b o e => Heap.get?_push_of_some _ e, turn_list a _, ⟨_, Heap.get?_push_size _ rfl, rfl, rfl⟩, fun b hb => ?_, q⟩
    have e : b = s1.heap.objs.size := by simpa using hb
    subst e
    exact I1.fpOk (Nat.le_refl _) (I1.hok.fresh (Nat.le_refl _))
  · subst e
    cases r1
    obtain ⟨its, rv, p, hz⟩ := I1.tuple hq
    refine wpAny_pyIter_tuple (show s1.heap.IsTuple a its.toArray from p) ?_
    refine ⟨s1.heap.objs.size, [s1.heap.objs.size], _, _, H1, rfl, I1.kept (t' := s1.toks) fun b o e => Heap.get?_push_of_some _ e, turn_tuple a _, ⟨_, Heap.get?_push_size _ rfl, rfl, rfl⟩, fun b hb => ?_, q⟩
    have e : b = s1.heap.objs.size := by simpa using hb
    subst e
    exact I1.fpOk (Nat.le_refl _) (I1.hok.fresh (Nat.le_refl _))
  · subst e
    obtain ⟨t, rfl⟩ := r1
    cases ha : z.cps.all (· < 128)
    · exact wpAny_pyIter_wide ha (pi_one (tk := s1.toks) I1 _ (turn_str _ z t "str_iterator" (.inr rfl)) ⟨_, Heap.get?_push_size _ rfl, rfl, rfl⟩ q)
    · exact wpAny_pyIter_ascii ha (pi_one (tk := s1.toks) I1 _ (turn_str _ z t "str_ascii_iterator" (.inl rfl)) ⟨_, Heap.get?_push_size _ rfl, rfl, rfl⟩ q)
/-- the source's first operand -/
theorem ts_bind {f : PyData → R (List PyData)} {S : Addr → Prop} {σ : L2.St} {H : Hp} {ρ : En} {R' : It → Hp → Prop} {Q : VK} (r : Rs P S σ H ρ)
    (q : match (ev ia ρ).bind f with | .ok ds => ∀ J H', Same H H' → Walk P.K S H' J ds → R' J H' | .exc c p => XW P W S σ H c p | .bad => False)
    (k : ∀ x H1 d, Same H H1 → Rs P S σ H1 ρ → Rp P.K (hid S H1) x d → (match f d with | .ok ds => ∀ J H', Same H1 H' → Walk P.K S H' J ds → R' J H' | .exc c p => XW P W S σ H1 c p | .bad => False) → Q x H1) : TD P W ia σ H Q := by
  refine ⟨ρ, S, r, ?_⟩
  cases z : ev ia ρ with
  | ok d =>
    rw [z] at q
    have q : (match f d with | .ok ds => ∀ J H', Same H H' → Walk P.K S H' J ds → R' J H' | .exc c p => XW P W S σ H c p | .bad => False) := q
    refine fun x H1 s y => k x H1 d s (r.grow s) y ?_
    cases z2 : f d with
    | ok ds => rw [z2] at q; exact fun J H' s' w => q J H' (s.trans s') w
    | exc c p => rw [z2] at q; exact XW.mono q s
    | bad => rw [z2] at q; exact q
  | exc c p => rw [z] at q; exact q
  | bad => rw [z] at q; exact q
theorem ri_it (hK : P.K = X.K) (ha : PE X a (TD P W ia)) : PI X tg a (TIs P W (.it ia)) := by
  refine PI.imp (pi_any ha) fun σ H R' ⟨ρ, S, r, q⟩ => ?_
  rw [← hK]
  refine ts_bind (f := seqD) r q fun x H1 d s1 r1 y1 q1 => ?_
  cases d with
  | list ds =>
    cases y1 with
    | lst h1 h2 => exact .inl ⟨_, rfl, ⟨_, sql_mono hid_full h1⟩, q1 _ _ (Same.refl _) (walk_list h1 h2)⟩
  | tuple ds =>
    cases y1 with
    | tup h1 h2 => exact .inr (.inl ⟨_, rfl, ⟨_, sqt_mono hid_full h1⟩, q1 _ _ (Same.refl _) (walk_tup h1 h2)⟩)
  | str z =>
    cases y1
    exact .inr (.inr ⟨z, rfl, q1 _ _ (Same.refl _) walk_str⟩)
  | _ => exact q1.elim
theorem rgOk_iff {i : Int} (h : rgOk i = true) : -(2 ^ 62) ≤ i ∧ i < 2 ^ 62 := by
  unfold rgOk at h
  rw [Bool.and_eq_true, decide_eq_true_eq, decide_eq_true_eq] at h
  exact h
theorem ri_rg1 (hg : Gl X "range") (hm : X.mg "range" = none) (ha : PE X a (TD P W ia)) (hs : starEach [a] X.env = [(false, eval a X.env)]) : PI X tg (.Call (.Name "range" p) [a] [] pos) (TIs P W (.rg1 ia)) := by
  refine PI.imp (pi_range1 hg hm (pa_cons ha pa_nil hs) hs) fun σ H R' ⟨ρ, S, r, q⟩ => ?_
  refine ts_bind (f := rg1D) r q fun x H1 d s1 r1 y1 q1 => ?_
  cases d with
  | int i =>
    cases y1
    by_cases c : rgOk i = true
    · rw [show rg1D (.int i) = .ok (rgD 0 i) from if_pos c] at q1
      obtain ⟨c1, c2⟩ := rgOk_iff c
      have w : Walk P.K S H1 (Itr 0 (i - 0).toNat) (rgD 0 i) := walk_rg
      rw [Int.sub_zero] at w
      exact ⟨i, rfl, c1, c2, q1 _ _ (Same.refl _) w⟩
    · rw [show rg1D (.int i) = .bad from if_neg c] at q1
      exact q1.elim
  | _ => exact q1.elim
theorem ri_rg2 (hg : Gl X "range") (hm : X.mg "range" = none) (ha : PE X a (TD P W ia)) (hb : PE X b (TD P W ib)) (hs : starEach [a, b] X.env = [(false, eval a X.env), (false, eval b X.env)]) (hs2 : starEach [b] X.env = [(false, eval b X.env)]) : PI X tg (.Call (.Name "range" p) [a, b] [] pos) (TIs P W (.rg2 ia ib)) := by
  refine PI.imp (pi_range2 hg hm (pa_cons ha (pa_cons hb pa_nil hs2) (by rw [hs, hs2])) hs hs2) fun σ H R' ⟨ρ, S, r, q⟩ => ?_
  refine ts_bind (f := fun x => (ev ib ρ).bind (rg2D x)) r q fun x H1 d s1 r1 y1 q1 => ?_
  refine ts_bind (f := rg2D d) r1 q1 fun y H2 e s2 r2 y2 q2 => ?_
  cases d with
  | int i =>
    cases e with
    | int j =>
      cases y1
      cases y2
      by_cases c : (rgOk i && rgOk j) = true
      · rw [show rg2D (.int i) (.int j) = .ok (rgD i j) from if_pos c] at q2
        rw [Bool.and_eq_true] at c
        obtain ⟨c1, c2⟩ := rgOk_iff c.1
        obtain ⟨c3, c4⟩ := rgOk_iff c.2
        exact ⟨i, j, rfl, ⟨c1, c2, c3, c4⟩, q2 _ _ (Same.refl _) walk_rg⟩
      · rw [show rg2D (.int i) (.int j) = .bad from if_neg c] at q2
        exact q2.elim
    | _ => exact q2.elim
  | _ => cases e <;> exact q2.elim
theorem ri_zip {elts : List Expr} {kk : Nat} {tpos : Pos} (hK : P.K = X.K) (hg : Gl X "zip") (hm : X.mg "zip" = none) (ha : PE X a (TD P W ia)) (hb : PE X b (TD P W ib)) (hs : starEach [a, b] X.env = (false, eval a X.env) :: starEach [b] X.env) (hs2 : starEach [b] X.env = (false, eval b X.env) :: starEach [] X.env) :
    PI X (.Tuple elts kk tpos) (.Call (.Name "zip" p) [a, b] [] pos) (TIs P W (.zip ia ib)) := by
  refine PI.imp (RZ.pi_zipA hg hm (pa_cons ha (pa_cons hb pa_nil hs2) hs) hs (by rw [hs2]; rfl)) fun σ H R' ⟨ρ, S, r, q⟩ => ?_
  rw [← hK]
  refine ts_bind (f := fun x => (ev ib ρ).bind fun y => zipD x y) r q fun x H1 d s1 r1 y1 q1 => ?_
  refine ts_bind (f := fun y => zipD d y) r1 q1 fun y H2 e s2 r2 y2 q2 => ?_
  cases d with
  | list ds =>
    cases e with
    | list es =>
      cases y1 with
      | lst h1 h2 =>
        cases y2 with
        | lst g1 g2 => exact ⟨_, _, _, _, rfl, .inl ⟨sql_mono (hid_full.trans s2) h1, sql_mono hid_full g1, q2 _ _ (Same.refl _) (walk_zipL (sql_mono (hid_same s2) h1) (h2.mono (hid_same s2)) g1 g2)⟩⟩
    | _ => exact q2.elim
  | tuple ds =>
    cases e with
    | tuple es =>
      cases y1 with
      | tup h1 h2 =>
        cases y2 with
        | tup g1 g2 => exact ⟨_, _, _, _, rfl, .inr ⟨sqt_mono (hid_full.trans s2) h1, sqt_mono hid_full g1, q2 _ _ (Same.refl _) (walk_zipT (sqt_mono (hid_same s2) h1) (h2.mono (hid_same s2)) g1 g2)⟩⟩
    | _ => exact q2.elim
  | _ => cases e <;> exact q2.elim
theorem ri_enum {elts : List Expr} {kk : Nat} {tpos : Pos} (hK : P.K = X.K) (hg : Gl X "enumerate") (hm : X.mg "enumerate" = none) (ha : PE X a (TD P W ia)) (hs : starEach [a] X.env = (false, eval a X.env) :: starEach [] X.env) :
    PI X (.Tuple elts kk tpos) (.Call (.Name "enumerate" p) [a] [] pos) (TIs P W (.enum ia)) := by
  refine PI.imp (pi_enum hg hm (pa_cons ha pa_nil hs) hs) fun σ H R' ⟨ρ, S, r, q⟩ => ?_
  rw [← hK]
  refine ts_bind (f := enumD) r q fun x H1 d s1 r1 y1 q1 => ?_
  cases d with
  | list ds =>
    cases y1 with
    | lst h1 h2 => exact ⟨_, _, rfl, sql_mono hid_full h1, q1 _ _ (Same.refl _) (walk_enum h1 h2)⟩
  | _ => exact q1.elim
end
end Dy

namespace Dy
open PySem PySem.Spec PyProof.Rows L2
open Classical
theorem wipe_at {σ : L2.St} {i : Nat} : ∀ {vs : List Nat}, i ∈ vs → i < σ.length → (wipe σ vs)[i]? = some none
  | v :: vs, h, hl => by
    unfold wipe
    by_cases e : v = i
    · subst e
      exact set_get_self (by rw [wipe_length]; exact hl)
    · rw [set_get_ne e]
      rcases List.mem_cons.mp h with z | z
      · exact absurd z.symm e
      · exact wipe_at z hl
theorem wipe_eq {σ σ' : L2.St} {l vs : List Nat} (o : SameOff l σ σ') (h : ∀ i ∈ l, i ∈ vs) : wipe σ' vs = wipe σ vs := by
  apply List.ext_getElem?
  intro i
  by_cases hi : i ∈ vs
  · by_cases hl : i < σ.length
    · rw [wipe_at hi hl, wipe_at hi (by rw [o.1]; exact hl)]
    · rw [List.getElem?_eq_none (by rw [wipe_length, o.1]; omega), List.getElem?_eq_none (by rw [wipe_length]; omega)]
  · rw [wipe_out hi, wipe_out hi]
    exact o.2 i fun z => hi (h i z)
theorem wipe_wipe (σ : L2.St) (vs : List Nat) : wipe (wipe σ vs) vs = wipe σ vs := by
  apply List.ext_getElem?
  intro i
  by_cases hi : i ∈ vs
  · by_cases hl : i < σ.length
    · rw [wipe_at hi hl, wipe_at hi (by rw [wipe_length]; exact hl)]
    · rw [List.getElem?_eq_none (by rw [wipe_length, wipe_length]; omega), List.getElem?_eq_none (by rw [wipe_length]; omega)]
  · rw [wipe_out hi]
/-- nothing may come out -/
abbrev W0 : WX := fun _ _ _ _ => False
theorem rd_rn {P : Pm} {W : WX} {S : Addr → Prop} {σ : L2.St} {H : Hp} {ρ : En} {r : R PyData} {Q : VK} (h0 : Rs P S σ H ρ) (h : RD P W S σ H r Q) (hl : ∀ d, r = .ok d → ∃ ds, d = .list ds) : RN P W S σ H r Q := by
  cases r with
  | ok d =>
    obtain ⟨ds, e⟩ := hl d rfl
    subst e
    intro a vs H' s n l k y
    have sub : ∀ b, S b → addS S a b := fun b q => .inl q
    exact h _ _ s (.lst (.inl (.inl (by rw [hid_neg (h0.notS n)]; exact l))) (y.mono (hid_sub sub)))
  | exc c p => exact h
  | bad => exact h
theorem td_tn {P : Pm} {W : WX} {e : E} (hl : ∀ ρ d, ev e ρ = .ok d → ∃ ds, d = .list ds) {σ : L2.St} {H : Hp} {Q : VK} : TD P W e σ H Q → TN P W e σ H Q := fun ⟨ρ, S, r, q⟩ => ⟨ρ, S, r, rd_rn r q (hl ρ)⟩
section
variable {X : Cx} {P : Pm} {W : WX}
/-- where a comprehension stands behind i items -/
structure LcAt (P : Pm) (φ : Nat → List Addr) (S : Addr → Prop) (σ : L2.St) (ρ : En) (H1 : Hp) (D : Addr) (t : Tg) (c e : E) (own : List Nat) (ds xs : List PyData) (i : Nat) (H : Hp) : Prop where
  rs : RsF P φ (addS S D) σ H ρ
  s1 : Same H1 H
  sh : Same (hid S H1) (hid (addS S D) H)
  le : i ≤ ds.length
  ex : ∃ acc accd r, H D = some (.lst acc) ∧ RpAll P.K (hid (addS S D) H) acc accd ∧ accd.length ≤ i ∧ lcF t (ev c) (ev e) (wipeE ρ own) (ds.drop i) = some r ∧ xs = accd ++ r
theorem LcAt.grow {φ : Nat → List Addr} {S : Addr → Prop} {σ : L2.St} {ρ : En} {H1 : Hp} {D : Addr} {t : Tg} {c e : E} {own : List Nat} {ds xs : List PyData} {i : Nat} {H H' : Hp} (h : LcAt P φ S σ ρ H1 D t c e own ds xs i H) (s : Same H H') : LcAt P φ S σ ρ H1 D t c e own ds xs i H' := by
  obtain ⟨acc, accd, r, a1, a2, a3, a4, a5⟩ := h.ex
  exact ⟨h.rs.grow s, h.s1.trans s, h.sh.trans (hid_same s), h.le, acc, accd, r, s _ _ a1, a2.mono (hid_same s), a3, a4, a5⟩
theorem lc_tLc {t : Tg} {s : Sr} {c e : E} {vs : List Nat} (ho : ∀ i ∈ tv t, i ∈ vs) {σ : L2.St} {H : Hp} {Q : VK} (h : TN P W (.lc t s c vs e) σ H Q) : tLc (TIs P W s) (GT P t) (TTt P W0 c) (TD P W0 e) vs σ H Q := by
  obtain ⟨ρ, S, r, q⟩ := h
  refine ⟨ρ, S, r, ?_⟩
  have q : RN P W S σ H ((evr s ρ).bind fun ds => if ds.length < sizeLine then lcR (lcF t (ev c) (ev e) (wipeE ρ vs) ds) else .bad) Q := q
  cases z : evr s ρ with
  | ok ds =>
    rw [z] at q
    have q : RN P W S σ H (if ds.length < sizeLine then lcR (lcF t (ev c) (ev e) (wipeE ρ vs) ds) else .bad) Q := q
    by_cases hl : ds.length < sizeLine
    · rw [if_pos hl] at q
      cases z2 : lcF t (ev c) (ev e) (wipeE ρ vs) ds with
      | some xs =>
        rw [z2] at q
        have q : RN P W S σ H (.ok (.list xs)) Q := q
        intro J H1 s1 w D hD
        obtain ⟨φ, r1⟩ := r.grow s1
        have hn : ∀ (i : Nat) (t : MT), ρ[i]? = some (.own t) → D ∉ φ i := fun i t h1 h2 => (r1.mem h1 D h2).2.2 hD
        have hF : ¬ P.F D := fun z => r1.al D (r.fs D z) hD
        refine ⟨fun i m H => m = ds.length - i ∧ LcAt P φ S σ ρ H1 D t c e vs ds xs i H, ⟨_, rfl, r1.hide hD, same_new hD, ?_, Nat.zero_le _, [], [], xs, upd_same, .nil, Nat.le_refl _, z2, rfl⟩, ?_⟩
        · rw [hid_new hD]; exact Same.refl _
        rintro i m H2 ⟨rfl, L⟩
        by_cases hlt : i < ds.length
        · refine .inr ⟨w.go i _ H2 hlt L.sh, LcAt P φ S σ ρ H1 D t c e vs ds xs (i + 1), fun H' L' => ⟨ds.length - (i + 1), by omega, rfl, L'⟩, fun x H3 y => ?_⟩
          obtain ⟨s3, d, g1, g2⟩ := w.yld i _ H2 x H3 hlt L.rs.al L.sh y
          have L3 := L.grow s3
          obtain ⟨acc, accd, rr, a1, a2, a3, a4, a5⟩ := L3.ex
          have hd : ds.drop i = d :: ds.drop (i + 1) := by
            have e1 : ds[i] = d := by
              have := List.getElem?_eq_getElem hlt
              rw [this] at g1
              exact Option.some.inj g1
            rw [List.drop_eq_getElem_cons hlt, e1]
          rw [hd] at a4
          unfold lcF at a4
          refine ⟨wipeE ρ vs, addS S D, d, ⟨φ, L3.rs.wipe _⟩, g2, ?_⟩
          cases b1 : tset t d (wipeE ρ vs) with
          | ok ρ1 =>
            rw [b1] at a4
            intro σ2 r2 o2
            refine ⟨by rw [wipe_eq o2 ho, wipe_wipe], ρ1, addS S D, r2, ?_⟩
            simp only [] at a4
            cases b2 : ev c ρ1 with
            | ok b =>
              rw [b2] at a4
              cases b with
              | bool b =>
                intro H4 s4
                cases b with
                | true =>
                  simp only [if_true] at a4 ⊢
                  refine ⟨ρ1, addS S D, r2.grow s4, ?_⟩
                  cases b3 : ev e ρ1 with
                  | ok xd =>
                    rw [b3] at a4
                    intro v H5 s5 y5
                    have L5 := L3.grow (s4.trans s5)
                    have s35 := s4.trans s5
                    simp only [] at a4
                    cases b4 : lcF t (ev c) (ev e) (wipeE ρ vs) (ds.drop (i + 1)) with
                    | some r' =>
                      rw [b4] at a4
                      have a4 : some (xd :: r') = some rr := a4
                      cases a4
                      have hl2 := a2.len
                      refine ⟨acc, s35 _ _ a1, by omega, L5.rs.back (.inr rfl) hF hn, fun b o q => ?_, ?_, by omega, acc ++ [v], accd ++ [xd], r', upd_same, ?_, ?_, b4, ?_⟩
                      · rw [upd_ne (ne_of_none q hD)]; exact L5.s1 b o q
                      · rw [hid_upd (.inr rfl)]; exact L5.sh
                      · rw [hid_upd (.inr rfl)]; exact (a2.mono (hid_same s35)).append (.cons y5 .nil)
                      · rw [List.length_append, List.length_singleton]; omega
                      · rw [a5, List.append_assoc]; rfl
                    | none => rw [b4] at a4; cases a4
                  | exc c p => rw [b3] at a4; cases a4
                  | bad => rw [b3] at a4; cases a4
                | false =>
                  simp only [Bool.false_eq_true, if_false] at a4 ⊢
                  have L4 := L3.grow s4
                  exact ⟨L4.rs, L4.s1, L4.sh, by omega, acc, accd, rr, s4 _ _ a1, a2.mono (hid_same s4), by omega, a4, a5⟩
              | _ => cases a4
            | exc c p => rw [b2] at a4; cases a4
            | bad => rw [b2] at a4; cases a4
          | exc c p => rw [b1] at a4; cases a4
          | bad => rw [b1] at a4; cases a4
        · have e : i = ds.length := by have := L.le; omega
          subst e
          refine .inl ⟨w.stop _ _ H2 (Nat.le_refl _) L.sh, ?_⟩
          obtain ⟨acc, accd, rr, a1, a2, a3, a4, a5⟩ := L.ex
          rw [List.drop_length] at a4
          cases a4
          rw [List.append_nil] at a5
          subst a5
          exact q D acc H2 (s1.trans L.s1) (s1.free hD) a1 ((hid_same s1).trans L.sh) a2
      | none => rw [z2] at q; exact q.elim
    · rw [if_neg hl] at q; exact q.elim
  | exc c p => rw [z] at q; exact q
  | bad => rw [z] at q; exact q

theorem rn_lc {elt tg iter : Expr} {ifs : List Expr} {scope : Scope} {own : List (Str × Nat)} {pos : Pos} {t : Tg} {s : Sr} {c e : E} (hc : X.calm = true) (hN : X.N.Nodup) (hi : PI X tg iter (TIs P W s)) (ok : BlkOk X.N X.env.scope scope own)
    (hg : ∀ (s : Shared) (H : Hp) (C : Addr) (cl : List (Str × Addr)) (fp : List Addr), PG (X.blk s H scope (compEnvC scope cl C X.env) fp) tg (GT P t)) (ht : ∀ (s : Shared) (H : Hp) (C : Addr) (cl : List (Str × Addr)) (fp : List Addr), PTs (X.blk s H scope (compEnvC scope cl C X.env) fp) ifs (TTt P W0 c))
    (he : ∀ (s : Shared) (H : Hp) (C : Addr) (cl : List (Str × Addr)) (fp : List Addr), PE (X.blk s H scope (compEnvC scope cl C X.env) fp) elt (TD P W0 e)) (ho : ∀ i ∈ tv t, i ∈ own.map (·.2)) (hs : ∀ x, foldedSetIterable iter X.env x = pure x) :
    PE X (.ListComp elt [⟨tg, iter, ifs, 0⟩] scope pos) (TN P W (.lc t s c (own.map (·.2)) e)) :=
  PE.imp (pe_lc hc hN hi ok hg ht he hs) fun σ H Q => lc_tLc ho
end
end Dy

namespace Dy
open PySem PySem.Spec PyProof.Rows L2
open Classical
/-- where a flow ends -/
def FD (P : Pm) (W : WX) (D : Ends) (S : Addr → Prop) (H : Hp) : F → Prop
  | .nx ρ => ∀ σ' H' S', Rs P S' σ' H' ρ → Same (hid S H) (hid S' H') → D.nx σ' H'
  | .bk ρ => ∀ σ' H' S', Rs P S' σ' H' ρ → Same (hid S H) (hid S' H') → D.bk σ' H'
  | .ct ρ => ∀ σ' H' S', Rs P S' σ' H' ρ → Same (hid S H) (hid S' H') → D.ct σ' H'
  | .rt d => ∀ v H', Same P.H0 H' → Rp P.K (hid P.F H') v d → D.rt v H'
  | .rtn t => ∀ v fp H', Same P.H0 H' → (∀ b ∈ fp, P.H0 b = none) → Same (hid P.F P.H0) (hid (addL P.F fp) H') → Ow P.K P.F (addL P.F fp) H' v t fp → D.rt v H'
  | .exc c p ρ => ∀ C o σ' H' S', P.mg c = some (.ref C) → Rs P S' σ' H' ρ → Same (hid S H) (hid S' H') → Pay P.K (hid S' H') o p → W (.ref C) o σ' H'
  | .bad => False
def TSt (P : Pm) (W : WX) (s : S) : TS := fun D σ H => ∃ ρ Z, Rs P Z σ H ρ ∧ FD P W D Z H (run s ρ)
def TSs (P : Pm) (W : WX) (l : Ss) : TS := fun D σ H => ∃ ρ Z, Rs P Z σ H ρ ∧ FD P W D Z H (runs l ρ)
section
variable {P : Pm} {W : WX} {D : Ends} {S S1 : Addr → Prop} {σ : L2.St} {H H1 : Hp} {ρ : En}
theorem FD.to {f : F} (h : FD P W D S H f) (s : Same (hid S H) (hid S1 H1)) : FD P W D S1 H1 f := by
  cases f with
  | nx ρ => exact fun σ' H' S' r y => h σ' H' S' r (s.trans y)
  | bk ρ => exact fun σ' H' S' r y => h σ' H' S' r (s.trans y)
  | ct ρ => exact fun σ' H' S' r y => h σ' H' S' r (s.trans y)
  | rt d => exact h
  | rtn t => exact h
  | exc c p ρ => exact fun C o σ' H' S' m r y z => h C o σ' H' S' m r (s.trans y) z
  | bad => exact h
theorem FD.xw {c : Str} {p : Option (Str × PyData)} (h : FD P W D S H (.exc c p ρ)) (r : Rs P S σ H ρ) : XW P W S σ H c p := fun C o H' m s y => h C o σ H' S m (r.grow s) (hid_same s) y
theorem fd_rd {r : R PyData} {k : PyData → F} {Q : VK} (r0 : Rs P S σ H ρ) (h : FD P W D S H (r.on ρ k)) (q : ∀ v H' d, Same H H' → Rs P S σ H' ρ → Rp P.K (hid S H') v d → FD P W D S H' (k d) → Q v H') : RD P W S σ H r Q := by
  cases r with
  | ok d => exact fun v H' s y => q v H' d s (r0.grow s) y (FD.to (f := k d) h (hid_same s))
  | exc c p => exact FD.xw (ρ := ρ) h r0
  | bad => exact h
theorem fd_rb {r : R PyData} {k : PyData → F} {Q : VK} (r0 : Rs P S σ H ρ) (h : FD P W D S H (r.on ρ k)) (q : ∀ v H' d, Same H H' → Rs P S σ H' ρ → Bp P S H' v d → FD P W D S H' (k d) → Q v H') : RB P W S σ H r Q := by
  cases r with
  | ok d => exact fun v H' s y => q v H' d s (r0.grow s) y (FD.to (f := k d) h (hid_same s))
  | exc c p => exact FD.xw (ρ := ρ) h r0
  | bad => exact h
theorem fd_rt {r : R PyData} {a b : F} {Q : Bool → Hp → Prop} (r0 : Rs P S σ H ρ) (h : FD P W D S H (r.on ρ fun x => ifF x a b)) (q : ∀ c H', Same H H' → Rs P S σ H' ρ → FD P W D S H' (if c = true then a else b) → Q c H') : RT P W S σ H r Q := by
  cases r with
  | ok d =>
    cases d with
    | bool c => exact fun H' s => q c H' s (r0.grow s) (by
        cases c with
        | true => rw [if_pos rfl]; exact FD.to (f := a) h (hid_same s)
        | false => rw [if_neg Bool.false_ne_true]; exact FD.to (f := b) h (hid_same s))
    | _ => exact h.elim
  | exc c p => exact FD.xw (ρ := ρ) h r0
  | bad => exact h
theorem fd_then {D' : Ends} {f : F} {k : En → F} (h : FD P W D S H (f.then_ k)) (hn : ∀ ρ σ' H' S', FD P W D S H (k ρ) → Rs P S' σ' H' ρ → Same (hid S H) (hid S' H') → D'.nx σ' H') (e1 : D'.rt = D.rt) (e2 : D'.bk = D.bk) (e3 : D'.ct = D.ct) : FD P W D' S H f := by
  cases f with
  | nx ρ => exact fun σ' H' S' r y => hn ρ σ' H' S' h r y
  | bk ρ => exact fun σ' H' S' r y => by rw [e2]; exact h σ' H' S' r y
  | ct ρ => exact fun σ' H' S' r y => by rw [e3]; exact h σ' H' S' r y
  | rt d => exact fun v H' s y => by rw [e1]; exact h v H' s y
  | rtn t => exact fun v fp H' s n k y => by rw [e1]; exact h v fp H' s n k y
  | exc c p ρ => exact h
  | bad => exact h
theorem fd_loop {N : L2.St → Hp → Prop} {f : F} {k : En → F} (h : FD P W D S H (f.loop k)) (hn : ∀ ρ σ' H' S', FD P W D S H (k ρ) → Rs P S' σ' H' ρ → Same (hid S H) (hid S' H') → N σ' H') : FD P W { D with nx := N, ct := N, bk := D.nx } S H f := by
  cases f with
  | nx ρ => exact fun σ' H' S' r y => hn ρ σ' H' S' h r y
  | bk ρ => exact h
  | ct ρ => exact fun σ' H' S' r y => hn ρ σ' H' S' h r y
  | rt d => exact h
  | rtn t => exact h
  | exc c p ρ => exact h
  | bad => exact h
end
section
variable {X : Cx} {P : Pm} {W : WX} {e : Expr} {ie : E} {pos : Pos} {st : Stmt} {sts : List Stmt} {s : S} {l : Ss}
theorem rss_nil : PSs X [] (TSs P W .nil) := PSs.imp pss_nil fun D σ H ⟨ρ, S, r, q⟩ => q σ H S r (Same.refl _)
theorem rss_cons (h1 : PS X st (TSt P W s)) (h2 : PSs X sts (TSs P W l)) : PSs X (st :: sts) (TSs P W (.cons s l)) :=
  PSs.imp (pss_cons h1 h2) fun D σ H ⟨ρ, S, r, q⟩ => ⟨ρ, S, r, fd_then q (fun ρ' σ' H' S' q' r' y => ⟨ρ', S', r', q'.to y⟩) rfl rfl rfl⟩
theorem rs_pass : PS X (.Pass pos) (TSt P W .pass) := PS.imp ps_pass fun D σ H ⟨ρ, S, r, q⟩ => q σ H S r (Same.refl _)
theorem rs_brk : PS X (.Break pos) (TSt P W .brk) := PS.imp ps_break fun D σ H ⟨ρ, S, r, q⟩ => q σ H S r (Same.refl _)
theorem rs_cnt : PS X (.Continue pos) (TSt P W .cnt) := PS.imp ps_continue fun D σ H ⟨ρ, S, r, q⟩ => q σ H S r (Same.refl _)
theorem rs_never : PS X st (TSt P W .never) := PS.imp ps_never fun D σ H ⟨ρ, S, r, q⟩ => q
theorem rs_doc {x j pos pos'} : PS X (.Expr (.Constant (.str x) j pos) pos') (TSt P W .pass) := PS.imp ps_doc fun D σ H ⟨ρ, S, r, q⟩ => q σ H S r (Same.refl _)
theorem rs_esc {v : List Nat} (h : PS X st (TSt P W s)) : PS X st (TSt P W (.esc v s)) := PS.imp h fun D σ H ⟨ρ, S, r, q⟩ => by
  obtain ⟨S', h1, r'⟩ := r.esc v
  exact ⟨_, S', r', FD.to (f := run s (escE ρ v)) q (hid_sub h1)⟩
theorem rs_set {i : Nat} {x : Str} {pos' : Pos} (hN : X.N.Nodup) (hi : X.N[i]? = some x) (hx : Loc X.env.scope x) (he : PE X e (TD P W ie)) (hs : swapsWith e (some (.Name x pos')) pos.line X.env = pure false) (hf : X.fn x = true ∨ X.env.scope.names.lookup x = some .local) :
    PS X (.Assign [.Name x pos'] e pos) (TSt P W (.set i ie)) :=
  PS.imp (ps_set hN hi hx he hs hf) fun D σ H ⟨ρ, S, r, q⟩ => ⟨ρ, S, r, fd_rd r q fun v H' d s r' y q' => q' _ _ S (r'.put y) (Same.refl _)⟩
/-- name = something new, the name's own -/
theorem rm_put {i : Nat} {n : NE} {D : Ends} {S : Addr → Prop} {σ : L2.St} {H : Hp} {ρ : En} (r : Rs P S σ H ρ) (q : FD P W D S H (run (.setN i n) ρ)) : RM P W S σ H (evn n ρ) fun x H1 => gName i x σ H1 D.nx := by
  have q : FD P W D S H ((evn n ρ).on ρ (newF i ρ)) := q
  cases z : evn n ρ with
  | ok t =>
    rw [z] at q
    have q : FD P W D S H (.nx (ρ.set i (mkS t))) := q
    intro v fp H' s hn k y
    cases t with
    | dat d =>
      cases y with
      | dat y => rw [addL_nil] at y k; exact q _ _ S ((r.grow s).put y) k
    | fl ds => exact q _ _ _ (r.putNew s hn k y) k
    | lst l => exact q _ _ _ (r.putNew s hn k y) k
    | tup l => exact q _ _ _ (r.putNew s hn k y) k
  | exc c p => rw [z] at q; exact FD.xw q r
  | bad => rw [z] at q; exact q
theorem rs_setN {i : Nat} {n : NE} {x : Str} {pos' : Pos} (hN : X.N.Nodup) (hi : X.N[i]? = some x) (hx : Loc X.env.scope x) (he : PE X e (TM P W n)) (hs : swapsWith e (some (.Name x pos')) pos.line X.env = pure false) (hf : X.fn x = true ∨ X.env.scope.names.lookup x = some .local) :
    PS X (.Assign [.Name x pos'] e pos) (TSt P W (.setN i n)) :=
  PS.imp (ps_set hN hi hx he hs hf) fun D σ H ⟨ρ, S, r, q⟩ => ⟨ρ, S, r, rm_put r q⟩
/-- what is new here is new to the caller -/
theorem new_out {S : Addr → Prop} {σ : L2.St} {H H' : Hp} {ρ : En} {v : V} {t : MT} {fp : List Addr} (r : Rs P S σ H ρ) (s : Same H H') (hn : ∀ b ∈ fp, H b = none) (y : Ow P.K P.F (addL S fp) H' v t fp) :
    Same P.H0 H' ∧ (∀ b ∈ fp, P.H0 b = none) ∧ Same (hid P.F P.H0) (hid (addL P.F fp) H') ∧ Ow P.K P.F (addL P.F fp) H' v t fp := by
  have n0 : ∀ b ∈ fp, P.H0 b = none := fun b hb => r.same.free (hn b hb)
  refine ⟨r.same.trans s, n0, fun b o e => ?_, Ow.imp (hid_sub fun a h => h.elim (fun h => .inl (r.fs a h)) .inr) y (fun b hb => .inr hb) fun _ _ _ e => e⟩
  obtain ⟨h1, h2⟩ := hid_some e
  rw [hid_neg fun z => z.elim h1 fun z => by rw [n0 b z] at h2; cases h2]
  exact (r.same.trans s) b o h2
theorem rs_rtn {n : NE} (he : PE X e (TM P W n)) : PS X (.Return (some e) pos) (TSt P W (.rtn n)) :=
  PS.imp (ps_ret he) fun D σ H ⟨ρ, S, r, q⟩ => by
    refine ⟨ρ, S, r, ?_⟩
    have q : FD P W D S H ((evn n ρ).on ρ .rtn) := q
    cases z : evn n ρ with
    | ok t =>
      rw [z] at q
      have q : FD P W D S H (.rtn t) := q
      intro v fp H' s hn k y
      obtain ⟨h1, h2, h3, h4⟩ := new_out r s hn y
      exact q v fp H' h1 h2 h3 h4
    | exc c p => rw [z] at q; exact FD.xw q r
    | bad => rw [z] at q; exact q
theorem rs_rto {i : Nat} {x : Str} {px : Pos} (hN : X.N[i]? = some x) (hv : Vis X.env.scope x) (hd : (x == ("__debug__" : Str)) = false) (hcd : (x == ("__classdict__" : Str)) = false) : PS X (.Return (some (.Name x px)) pos) (TSt P W (.rto i)) :=
  PS.imp (ps_ret (pe_var hN hv hd hcd)) fun D σ H ⟨ρ, S, ⟨φ, r⟩, q⟩ => by
    have q : FD P W D S H (match ρ[i]? with
      | some (.own t) => .rtn t
      | _ => .bad) := q
    cases z : ρ[i]? with
    | none => rw [z] at q; exact q.elim
    | some sl =>
      rw [z] at q
      cases sl with
      | own t =>
        obtain ⟨v, h1, h2⟩ := r.ow i t z
        have n0 : ∀ b ∈ φ i, P.H0 b = none := fun b hb => by
          obtain ⟨g1, g2, _⟩ := h2.at_ b hb
          exact (r.nw b g1).elim (fun z => absurd z g2) id
        refine ⟨v, h1, q v (φ i) H r.same n0 (fun b o e => ?_) (Ow.imp (hid_sub fun a h => h.elim (r.fs a) fun h => (h2.at_ a h).1) h2 (fun b hb => .inr hb) fun _ _ _ e => e)⟩
        obtain ⟨g1, g2⟩ := hid_some e
        rw [hid_neg fun z => z.elim g1 fun z => by rw [n0 b z] at g2; cases g2]
        exact r.same b o g2
      | _ => exact q.elim
theorem rs_unp {tg : Expr} {t : Tg} (he : PE X e (TD P W ie)) (hg : PG X tg (GT P t)) (hs : swapsWithSole [tg] e pos.line X.env = pure false) (hw : swappedStores [tg] e X.env = pure none) (h1 : (assignEach [tg] X.env).map (·.2) = [assign tg X.env]) : PS X (.Assign [tg] e pos) (TSt P W (.unp t ie)) :=
  PS.imp (ps_asg he hg hs hw h1) fun D σ H ⟨ρ, S, r, q⟩ => ⟨ρ, S, r, fd_rd r q fun v H' d s r' y q' => ⟨ρ, S, d, r', y, by
    cases z : tset t d ρ with
    | ok ρ' => rw [z] at q'; exact fun σ' r2 _ => q' σ' H' S r2 (Same.refl _)
    | exc c p => rw [z] at q'; exact q'
    | bad => rw [z] at q'; exact q'⟩⟩
theorem rs_par {i j : Nat} {x y : Str} {a b : Expr} {ia ib : E} {px py pt : Pos} {kt k2 pt2} (hc : X.calm = true) (hN : X.N.Nodup) (hi : X.N[i]? = some x) (hj : X.N[j]? = some y) (hij : i ≠ j)
    (hx : X.env.scope.names.lookup x = some .local) (hy : X.env.scope.names.lookup y = some .local) (ha : PA X [a, b] (TAs P W (.cons ia (.cons ib .nil))))
    (hw : swappedStores [.Tuple [.Name x px, .Name y py] kt pt] (.Tuple [a, b] k2 pt2) X.env = pure (some [x, y]))
    (hs : swapsWithSole [.Tuple [.Name x px, .Name y py] kt pt] (.Tuple [a, b] k2 pt2) pos.line X.env = pure false) :
    PS X (.Assign [.Tuple [.Name x px, .Name y py] kt pt] (.Tuple [a, b] k2 pt2) pos) (TSt P W (.par i j ia ib)) :=
  PS.imp (ps_par hc hN hi hj hij hx hy ha hw hs) fun D σ H ⟨ρ, S, r, q⟩ => by
    refine ⟨ρ, S, r, ?_⟩
    have q : FD P W D S H ((evs (.cons ia (.cons ib .nil)) ρ).on ρ (parF i j ρ)) := q
    cases z : evs (.cons ia (.cons ib .nil)) ρ with
    | ok ds =>
      rw [z] at q
      have q : FD P W D S H (parF i j ρ ds) := q
      intro vs H' s y
      match ds, q, y with
      | [d1, d2], q, .cons y1 (.cons y2 .nil) => exact ⟨_, _, rfl, q _ H' S (((r.grow s).put y1).put y2) (hid_same s)⟩
    | exc c p => rw [z] at q; exact FD.xw q r
    | bad => rw [z] at q; exact q
theorem rs_drop (he : PE X e (TD P W ie)) (hs : swapsWith e none pos.line X.env = pure false) : PS X (.Expr e pos) (TSt P W (.drop ie)) :=
  PS.imp (ps_expr he hs) fun D σ H ⟨ρ, S, r, q⟩ => ⟨ρ, S, r, fd_rd r q fun v H' d s r' y q' => q' _ _ S r' (Same.refl _)⟩
theorem rs_ret (he : PE X e (TB P W ie)) : PS X (.Return (some e) pos) (TSt P W (.ret ie)) :=
  PS.imp (ps_ret he) fun D σ H ⟨ρ, S, r, q⟩ => ⟨ρ, S, r, fd_rb r q fun v H' d s r' y q' => q' v H' r'.same (y.rpF r'.fs)⟩
theorem rs_retN : PS X (.Return none pos) (TSt P W .retN) :=
  PS.imp ps_retN fun D σ H ⟨ρ, S, r, q⟩ => q .non H r.same .non
theorem rs_if {c : Expr} {a b : List Stmt} {ic : E} {ia ib : Ss} (hc : PT X c (TTt P W ic)) (ha : PSs X a (TSs P W ia)) (hb : PSs X b (TSs P W ib)) : PS X (.If c a b pos) (TSt P W (.if_ ic ia ib)) :=
  PS.imp (ps_if hc ha hb) fun D σ H ⟨ρ, S, r, q⟩ => ⟨ρ, S, r, fd_rt r q fun k H' s r' q' => by
    cases k with
    | true => rw [if_pos rfl] at q' ⊢; exact ⟨ρ, S, r', q'⟩
    | false => rw [if_neg Bool.false_ne_true] at q' ⊢; exact ⟨ρ, S, r', q'⟩⟩
theorem rs_for {tg iter : Expr} {body : List Stmt} {t : Tg} {sr : Sr} {ib : Ss} (hp : PassesOwn (model X.prog X.w) X.A X.env X.xe) (hc : X.calm = true) (hi : PI X tg iter (TIs P W sr)) (hg : PG X tg (GT P t)) (hb : PSs X body (TSs P W ib)) (hs : ∀ x, foldedSetIterable iter X.env x = pure x) :
    PS X (.For tg iter body [] pos) (TSt P W (.for_ t sr ib)) :=
  PS.imp (ps_for hp hc hi hg hb hs) fun D σ H ⟨ρ, S, r, q⟩ => by
    refine ⟨ρ, S, r, ?_⟩
    have q : FD P W D S H ((evr sr ρ).on ρ fun ds => forF t (runs ib) ds ρ) := q
    cases z : evr sr ρ with
    | ok ds =>
      rw [z] at q
      have q : FD P W D S H (forF t (runs ib) ds ρ) := q
      intro J H1 s1 w
      refine ⟨fun i m σ' H' => m = ds.length - i ∧ i ≤ ds.length ∧ ∃ ρi S', Rs P S' σ' H' ρi ∧ Same (hid S H1) (hid S' H') ∧ FD P W D S' H' (forF t (runs ib) (ds.drop i) ρi), ⟨_, rfl, Nat.zero_le _, ρ, S, r.grow s1, Same.refl _, q.to (hid_same s1)⟩, ?_⟩
      rintro i m σ2 H2 ⟨rfl, hle, ρi, S2, r2, k2, q2⟩
      by_cases hlt : i < ds.length
      · refine .inr ⟨w.go i _ H2 hlt k2, fun σ' H' => i + 1 ≤ ds.length ∧ ∃ ρi S', Rs P S' σ' H' ρi ∧ Same (hid S H1) (hid S' H') ∧ FD P W D S' H' (forF t (runs ib) (ds.drop (i + 1)) ρi), fun σ' H' h => ⟨ds.length - (i + 1), by omega, rfl, h⟩, fun x H3 y => ?_⟩
        obtain ⟨s3, d, g1, g2⟩ := w.yld i _ H2 x H3 hlt r2.al k2 y
        have hd : ds.drop i = d :: ds.drop (i + 1) := by
          have e1 : ds[i] = d := by
            have := List.getElem?_eq_getElem hlt
            rw [this] at g1
            exact Option.some.inj g1
          rw [List.drop_eq_getElem_cons hlt, e1]
        rw [hd] at q2
        unfold forF at q2
        refine ⟨ρi, S2, d, r2.grow s3, g2, ?_⟩
        cases b1 : tset t d ρi with
        | ok ρ1 =>
          rw [b1] at q2
          intro σ3 r3 _
          refine ⟨ρ1, S2, r3, fd_loop ((FD.to q2 (hid_same s3))) fun ρ' σ' H' S' q' r' k' => ⟨hlt, ρ', S', r', (k2.trans (hid_same s3)).trans k', q'.to k'⟩⟩
        | exc c p => rw [b1] at q2; exact q2
        | bad => rw [b1] at q2; exact q2
      · have e : i = ds.length := by omega
        subst e
        rw [List.drop_length] at q2
        exact .inl ⟨w.stop _ _ H2 (Nat.le_refl _) k2, q2 σ2 H2 S2 r2 (Same.refl _)⟩
    | exc c p => rw [z] at q; exact FD.xw q r
    | bad => rw [z] at q; exact q
theorem rs_whl {c : Expr} {body : List Stmt} {ic : E} {ib : Ss} (hp : PassesOwn (model X.prog X.w) X.A X.env X.xe) (hc : PT X c (TTt P W ic)) (hb : PSs X body (TSs P W ib)) : PS X (.While c body [] pos) (TSt P W (.whl ic ib)) :=
  PS.imp (ps_while hp hc hb) fun D σ H ⟨ρ, S, r, q⟩ => by
    have q : FD P W D S H (whlD (ev ic) (runs ib) ρ) := q
    have hnb : whlD (ev ic) (runs ib) ρ ≠ .bad := fun z => by rw [z] at q; exact q
    obtain ⟨n, h1, _⟩ := whlD_bad hnb
    refine ⟨fun m σ' H' => ∃ ρi S', Rs P S' σ' H' ρi ∧ FD P W D S' H' (whlF (ev ic) (runs ib) m ρi), ⟨n, ρ, S, r, by rw [h1]; exact q⟩, ?_⟩
    rintro m σ2 H2 ⟨ρi, S2, r2, q2⟩
    cases m with
    | zero => exact q2.elim
    | succ m =>
      unfold whlF at q2
      refine ⟨ρi, S2, r2, fd_rt r2 q2 fun k H' s r' q' => ?_⟩
      cases k with
      | true =>
        rw [if_pos rfl] at q' ⊢
        exact ⟨fun σ' H' => ∃ ρi S', Rs P S' σ' H' ρi ∧ FD P W D S' H' (whlF (ev ic) (runs ib) m ρi), fun σ' H' h => ⟨m, Nat.lt_succ_self m, h⟩, ρi, S2, r', fd_loop q' fun ρ' σ' H' S' q3 r3 k' => ⟨ρ', S', r3, q3.to k'⟩⟩
      | false =>
        rw [if_neg Bool.false_ne_true] at q' ⊢
        exact q' σ2 H' S2 r' (Same.refl _)
end
end Dy

namespace Dy
open PySem PySem.Spec PyProof.Rows L2
open Classical
section
variable {X : Cx} {P : Pm} {W : WX} {pos : Pos}
theorem re_var {i : Nat} {x : Str} (hN : X.N[i]? = some x) (hv : Vis X.env.scope x) (hd : (x == ("__debug__" : Str)) = false) (hcd : (x == ("__classdict__" : Str)) = false) : PE X (.Name x pos) (TD P W (.var i)) :=
  PE.imp (pe_var hN hv hd hcd) fun σ H Q ⟨ρ, S, r, q⟩ => by
    have q : RD P W S σ H (match ρ[i]? with
      | some (.val d) => .ok d
      | _ => .bad) Q := q
    cases z : ρ[i]? with
    | none => rw [z] at q; exact q.elim
    | some sl =>
      rw [z] at q
      cases sl with
      | val d =>
        obtain ⟨v, h1, h2⟩ := r.sl i d z
        exact ⟨v, h1, q v H (Same.refl H) h2⟩
      | _ => exact q.elim
theorem re_bor {i : Nat} {x : Str} (hN : X.N[i]? = some x) (hv : Vis X.env.scope x) (hd : (x == ("__debug__" : Str)) = false) (hcd : (x == ("__classdict__" : Str)) = false) : PE X (.Name x pos) (TB P W (.bor i)) :=
  PE.imp (pe_var hN hv hd hcd) fun σ H Q ⟨ρ, S, r, q⟩ => by
    have q : RB P W S σ H (match ρ[i]? with
      | some (.val d) => .ok d
      | some (.own (.fl ds)) => .ok (.list ds)
      | _ => .bad) Q := q
    cases z : ρ[i]? with
    | none => rw [z] at q; exact q.elim
    | some sl =>
      rw [z] at q
      cases sl with
      | val d =>
        obtain ⟨v, h1, h2⟩ := r.sl i d z
        exact ⟨v, h1, q v H (Same.refl H) (Bp.of h2 r.fs)⟩
      | own t =>
        cases t with
        | fl ds =>
          obtain ⟨a, vs, h1, h2, h3, h4, h5⟩ := r.flat z
          exact ⟨_, h1, q _ H (Same.refl H) ⟨a, vs, rfl, .inl (.inl (by rw [hid_neg h3]; exact h4)), h5⟩⟩
        | _ => exact q.elim
      | no => exact q.elim
theorem re_boc {i : Nat} {x : Str} (hN : X.N[i]? = some x) (hv : Vis X.env.scope x) (hd : (x == ("__debug__" : Str)) = false) (hcd : (x == ("__classdict__" : Str)) = false) : PE X (.Name x pos) (TC P W (.boc i)) :=
  PE.imp (pe_var hN hv hd hcd) fun σ H Q ⟨ρ, S, r, q⟩ => by
    have q : RC P W S σ H (match ρ[i]? with
      | some (.val d) => .ok d
      | some (.own t) => .ok t.d
      | _ => .bad) Q := q
    cases z : ρ[i]? with
    | none => rw [z] at q; exact q.elim
    | some sl =>
      rw [z] at q
      cases sl with
      | val d =>
        obtain ⟨v, h1, h2⟩ := r.sl i d z
        exact ⟨v, h1, q v H (Same.refl H) (h2.mono (hid_sub r.fs))⟩
      | own t =>
        obtain ⟨v, fp, h1, h2⟩ := r.ow i t z
        exact ⟨v, h1, q _ H (Same.refl H) (Ow.rp r.fs h2 fun b hb => (h2.at_ b hb).2.1)⟩
      | no => exact q.elim
/-- a value as it was borrowed or handed on -/
theorem re_tb {e : Expr} {ie : E} (h : PE X e (TD P W ie)) : PE X e (TB P W ie) := PE.imp h fun σ H Q => td_b
theorem re_cst {e : Expr} {v : V} {d : PyData} (h : PE X e (tC v)) (r : ∀ G, Rp P.K G v d) : PE X e (TD P W (.cst d)) :=
  PE.imp h fun σ H Q ⟨ρ, S, _, q⟩ => q v H (Same.refl H) (r _)
theorem re_int {i j} : PE X (.Constant (.int i) j pos) (TD P W (.cst (.int i))) := re_cst pe_int fun _ => .int i
theorem re_bl {i j} : PE X (.Constant (.bool i) j pos) (TD P W (.cst (.bool i))) := re_cst pe_bl fun _ => .bl i
theorem re_str {i j} : PE X (.Constant (.str i) j pos) (TD P W (.cst (.str i))) := re_cst pe_str fun _ => .str i
theorem re_non {j} : PE X (.Constant .none j pos) (TD P W (.cst .none)) := re_cst pe_non fun _ => .non
/-- a global that holds a datum -/
structure GOk (K : PySem.W.Frag) (mg : Str → Option Value) (x : Str) (d : PyData) : Prop where
  ex : ∃ v u, mg x = some u ∧ RelV v u ∧ ∀ G, Rp K G v d
theorem re_glob {x : Str} {d : PyData} (g : GOk X.K X.mg x d) (hK : P.K = X.K) (hg : Gl X x) (hd : (x == ("__debug__" : Str)) = false) : PE X (.Name x pos) (TD P W (.glo x d)) := by
  obtain ⟨v, u, h1, h2, h3⟩ := g.ex
  exact PE.imp (re_cst (d := d) (pe_glob hg h1 h2 hd) fun G => by rw [hK]; exact h3 G) fun σ H Q q => q
theorem fd_own {D : Ends} {S : Addr → Prop} {H : Hp} {ρ : En} {i : Nat} {k : List PyData → F} (q : FD P W D S H (ownAt ρ i k)) : ∃ ds, ρ[i]? = some (.own (.fl ds)) ∧ FD P W D S H (k ds) := by
  unfold ownAt at q
  cases z : ρ[i]? with
  | none => rw [z] at q; exact q.elim
  | some sl =>
    rw [z] at q
    cases sl with
    | own t =>
      cases t with
      | fl ds => exact ⟨ds, rfl, q⟩
      | _ => exact q.elim
    | _ => exact q.elim
theorem rs_app {i : Nat} {x : Str} {e : Expr} {ie : E} {px apos cpos : Pos} (hN : X.N[i]? = some x) (hv : Vis X.env.scope x) (hd : (x == ("__debug__" : Str)) = false) (hcd : (x == ("__classdict__" : Str)) = false) (he : PE X e (TD P W ie))
    (hbase : attributeBase (.Name x px) "append" X.env (eval (.Name x px) X.env) = eval (.Name x px) X.env)
    (hfew : ((backTo cpos (starEach [e] X.env)).all (fun x => !x.1) && (backToKw cpos (keywordEach [] X.env)).all (fun x => x.1.isSome)
      && decide ([e].length + ([] : List Keyword).length + (if ([] : List Keyword).isEmpty then 0 else 1) < 30)) = true)
    (hline : (apos.endLine == cpos.line) = true) (hs : starEach [e] X.env = (false, eval e X.env) :: starEach [] X.env)
    (hsw : swapsWith (.Call (.Attribute (.Name x px) "append" apos) [e] [] cpos) none pos.line X.env = pure false) :
    PS X (.Expr (.Call (.Attribute (.Name x px) "append" apos) [e] [] cpos) pos) (TSt P W (.app i ie)) :=
  PS.imp (ps_expr (pe_bm PySem.F.plainAttrs_list PySem.F.slot_list_append PySem.F.type_list_append mt_append (pe_var hN hv hd hcd) (pa_cons he pa_nil hs) hbase hfew hline hs rfl) hsw) fun D σ H ⟨ρ, S, r, q⟩ => by
    obtain ⟨ds, z, q⟩ := fd_own q
    obtain ⟨a, vs, h1, h2, h3, h4, h5⟩ := r.flat z
    refine ⟨_, h1, .inl ⟨rfl, vs, .inl (.inl h4)⟩, ρ, S, r, fd_rd r q fun v H' d s r' y q' => ?_⟩
    have q' : FD P W D S H' (if ds.length < sizeLine then .nx (ρ.set i (.own (.fl (ds ++ [d])))) else .bad) := q'
    by_cases c : ds.length < sizeLine
    · rw [if_pos c] at q'
      refine ⟨a, vs, v, rfl, rfl, s _ _ h4, by rw [h5.len]; exact c, ?_⟩
      refine q' σ _ S (r'.turn z h1 ((h5.mono (hid_same s)).append (.cons y .nil))) ?_
      rw [hid_upd h2]; exact Same.refl _
    · rw [if_neg c] at q'; exact q'.elim
theorem rs_clr {i : Nat} {x : Str} {px apos cpos : Pos} (hN : X.N[i]? = some x) (hv : Vis X.env.scope x) (hd : (x == ("__debug__" : Str)) = false) (hcd : (x == ("__classdict__" : Str)) = false)
    (hbase : attributeBase (.Name x px) "clear" X.env (eval (.Name x px) X.env) = eval (.Name x px) X.env) (hline : (apos.endLine == cpos.line) = true)
    (hsw : swapsWith (.Call (.Attribute (.Name x px) "clear" apos) [] [] cpos) none pos.line X.env = pure false) :
    PS X (.Expr (.Call (.Attribute (.Name x px) "clear" apos) [] [] cpos) pos) (TSt P W (.clr i)) :=
  PS.imp (ps_expr (pe_bm0 PySem.F.plainAttrs_list PySem.F.slot_list_clear PySem.F.type_list_clear mt_clear (pe_var hN hv hd hcd) hbase hline) hsw) fun D σ H ⟨ρ, S, r, q⟩ => by
    obtain ⟨ds, z, q⟩ := fd_own q
    obtain ⟨a, vs, h1, h2, h3, h4, h5⟩ := r.flat z
    refine ⟨_, h1, .inl ⟨rfl, vs, .inl (.inl h4)⟩, a, vs, rfl, rfl, h4, ?_⟩
    exact q σ _ S (r.turn z h1 .nil) (by rw [hid_upd h2]; exact Same.refl _)
theorem list_extendW (l : Addr) (items : Array Value) (n : Nat) (b : Addr) (items2 : Array Value) (n2 : Nat) (dd2 : Option Addr) (sl2 : Array (Option Value)) (hc0 : ¬(!items.isEmpty && Builtin.List.listTooLong (items.size + items2.size)) = true) (hc1 : items.size ≤ sizeLine) (hs2 : items.size + items2.size ≤ sizeLine + 1) :
    Meets (Builtin.«list.extend» ⟨[.ref l, .ref b], []⟩) (fun _ R s => s.heap.get? l = some { cls := .type "list", dict := none, data := .seq items n, slots := #[] } ∧ s.heap.get? b = some { cls := .type "list", dict := dd2, data := .seq items2 n2, slots := sl2 } ∧ R (.ok (.ret Value.none)) { s with heap := s.heap.update l (Obj.mapSeq fun x => x ++ items2), toks := s.toks }) :=
  .of_wp fun prog w A R s h => by
    obtain ⟨hp, g, d, tk, os⟩ := s; obtain ⟨hl, hb, h⟩ := h; have f1 := AutoSeq1.idx_int; have f2 := AutoSeq1.sub_tuple_tuple; have f3 := AutoSeq1.sub_list_list; have f4 := AutoSeq1.sub_tuple_list; have f5 := AutoSeq1.sub_list_tuple
    have hz : (items ++ items2).size ≤ sizeLine + 1 := by rw [Array.size_append]; exact hs2
    wp_walk using (wpAny_updateSeq hl rfl (hz := hc1) (_hz' := hz)), AutoSeq1.wpAny_loadPart' hl, AutoSeq1.wpAny_loadPart' hb; exact ⟨_, rfl, h⟩
def rExtA (K : PySem.W.Frag) : V → List V → Hp → VK → Prop := fun x vs H Q => ∃ l b xs zs, x = .ref l ∧ vs = [.ref b] ∧ H l = some (.lst xs) ∧ SqL K H b zs ∧ xs.length + zs.length ≤ sizeLine ∧ Q .non (upd H l (.lst (xs ++ zs)))
theorem mt_extA : MtM X "list.extend" (rExtA X.K) := by
  intro pins s σ H x vs v us Q I rx rv h
  obtain ⟨l, b, xs, zs, rfl, rfl, hH, hB, hz, q⟩ := h
  cases rx
  obtain ⟨u, rfl, ru⟩ := rv.one
  cases ru
  obtain ⟨z, its, n, r, hl, e⟩ := I.lstM hH
  obtain ⟨its2, r2, ⟨⟨cls2, dd2, data2, sl2⟩, n2, ho2, hc2, hdn2, hdt2⟩, hl2⟩ := I.list hB
  simp only at hc2 hdt2
  subst hc2 hdt2
  have h2 := r2.length
  have hsz : its.toArray.size + its2.toArray.size ≤ sizeLine := by rw [List.size_toArray, List.size_toArray]; omega
  have hlong : ¬ (!its.toArray.isEmpty && Builtin.List.listTooLong (its.toArray.size + its2.toArray.size)) = true := by
    rw [notLongL hsz, Bool.and_false]
    exact Bool.false_ne_true
  refine call_meets PySem.F.slot_list_extend ⟨_, e, rfl⟩ PySem.F.entry_list_extend (PySem.F.args_list_extend_2 _ _) (list_extendW l its.toArray n b its2.toArray n2 dd2 sl2 hlong (by rw [List.size_toArray]; omega) (by omega)) ⟨e, ho2, ?_⟩
  refine ⟨.non, _, I.lset (its' := its ++ its2) hH e (by simp) (r.append r2) ?_, rfl, q⟩
  rw [List.length_append]
  omega
theorem rs_ext {i : Nat} {x : Str} {e : Expr} {ie : E} {px apos cpos : Pos} (hK : P.K = X.K) (hN : X.N[i]? = some x) (hv : Vis X.env.scope x) (hd : (x == ("__debug__" : Str)) = false) (hcd : (x == ("__classdict__" : Str)) = false) (he : PE X e (TB P W ie))
    (hbase : attributeBase (.Name x px) "extend" X.env (eval (.Name x px) X.env) = eval (.Name x px) X.env)
    (hfew : ((backTo cpos (starEach [e] X.env)).all (fun x => !x.1) && (backToKw cpos (keywordEach [] X.env)).all (fun x => x.1.isSome)
      && decide ([e].length + ([] : List Keyword).length + (if ([] : List Keyword).isEmpty then 0 else 1) < 30)) = true)
    (hline : (apos.endLine == cpos.line) = true) (hs : starEach [e] X.env = (false, eval e X.env) :: starEach [] X.env)
    (hsw : swapsWith (.Call (.Attribute (.Name x px) "extend" apos) [e] [] cpos) none pos.line X.env = pure false) :
    PS X (.Expr (.Call (.Attribute (.Name x px) "extend" apos) [e] [] cpos) pos) (TSt P W (.ext i ie)) :=
  PS.imp (ps_expr (pe_bm PySem.F.plainAttrs_list PySem.F.slot_list_extend PySem.F.type_list_extend mt_extA (pe_var hN hv hd hcd) (pa_cons he pa_nil hs) hbase hfew hline hs rfl) hsw) fun D σ H ⟨ρ, S, r, q⟩ => by
    obtain ⟨ds, z, q⟩ := fd_own q
    obtain ⟨a, vs, h1, h2, h3, h4, h5⟩ := r.flat z
    refine ⟨_, h1, .inl ⟨rfl, vs, .inl (.inl h4)⟩, ρ, S, r, fd_rb r q fun v H' d s r' y q' => ?_⟩
    cases d with
    | list es =>
      have q' : FD P W D S H' (if ds.length + es.length ≤ sizeLine then .nx (ρ.set i (.own (.fl (ds ++ es)))) else .bad) := q'
      obtain ⟨b, us, e1, g1, g2⟩ := y.lst
      by_cases c : ds.length + es.length ≤ sizeLine
      · rw [if_pos c] at q'
        refine ⟨a, b, vs, us, rfl, by rw [e1], s _ _ h4, by rw [← hK]; exact g1, by rw [h5.len, g2.len]; exact c, ?_⟩
        refine q' σ _ S (r'.turn z h1 ((h5.mono (hid_same s)).append g2)) ?_
        rw [hid_upd h2]; exact Same.refl _
      · rw [if_neg c] at q'; exact q'.elim
    | _ => exact q'.elim
theorem rs_sti {i : Nat} {x : Str} {k e : Expr} {ik ie : E} {px spos : Pos} (hN : X.N[i]? = some x) (hv : Vis X.env.scope x) (hd : (x == ("__debug__" : Str)) = false) (hcd : (x == ("__classdict__" : Str)) = false) (he : PE X e (TD P W ie)) (hk : PE X k (TB P W ik))
    (ha : ∀ v, assign (.Subscript (.Name x px) k spos) X.env v = (do
      let ov ← holding [v] (eval (.Name x px) X.env)
      let iv ← holding [v, ov] (eval k X.env)
      standAt spos
      holding [v, ov, iv] (setItem ov iv v)
      release [v, ov, iv] []))
    (hs : swapsWithSole [.Subscript (.Name x px) k spos] e pos.line X.env = pure false) (hw : swappedStores [.Subscript (.Name x px) k spos] e X.env = pure none) (h1 : (assignEach [.Subscript (.Name x px) k spos] X.env).map (·.2) = [assign (.Subscript (.Name x px) k spos) X.env]) :
    PS X (.Assign [.Subscript (.Name x px) k spos] e pos) (TSt P W (.sti i ik ie)) :=
  PS.imp (ps_asg he (pg_sub (pe_var hN hv hd hcd) hk set_list ha) hs hw h1) fun D σ H ⟨ρ, S, r, q⟩ => ⟨ρ, S, r, fd_rd r q fun v H' d s r' y q' => by
    obtain ⟨ds, z, q'⟩ := fd_own q'
    obtain ⟨a, vs, h1, h2, h3, h4, h5⟩ := r'.flat z
    refine ⟨_, h1, ρ, S, r', fd_rb r' q' fun w H2 dk s2 r2 y2 q2 => ?_⟩
    cases dk with
    | int n =>
      have q2 : FD P W D S H2 (match ixN ds.length n with | some j => .nx (ρ.set i (.own (.fl (ds.set j d)))) | none => .bad) := q2
      cases c : ixN ds.length n with
      | none => rw [c] at q2; exact q2.elim
      | some j =>
        rw [c] at q2
        refine ⟨a, vs, n, j, rfl, y2.int, s2 _ _ h4, by rw [h5.len]; exact c, ?_⟩
        refine q2 σ _ S (r2.turn z h1 (RpAll.set (y.mono (hid_same s2)) j (h5.mono (hid_same s2)))) ?_
        rw [hid_upd h2]; exact Same.refl _
    | _ => exact q2.elim⟩
end
end Dy

namespace Dy
open PySem PySem.Spec PyProof.Rows L2
open Classical
section
variable {X : Cx} {P : Pm} {W : WX} {a b lo hi : Expr} {ia ib il ih : E} {pos p p2 : Pos}
abbrev poN {S : Addr → Prop} {σ : L2.St} {Q : VK} : Po P W S σ fun H r => RN P W S σ H r Q := po_n fun _ _ => trivial
theorem rn_add (hK : P.K = X.K) (ha : PE X a (TB P W ia)) (hb : PE X b (TB P W ib)) : PE X (.BinOp a .Add b pos) (TN P W (.op .add ia ib)) := by
  refine PE.imp (pe_op (op_o2 .add) ha hb) fun σ H Q ⟨ρ, S, r, q⟩ => ?_
  rw [← hK]
  refine tb_bind poN r q fun x H1 d s1 r1 y1 q1 => tb_bind poN r1 q1 fun y H2 e s2 r2 y2 q2 => ?_
  have hx := y1.mono s2
  cases d with
  | list ds => cases e with
    | list es =>
      have q : RN P W S σ H2 (if ds.length + es.length ≤ sizeLine then .ok (.list (ds ++ es)) else .bad) Q := q2
      by_cases c : ds.length + es.length ≤ sizeLine
      · rw [if_pos c] at q
        obtain ⟨a, vs, e1, h1, h2⟩ := hx.lst
        obtain ⟨b, us, e2, g1, g2⟩ := y2.lst
        exact .inr (.inr (.inl ⟨a, b, vs, us, e1, e2, h1, g1, by rw [h2.len, g2.len]; exact c, fun p n => rn_of (ρ := ρ) q (Same.refl _) n (h2.append g2)⟩))
      · rw [if_neg c] at q; exact q.elim
    | _ => exact q2.elim
  | int i => cases e <;> exact q2.elim
  | str i =>
    cases e with
    | str j =>
      have q : RN P W S σ H2 (if i.length + j.length ≤ sizeLine then .ok (.str (i ++ j)) else .bad) Q := q2
      by_cases c : i.length + j.length ≤ sizeLine
      · rw [if_pos c] at q; exact q.elim
      · rw [if_neg c] at q; exact q.elim
    | _ => exact q2.elim
  | tuple ds =>
    cases e with
    | tuple es =>
      have q : RN P W S σ H2 (if ds.length + es.length ≤ sizeLine then .ok (.tuple (ds ++ es)) else .bad) Q := q2
      by_cases c : ds.length + es.length ≤ sizeLine
      · rw [if_pos c] at q; exact q.elim
      · rw [if_neg c] at q; exact q.elim
    | _ => exact q2.elim
  | none => exact q2.elim
  | bool _ => exact q2.elim
  | dict _ => exact q2.elim
theorem vslcN {S : Addr → Prop} {σ : L2.St} {H : Hp} {ρ : En} {x : V} {d : PyData} {lo hi : Option Int} {Q : VK} (r : Rs P S σ H ρ) (hx : Bp P S H x d) (q : RN P W S σ H (slcD d lo hi) Q) : rSl P.K x lo hi H Q := by
  cases d with
  | list ds =>
    obtain ⟨a, vs, e1, h1, h2⟩ := hx.lst
    exact .inl ⟨a, vs, e1, h1, fun p n => rn_of (ρ := ρ) q (Same.refl _) n (h2.cut lo hi)⟩
  | str s =>
    have q : RN P W S σ H (if s.length ≤ sizeLine then .ok (.str (cutS s lo hi)) else .bad) Q := q
    by_cases l : s.length ≤ sizeLine
    · rw [if_pos l] at q; exact q.elim
    · rw [if_neg l] at q; exact q.elim
  | _ => exact q.elim
theorem rn_slN (hK : P.K = X.K) (ha : PE X a (TB P W ia)) : PE X (.Subscript a (.Slice none none none p2) pos) (TN P W (.slN ia)) := by
  refine PE.imp (pe_slice sl_all ha po_none po_none) fun σ H Q ⟨ρ, S, r, q⟩ => ?_
  rw [← hK]
  exact tb_bind poN r q fun x H1 d s1 r1 y1 q1 => vslcN r1 y1 q1
theorem rn_slL (hK : P.K = X.K) (ha : PE X a (TB P W ia)) (hl : PE X lo (TB P W il)) : PE X (.Subscript a (.Slice (some lo) none none p2) pos) (TN P W (.slL ia il)) := by
  refine PE.imp (pe_slice sl_all ha (po_some hl) po_none) fun σ H Q ⟨ρ, S, r, q⟩ => ?_
  rw [← hK]
  refine tb_bind poN r q fun x H1 d s1 r1 y1 q1 => tb_bind poN r1 q1 fun y H2 e s2 r2 y2 q2 => ?_
  obtain ⟨i, e1, q3⟩ := int_of poN y2 q2
  exact ⟨i, e1, vslcN r2 (y1.mono s2) q3⟩
theorem rn_slU (hK : P.K = X.K) (ha : PE X a (TB P W ia)) (hh : PE X hi (TB P W ih)) : PE X (.Subscript a (.Slice none (some hi) none p2) pos) (TN P W (.slU ia ih)) := by
  refine PE.imp (pe_slice sl_all ha po_none (po_some hh)) fun σ H Q ⟨ρ, S, r, q⟩ => ?_
  rw [← hK]
  refine tb_bind poN r q fun x H1 d s1 r1 y1 q1 => tb_bind poN r1 q1 fun y H2 e s2 r2 y2 q2 => ?_
  obtain ⟨i, e1, q3⟩ := int_of poN y2 q2
  exact ⟨i, e1, vslcN r2 (y1.mono s2) q3⟩
theorem rn_slB (hK : P.K = X.K) (ha : PE X a (TB P W ia)) (hl : PE X lo (TB P W il)) (hh : PE X hi (TB P W ih)) : PE X (.Subscript a (.Slice (some lo) (some hi) none p2) pos) (TN P W (.slB ia il ih)) := by
  refine PE.imp (pe_slice sl_all ha (po_some hl) (po_some hh)) fun σ H Q ⟨ρ, S, r, q⟩ => ?_
  rw [← hK]
  refine tb_bind poN r q fun x H1 d s1 r1 y1 q1 => tb_bind poN r1 q1 fun y H2 e s2 r2 y2 q2 => ?_
  obtain ⟨i, e1, q3⟩ := int_of poN y2 q2
  refine ⟨i, e1, tb_bind poN r2 q3 fun w H3 e' s3 r3 y3 q4 => ?_⟩
  obtain ⟨j, e2, q5⟩ := int_of poN y3 q4
  exact ⟨j, e2, vslcN r3 ((y1.mono s2).mono s3) q5⟩
theorem rn_rev {k : Nat} {p1 p3 p4 : Pos} (hK : P.K = X.K) (ha : PE X a (TB P W ia)) : PE X (.Subscript a (.Slice none none (some (.UnaryOp .USub (.Constant (.int 1) k p1) p3)) p4) pos) (TN P W (.rev ia)) := by
  refine PE.imp (pe_revL ha) fun σ H Q ⟨ρ, S, r, q⟩ => ?_
  rw [← hK]
  refine tb_bind poN r q fun x H1 d s1 r1 y1 q1 => ?_
  cases d with
  | list ds =>
    obtain ⟨a, vs, e1, h1, h2⟩ := y1.lst
    exact ⟨a, vs, e1, h1, fun p n => rn_of (ρ := ρ) q1 (Same.refl _) n h2.rev⟩
  | _ => exact q1.elim
theorem rn_list (hK : P.K = X.K) (hg : Gl X "list") (hm : X.mg "list" = none) (ha : PE X a (TB P W ia)) (he : starEach [a] X.env = (false, eval a X.env) :: starEach [] X.env) : PE X (.Call (.Name "list" p) [a] [] pos) (TN P W (.fn .list ia)) := by
  refine PE.imp (pe_callTy call_list_of hg hm boot_list (pa_cons ha pa_nil he) (by decide) (by decide) he rfl) fun σ H Q ⟨ρ, S, r, q⟩ => tb_bind poN r q fun x H1 d s1 r1 y1 q1 => ?_
  cases d with
  | list ds =>
    obtain ⟨a, vs, e, h1, h2⟩ := y1.lst
    exact ⟨a, vs, by rw [e], .inl (by rw [← hK]; exact h1), fun l n => rn_of (ρ := ρ) q1 (Same.refl _) n h2⟩
  | tuple ds =>
    obtain ⟨a, vs, e, h1, h2⟩ := y1.tup
    exact ⟨a, vs, by rw [e], .inr (by rw [← hK]; exact sqt_mono hid_full h1), fun l n => rn_of (ρ := ρ) q1 (Same.refl _) n h2⟩
  | _ => exact q1.elim
theorem rm_e {e : Expr} {a : E} (h : PE X e (TD P W a)) : PE X e (TM P W (.e a)) := PE.imp h fun σ H Q ⟨ρ, S, r, q⟩ => by
  have q : RM P W S σ H ((ev a ρ).bind fun d => .ok (.dat d)) Q := q
  refine ⟨ρ, S, r, ?_⟩
  cases z : ev a ρ with
  | ok d =>
    rw [z] at q
    exact fun v H' s y => q v [] H' s (fun b hb => by cases hb) (by rw [addL_nil]; exact hid_same s) (.dat (by rw [addL_nil]; exact y))
  | exc c p => rw [z] at q; exact q
  | bad => rw [z] at q; exact q
theorem rm_fl {e : Expr} {a : E} (h : PE X e (TN P W a)) : PE X e (TM P W (.fl a)) := PE.imp h fun σ H Q ⟨ρ, S, r, q⟩ => by
  have q : RM P W S σ H ((ev a ρ).bind flM) Q := q
  refine ⟨ρ, S, r, ?_⟩
  cases z : ev a ρ with
  | ok d =>
    rw [z] at q
    cases d with
    | list ds =>
      have q : RM P W S σ H (.ok (.fl ds)) Q := q
      intro a vs H' s n l k y
      rw [addS_L] at k y
      exact q (.ref a) [a] H' s (fun b hb => by rw [List.mem_singleton.mp hb]; exact n) k (.fl (.inr List.mem_cons_self) (fun z => r.al a (r.fs a z) n) l y)
    | _ => exact q.elim
  | exc c p => rw [z] at q; exact q
  | bad => rw [z] at q; exact q
theorem RM.mono {S : Addr → Prop} {σ : L2.St} {H H' : Hp} {r : R MT} {Q : VK} (h : RM P W S σ H r Q) (e : Same H H') : RM P W S σ H' r Q := by
  cases r with
  | ok t => exact fun v fp H2 s n k y => h v fp H2 (e.trans s) (fun b hb => e.free (n b hb)) ((hid_same e).trans k) y
  | exc c p => exact XW.mono h e
  | bad => exact h
theorem rms_nil : PA X [] (TMs P W .nil) := PA.imp pa_nil fun σ H Q ⟨ρ, S, r, q⟩ => q [] [] H (Same.refl H) (fun b hb => by cases hb) (by rw [addL_nil]; exact Same.refl _) .nil
theorem rms_cons {e : Expr} {es : List Expr} {n : NE} {l : NEs} (ha : PE X e (TM P W n)) (hr : PA X es (TMs P W l)) (hs : starEach (e :: es) X.env = (false, eval e X.env) :: starEach es X.env) : PA X (e :: es) (TMs P W (.cons n l)) := by
  refine PA.imp (pa_cons ha hr hs) fun σ H Q ⟨ρ, S, r, q⟩ => ?_
  have q : RMs P W S σ H ((evn n ρ).bind fun t => (evns l ρ).bind fun ts => .ok (.cons t ts)) Q := q
  refine ⟨ρ, S, r, ?_⟩
  cases z : evn n ρ with
  | ok t =>
    rw [z] at q
    have q : RMs P W S σ H ((evns l ρ).bind fun ts => .ok (.cons t ts)) Q := q
    intro v fp H1 s1 n1 k1 y1
    refine ⟨ρ, addL S fp, r.hideL s1 n1 (fun b hb => (y1.at_ b hb).2.2) k1, ?_⟩
    cases z2 : evns l ρ with
    | ok ts =>
      rw [z2] at q
      have q : RMs P W S σ H (.ok (.cons t ts)) Q := q
      intro vs fq H2 s2 n2 k2 y2
      rw [addL_app] at k2 y2
      refine q (v :: vs) (fp ++ fq) H2 (s1.trans s2) (fun b hb => (List.mem_append.mp hb).elim (n1 b) fun hb => s1.free (n2 b hb)) (k1.trans k2) (.cons (Ow.imp k2 y1 (fun b hb => .inr (List.mem_append_left _ hb)) fun b _ o e => s2 b o e) y2 fun b hb hc => (y1.at_ b hb).2.2 (n2 b hc))
    | exc c p =>
      rw [z2] at q
      exact fun C o H' m s y => q C o H' m (s1.trans s) (y.mono (hid_sub fun a h => .inl h))
    | bad => rw [z2] at q; exact q
  | exc c p => rw [z] at q; exact q
  | bad => rw [z] at q; exact q
theorem tms_bind {S : Addr → Prop} {σ : L2.St} {H : Hp} {ρ : En} {Q : VK} {l : NEs} {f : MTs → R MT} {Q' : List V → Hp → Prop} (r : Rs P S σ H ρ) (q : RM P W S σ H ((evns l ρ).bind f) Q) (k : ∀ vs fp H1 ts, Same H H1 → (∀ b ∈ fp, H b = none) → Same (hid S H) (hid (addL S fp) H1) → OwAll P.K P.F (addL S fp) H1 vs ts fp → RM P W S σ H (f ts) Q → Q' vs H1) : TMs P W l σ H Q' := by
  refine ⟨ρ, S, r, ?_⟩
  cases z : evns l ρ with
  | ok ts => rw [z] at q; exact fun vs fp H1 s n k1 y => k vs fp H1 ts s n k1 y q
  | exc c p => rw [z] at q; exact q
  | bad => rw [z] at q; exact q
theorem OwAll.len {K : PySem.W.Frag} {F S : Addr → Prop} {H : Hp} : ∀ {l : MTs} {vs : List V} {fp : List Addr}, OwAll K F S H vs l fp → vs.length = l.ds.length
  | .nil, _, _, h => by cases h; rfl
  | .cons t l, _, _, h => by
    cases h with
    | cons h1 h2 h3 =>
      show _ + 1 = l.ds.length + 1
      rw [OwAll.len h2]
theorem rm_lst {es : List Expr} {l : NEs} (h : PA X es (TMs P W l)) : PE X (.List es pos) (TM P W (.lst l)) :=
  PE.imp (pe_lst h) fun σ H Q ⟨ρ, S, r, q⟩ => tms_bind (f := fun ts => if ts.ds.length ≤ sizeLine then .ok (.lst ts) else .bad) r q fun vs fp H1 ts s n k y q1 => by
    by_cases c : ts.ds.length ≤ sizeLine
    · rw [if_pos c] at q1
      refine ⟨by rw [y.len]; exact c, fun p np => ?_⟩
      have hp : p ∉ fp := fun z => (OwAll.at_ y p z).2.2 np
      have k2 : Same (hid (addL S fp) H1) (hid (addL S (p :: fp)) (upd H1 p (.lst vs))) := fun b o e => by
        obtain ⟨e1, e2⟩ := hid_some e
        have hb : b ≠ p := ne_of_none e2 np
        rw [hid_neg fun z => z.elim (fun z => e1 (.inl z)) fun z => (List.mem_cons.mp z).elim hb fun z => e1 (.inr z), upd_ne hb]
        exact e2
      refine q1 (.ref p) (p :: fp) _ (s.trans (same_new np)) (fun b hb => (List.mem_cons.mp hb).elim (fun z => by rw [z]; exact s.free np) (n b)) (k.trans k2) (.lst (.inr List.mem_cons_self) (fun z => r.al p (r.fs p z) (s.free np)) upd_same (OwAll.imp k2 y (fun b hb => .inr (List.mem_cons_of_mem _ hb)) fun b hb o e => ?_) hp)
      rw [upd_ne (ne_of_none e np)]; exact e
    · rw [if_neg c] at q1; exact q1.elim
theorem rm_tup {es : List Expr} {k : Nat} {l : NEs} (h : PA X es (TMs P W l)) : PE X (.Tuple es k pos) (TM P W (.tup l)) :=
  PE.imp (pe_tup h) fun σ H Q ⟨ρ, S, r, q⟩ => tms_bind (f := fun ts => if ts.ds.length ≤ sizeLine then .ok (.tup ts) else .bad) r q fun vs fp H1 ts s n k y q1 => by
    by_cases c : ts.ds.length ≤ sizeLine
    · rw [if_pos c] at q1
      refine ⟨by rw [y.len]; exact c, fun p np => ?_⟩
      have hpS : ¬ addL S fp p := fun z => z.elim (fun z => r.al p z (s.free np)) fun z => (OwAll.at_ y p z).2.2 np
      have k2 : Same (hid (addL S fp) H1) (hid (addL S fp) (upd H1 p (.tup vs))) := hid_same (same_new np)
      refine q1 (.ref p) fp _ (s.trans (same_new np)) n (k.trans k2) (.tup (.inl (.inl (by rw [hid_neg hpS]; exact upd_same))) (OwAll.imp k2 y (fun b hb => .inr hb) fun b hb o e => ?_))
      rw [upd_ne (ne_of_none e np)]; exact e
    · rw [if_neg c] at q1; exact q1.elim
theorem rm_call {x : Str} {g : Sem} {sh : PyData → MT} {e : Expr} {es : List Expr} {is : Es} (hK : P.K = X.K) (hM : P.mg = X.mg) (tk : Takes X W) (F : FOkN X x g sh) (hg : Gl X x) (hdb : (x == ("__debug__" : Str)) = false) (ha : PA X (e :: es) (TAs P W is))
    (he : starEach (e :: es) X.env = (false, eval e X.env) :: starEach es X.env) (hpl : (backTo pos (starEach es X.env)).any (·.1) = false) : PE X (.Call (.Name x p) (e :: es) [] pos) (TM P W (.call x g sh is)) := by
  obtain ⟨f, fd, ps, k, n, hm, hk, F, hr, hb, ar⟩ := F.ex
  refine PE.imp (pe_callS F hr hg hm hk hb (passAt tk) ha hdb he hpl) fun σ H Q ⟨ρ, S, r, q⟩ => ?_
  have q : RM P W S σ H ((evs is ρ).bind fun ds => (g ds).bind fun d => .ok (sh d)) Q := q
  refine ⟨ρ, S, r, ?_⟩
  cases z0 : evs is ρ with
  | ok ds =>
    rw [z0] at q
    have q : RM P W S σ H ((g ds).bind fun d => .ok (sh d)) Q := q
    intro vs H1 s1 y1
    have r1 := r.grow s1
    have q1 := RM.mono q s1
    have hl := y1.len
    rw [← hK, ← hM]
    refine ⟨?_, ds, S, r1.al, y1, ?_⟩
    · rw [hl]
      refine ar ds fun z => ?_
      rw [z] at q1
      exact q1
    · cases z : g ds with
      | ok d =>
        rw [z] at q1
        have q1 : RM P W S σ H1 (.ok (sh d)) Q := q1
        exact fun v fp H' s n k y => q1 v fp H' s n k (Ow.frame r1.fs y)
      | exc c p => rw [z] at q1; exact q1
      | bad => rw [z] at q1; exact q1
  | exc c p => rw [z0] at q; exact q
  | bad => rw [z0] at q; exact q
end
end Dy

namespace Dy
open PySem PySem.Spec PyProof.Rows L2
open Classical
structure Ctx where
  N : List Str
  sc : Scope
  fn : Str → Bool
def kAt (c : Ctx) (x : Str) : Option NameKind := c.sc.names.lookup x
def isK (k : NameKind) : Option NameKind → Bool
  | some k' => k == k'
  | none => false
def vis (c : Ctx) (i : Nat) (x : Str) : Bool := (match c.N[i]? with | some y => y == x | none => false) && (isK .local (kAt c x) || (isK .cell (kAt c x) || isK .free (kAt c x))) && !(x == ("__debug__" : Str)) && !(x == ("__classdict__" : Str))
def loc (c : Ctx) (i : Nat) (x : Str) : Bool := (match c.N[i]? with | some y => y == x | none => false) && (isK .local (kAt c x) || (isK .cell (kAt c x) && c.fn x))
def gl (c : Ctx) (x : Str) : Bool := isK .globalImplicit (kAt c x) && !(x == ("__debug__" : Str)) && !(x == ("__name__" : Str))
/-- no star, no set, no yield -/
def pl : Expr → Bool
  | .BoolOp .. => true | .BinOp .. => true | .UnaryOp .. => true | .IfExp .. => true | .ListComp .. => true | .Compare .. => true | .Call .. => true
  | .Constant .. => true | .Attribute .. => true | .Subscript .. => true | .Name .. => true | .List .. => true | .Tuple .. => true | .JoinedStr .. => true | _ => false
def pls : List Expr → Bool
  | [] => true
  | e :: es => pl e && pls es
def isLc : Expr → Bool
  | .ListComp .. => true | .SetComp .. => true | .DictComp .. => true | _ => false
def trOk : Expr → Bool
  | .Call .. => true | .Attribute .. => true | .Subscript .. => true | .Name .. => true | .List .. => true | .Constant .. => true | .Tuple .. => true | .ListComp .. => true | _ => false
def oneName : Bl → Option Str
  | .len => some "len" | .abs => some "abs" | .max => some "max" | .min => some "min" | .tuple => some "tuple" | .list => some "list" | .str => some "str" | .int => some "int" | .all => some "all" | .any => some "any" | _ => none
def cstC : PyData → Const → Bool
  | .int i, .int j => decide (i = j)
  | .str i, .str j => i == j
  | .bool i, .bool j => i == j
  | .none, .none => true
  | _, _ => false
def ownL (N : List Str) (own : List Nat) : List (Str × Nat) := own.map fun i => (N.getD i "", i)
mutual
def cTg (c : Ctx) : Tg → Expr → Bool
  | .nm i, .Name x _ => loc c i x
  | .tp l, .Tuple es _ _ => cTgs c l es
  | _, _ => false
def cTgs (c : Ctx) : Tgs → List Expr → Bool
  | .nil, [] => true
  | .cons t l, e :: es => pl e && cTg c t e && cTgs c l es
  | _, _ => false
end
def inner (c : Ctx) (scope : Scope) : Ctx := ⟨c.N, relS scope c.sc, fun x => scope.names.lookup x == some .cell⟩
def isTup : Expr → Bool
  | .Tuple .. => true
  | _ => false
def isYes : E → Bool
  | .cst (.bool true) => true
  | _ => false
def cif (y : Bool) (f : Expr → Bool) : List Expr → Bool
  | [] => y
  | [e] => f e
  | _ => false
/-- held against another: a slot's own thing too -/
def ccO (c : Ctx) : E → Expr → Bool → Bool
  | .boc i, .Name y _, _ => vis c i y
  | _, _, r => r
mutual
def ck (c : Ctx) (b : Bool) : E → Expr → Bool
  | .var i, .Name x _ => vis c i x
  | .bor i, .Name x _ => b && vis c i x
  | .glo x _, .Name y _ => x == y && gl c x
  | .cst d, .Constant k _ _ => cstC d k
  | .op o u v, .BinOp x op y _ => decide (op = opOf o) && ck c true u x && ck c true v y
  | .neg u, .UnaryOp .USub x _ => ck c true u x
  | .cmp k u v, .Compare x ops ys _ => (match ops, ys with
    | [op], [y] => decide (op = cmOf k) && pl y && ck c true u x && ck c true v y
    | _, _ => false)
  | .chn k1 k2 u v w, .Compare x ops ys _ => (match ops, ys with
    | [o1, o2], [y, z] => decide (o1 = cmOf k1) && decide (o2 = cmOf k2) && pl z && ck c true u x && ck c true v y && ck c true w z
    | _, _ => false)
  | .eqc n u v, .Compare x ops ys _ => (match ops, ys with
    | [op], [y] => decide (op = cmOf (if n then .ne else .eq)) && pl y && ccO c u x (ck c true u x) && ccO c v y (ck c true v y)
    | _, _ => false)
  | .not u, .UnaryOp .Not x _ => ck c false u x
  | .and u v, .BoolOp .And xs p => (match xs with
    | [x, y] => ck c false u x && ck c false v y
    | x :: y :: r => ck c false u x && ck c false v (.BoolOp .And (y :: r) p)
    | _ => false)
  | .or u v, .BoolOp .Or xs p => (match xs with
    | [x, y] => ck c false u x && ck c false v y
    | x :: y :: r => ck c false u x && ck c false v (.BoolOp .Or (y :: r) p)
    | _ => false)
  | .ite k u v, .IfExp t x y _ => ct c k t && ck c false u x && ck c false v y
  | .tup us, .Tuple es _ _ => cks c us es
  | .lst us, .List es _ => cks c us es
  | .idx u v, .Subscript x y _ => pl y && ck c true u x && ck c true v y
  | .slN u, .Subscript x (.Slice none none none _) _ => ck c true u x
  | .slL u v, .Subscript x (.Slice (some l) none none _) _ => ck c true u x && ck c true v l
  | .slU u v, .Subscript x (.Slice none (some h) none _) _ => ck c true u x && ck c true v h
  | .slB u v w, .Subscript x (.Slice (some l) (some h) none _) _ => ck c true u x && ck c true v l && ck c true w h
  | .rev u, .Subscript x (.Slice none none (some (.UnaryOp .USub (.Constant (.int 1) _ _) _)) _) _ => ck c true u x
  | .call x _ us, .Call (.Name y _) es ks _ => (match es, ks with
    | e :: es, [] => x == y && gl c x && pls (e :: es) && cks c us (e :: es)
    | _, _ => false)
  | .fn k u, .Call (.Name y _) es ks _ => (match es, ks with
    | [e], [] => gl c y && pl e && (match oneName k with | some x => y == x | none => false) && ck c true u e
    | [e, .Name z _], [] => (y == ("isinstance" : Str)) && isBl k && gl c y && gl c z && pl e && (z == (tyName k : Str)) && ck c true u e
    | _, _ => false)
  | .lc t s k own u, .ListComp elt gs scope _ => (match gs with
    | [⟨tg, it, ifs, 0⟩] => blkC c.N c.sc scope (ownL c.N own) && pl it && csr c tg s it && cTg (inner c scope) t tg && (tv t).all (fun i => own.contains i) && cif (isYes k) (ct (inner c scope) k) ifs && ck (inner c scope) false u elt
    | _ => false)
  | _, _ => false
def ct (c : Ctx) : E → Expr → Bool
  | .cmp k u v, .Compare x ops ys _ => (match ops, ys with
    | [op], [y] => decide (op = cmOf k) && pl y && ck c true u x && ck c true v y
    | _, _ => false)
  | .chn k1 k2 u v w, .Compare x ops ys _ => (match ops, ys with
    | [o1, o2], [y, z] => decide (o1 = cmOf k1) && decide (o2 = cmOf k2) && pl z && ck c true u x && ck c true v y && ck c true w z
    | _, _ => false)
  | .eqc n u v, .Compare x ops ys _ => (match ops, ys with
    | [op], [y] => decide (op = cmOf (if n then .ne else .eq)) && pl y && ccO c u x (ck c true u x) && ccO c v y (ck c true v y)
    | _, _ => false)
  | .not u, .UnaryOp .Not x _ => ct c u x
  | .and u v, .BoolOp .And xs p => (match xs with
    | [x, y] => ct c u x && ct c v y
    | x :: y :: r => ct c u x && ct c v (.BoolOp .And (y :: r) p)
    | _ => false)
  | .or u v, .BoolOp .Or xs p => (match xs with
    | [x, y] => ct c u x && ct c v y
    | x :: y :: r => ct c u x && ct c v (.BoolOp .Or (y :: r) p)
    | _ => false)
  | .tru u, e => trOk e && ck c true u e
  | _, _ => false
def cks (c : Ctx) : Es → List Expr → Bool
  | .nil, [] => true
  | .cons u us, e :: es => pl e && ck c false u e && cks c us es
  | _, _ => false
def csr (c : Ctx) (tg : Expr) : Sr → Expr → Bool
  | .it u, e => ck c false u e
  | .rg1 u, .Call (.Name y _) es ks _ => (match es, ks with
    | [e], [] => (y == ("range" : Str)) && gl c y && pl e && ck c false u e
    | _, _ => false)
  | .rg2 u v, .Call (.Name y _) es ks _ => (match es, ks with
    | [e, f], [] => (y == ("range" : Str)) && gl c y && pl e && pl f && ck c false u e && ck c false v f
    | _, _ => false)
  | .zip u v, .Call (.Name y _) es ks _ => (match es, ks with
    | [e, f], [] => (y == ("zip" : Str)) && gl c y && pl e && pl f && ck c false u e && ck c false v f && isTup tg
    | _, _ => false)
  | .enum u, .Call (.Name y _) es ks _ => (match es, ks with
    | [e], [] => (y == ("enumerate" : Str)) && gl c y && pl e && ck c false u e && isTup tg
    | _, _ => false)
  | _, _ => false
end
/-- as a new list -/
def cn (c : Ctx) : E → Expr → Bool
  | .lst us, .List es _ => cks c us es
  | .op .add u v, .BinOp x .Add y _ => ck c true u x && ck c true v y
  | .slN u, .Subscript x (.Slice none none none _) _ => ck c true u x
  | .slL u v, .Subscript x (.Slice (some l) none none _) _ => ck c true u x && ck c true v l
  | .slU u v, .Subscript x (.Slice none (some h) none _) _ => ck c true u x && ck c true v h
  | .slB u v w, .Subscript x (.Slice (some l) (some h) none _) _ => ck c true u x && ck c true v l && ck c true w h
  | .rev u, .Subscript x (.Slice none none (some (.UnaryOp .USub (.Constant (.int 1) _ _) _)) _) _ => ck c true u x
  | .fn .list u, .Call (.Name y _) [e] [] _ => (y == ("list" : Str)) && gl c y && pl e && ck c true u e
  | _, _ => false
/-- what is named outside -/
inductive Dep where
  | fn (x : Str) (g : Sem) | fnN (x : Str) (g : Sem) (sh : PyData → MT) | gl (x : Str) (d : PyData) | bl (x : Str)
mutual
def dE : E → List Dep
  | .glo x d => [.gl x d]
  | .op _ a b => dE a ++ dE b
  | .neg a => dE a
  | .cmp _ a b => dE a ++ dE b
  | .eqc _ a b => dE a ++ dE b
  | .chn _ _ a b e => dE a ++ (dE b ++ dE e)
  | .not a => dE a
  | .and a b => dE a ++ dE b
  | .or a b => dE a ++ dE b
  | .tru a => dE a
  | .ite k a b => dE k ++ (dE a ++ dE b)
  | .tup as => dEs as
  | .lst as => dEs as
  | .idx a i => dE a ++ dE i
  | .slN a => dE a
  | .slL a l => dE a ++ dE l
  | .slU a h => dE a ++ dE h
  | .slB a l h => dE a ++ (dE l ++ dE h)
  | .rev a => dE a
  | .call x g as => .fn x g :: dEs as
  | .fn b a => (match oneName b with
    | some x => [.bl x]
    | none => [.bl "isinstance", .bl (tyName b)]) ++ dE a
  | .lc _ s c _ e => dR s ++ (dE c ++ dE e)
  | _ => []
def dEs : Es → List Dep
  | .nil => []
  | .cons a as => dE a ++ dEs as
def dR : Sr → List Dep
  | .it a => dE a
  | .rg1 a => .bl "range" :: dE a
  | .rg2 a b => .bl "range" :: (dE a ++ dE b)
  | .rg3 a b c => .bl "range" :: (dE a ++ (dE b ++ dE c))
  | .zip a b => .bl "zip" :: (dE a ++ dE b)
  | .enum a => .bl "enumerate" :: dE a
end
mutual
def dN : NE → List Dep
  | .e a => dE a
  | .fl a => dE a
  | .lst l => dNs l
  | .tup l => dNs l
  | .call x g sh as => .fnN x g sh :: dEs as
def dNs : NEs → List Dep
  | .nil => []
  | .cons n l => dN n ++ dNs l
end
def nswp (c : Ctx) (x : Str) (px : Pos) : Expr → Bool
  | .ListComp _ _ scope p => !(isK .local (kAt c x) && px.line == p.line && !(scope.names.any fun (n, k) => n == x && (k == .local || k == .cell)))
  | e => pl e
def lcC (c : Ctx) (x : Str) (px : Pos) : E → Expr → Bool
  | .lc t s k own u, .ListComp elt gs scope p => (match gs with
    | [⟨tg, it, ifs, 0⟩] => isK .local (kAt c x) && px.line == p.line && !(scope.names.any fun (n, k) => n == x && (k == .local || k == .cell)) && ck c false (.lc t s k own u) (.ListComp elt gs scope p)
    | _ => false)
  | _, _ => false
def lcN (c : Ctx) : E → Expr → Bool
  | .lc t s k own u, .ListComp elt gs scope p => ck c false (.lc t s k own u) (.ListComp elt gs scope p)
  | _, _ => false
mutual
def cm (c : Ctx) : NE → Expr → Bool
  | .e a, e => ck c false a e
  | .fl a, e => cn c a e || lcN c a e
  | .lst l, .List es _ => cms c l es
  | .tup l, .Tuple es _ _ => cms c l es
  | .call x _ _ us, .Call (.Name y _) es ks _ => (match es, ks with
    | e :: es, [] => x == y && gl c x && pls (e :: es) && cks c us (e :: es)
    | _, _ => false)
  | _, _ => false
def cms (c : Ctx) : NEs → List Expr → Bool
  | .nil, [] => true
  | .cons n l, e :: es => pl e && cm c n e && cms c l es
  | _, _ => false
end
/-- a comprehension that is stored where it is made -/
def lcM (c : Ctx) (x : Str) (px : Pos) : NE → Expr → Bool
  | .fl e, v => lcC c x px e v
  | _, _ => false
mutual
def cS (c : Ctx) : S → Stmt → Bool
  | .set i e, .Assign [.Name x px] v _ => loc c i x && ((nswp c x px v && ck c false e v) || lcC c x px e v)
  | .setN i n, .Assign [.Name x px] v _ => loc c i x && ((nswp c x px v && cm c n v) || lcM c x px n v)
  | .par i j u v, .Assign [.Tuple [.Name x px, .Name y py] _ _] (.Tuple [a, b] _ _) _ => loc c i x && loc c j y && isK .local (kAt c x) && isK .local (kAt c y) && decide (i ≠ j) && !(x == y) && px.line == py.line && cks c (.cons u (.cons v .nil)) [a, b] && !([a, b].all (foldedForSure 8)) && !([a, b].all (constantsAlone 8))
  | .unp t e, .Assign [tg] v _ => isTup tg && pl v && !(isLc v) && !(isTup v) && cTg c t tg && ck c false e v
  | .app i e, .Expr (.Call (.Attribute (.Name x _) m ap) [v] [] cp) _ => (m == ("append" : Str)) && vis c i x && ap.endLine == cp.line && pl v && ck c false e v
  | .ext i e, .Expr (.Call (.Attribute (.Name x _) m ap) [v] [] cp) _ => (m == ("extend" : Str)) && vis c i x && ap.endLine == cp.line && pl v && ck c true e v
  | .clr i, .Expr (.Call (.Attribute (.Name x _) m ap) [] [] cp) _ => (m == ("clear" : Str)) && vis c i x && ap.endLine == cp.line
  | .sti i k e, .Assign [.Subscript (.Name x _) y _] v _ => vis c i x && pl y && pl v && !(isLc v) && ck c true k y && ck c false e v
  | .drop e, .Expr v _ => pl v && !(isLc v) && ck c false e v
  | .pass, .Pass _ => true
  | .pass, .Expr (.Constant (.str _) _ _) _ => true
  | .ret e, .Return (some v) _ => ck c true e v
  | .rtn n, .Return (some v) _ => cm c n v
  | .rto i, .Return (some (.Name x _)) _ => vis c i x
  | .retN, .Return none _ => true
  | .if_ k u v, .If e a b _ => ct c k e && cSs c u a && cSs c v b
  | .for_ t s u, .For tg it a [] _ => pl it && csr c tg s it && cTg c t tg && cSs c u a
  | .whl k u, .While e a [] _ => ct c k e && cSs c u a
  | .brk, .Break _ => true
  | .cnt, .Continue _ => true
  | .never, _ => true
  | .esc _ s, st => cS c s st
  | _, _ => false
def cSs (c : Ctx) : Ss → List Stmt → Bool
  | .nil, [] => true
  | .cons s l, st :: sts => cS c s st && cSs c l sts
  | _, _ => false
end
mutual
def dS : S → List Dep
  | .set _ e => dE e
  | .setN _ n => dN n
  | .par _ _ a b => dE a ++ dE b
  | .unp _ e => dE e
  | .app _ e => dE e
  | .ext _ e => dE e
  | .sti _ k e => dE k ++ dE e
  | .drop e => dE e
  | .ret e => dE e
  | .rtn n => dN n
  | .if_ c a b => dE c ++ (dSs a ++ dSs b)
  | .for_ _ s b => dR s ++ dSs b
  | .whl c b => dE c ++ dSs b
  | .esc _ s => dS s
  | _ => []
def dSs : Ss → List Dep
  | .nil => []
  | .cons s l => dS s ++ dSs l
end
end Dy

namespace Dy
open PySem PySem.Spec PyProof.Rows L2
open Classical
structure CtxOk (X : Cx) (P : Pm) (W : WX) (c : Ctx) : Prop where
  N : X.N = c.N
  sc : X.env.scope = c.sc
  fn : ∀ x, c.fn x = true → X.fn x = true
  calm : X.calm = true
  nd : X.N.Nodup
  kd : X.env.scope.kind = .function
  hK : P.K = X.K
  hM : P.mg = X.mg
  un : X.A.units + 65 < cLine
  tk : Takes X W
def DepOk (X : Cx) : Dep → Prop
  | .fn x g => FOk X x g
  | .fnN x g sh => FOkN X x g sh
  | .gl x d => GOk X.K X.mg x d
  | .bl x => X.mg x = none
abbrev DepsOk (X : Cx) (l : List Dep) : Prop := ∀ d ∈ l, DepOk X d
theorem DepsOk.l {X : Cx} {a b : List Dep} (h : DepsOk X (a ++ b)) : DepsOk X a := fun d m => h d (List.mem_append_left _ m)
theorem DepsOk.r {X : Cx} {a b : List Dep} (h : DepsOk X (a ++ b)) : DepsOk X b := fun d m => h d (List.mem_append_right _ m)
theorem DepsOk.hd {X : Cx} {a : Dep} {b : List Dep} (h : DepsOk X (a :: b)) : DepOk X a := h a List.mem_cons_self
theorem DepsOk.tl {X : Cx} {a : Dep} {b : List Dep} (h : DepsOk X (a :: b)) : DepsOk X b := fun d m => h d (List.mem_cons_of_mem _ m)
theorem isK_eq {k : NameKind} {o : Option NameKind} (h : isK k o = true) : o = some k := by
  cases o with
  | none => cases h
  | some k' =>
    have h : (k == k') = true := h
    rw [beq_iff_eq] at h
    rw [h]
theorem at_eq {l : List Str} {i : Nat} {x : Str} (h : (match l[i]? with | some y => y == x | none => false) = true) : l[i]? = some x := by
  cases z : l[i]? with
  | none => rw [z] at h; cases h
  | some y =>
    rw [z] at h
    have h : (y == x) = true := h
    rw [beq_iff_eq] at h
    rw [h]
theorem not_t {b : Bool} (h : (!b) = true) : b = false := by cases b <;> first | rfl | cases h
section
variable {X : Cx} {P : Pm} {W : WX} {c : Ctx}
theorem vis_ok (k : CtxOk X P W c) {i : Nat} {x : Str} (h : vis c i x = true) : X.N[i]? = some x ∧ Vis X.env.scope x ∧ (x == ("__debug__" : Str)) = false ∧ (x == ("__classdict__" : Str)) = false := by
  unfold vis at h
  rw [Bool.and_eq_true, Bool.and_eq_true, Bool.and_eq_true] at h
  obtain ⟨⟨⟨h1, h2⟩, h3⟩, h4⟩ := h
  refine ⟨by rw [k.N]; exact at_eq h1, ?_, not_t h3, not_t h4⟩
  unfold Vis
  rw [k.sc]
  rw [Bool.or_eq_true, Bool.or_eq_true] at h2
  rcases h2 with h2 | h2 | h2
  · exact .inl (isK_eq h2)
  · exact .inr (.inl (isK_eq h2))
  · exact .inr (.inr (isK_eq h2))
theorem loc_ok (k : CtxOk X P W c) {i : Nat} {x : Str} (h : loc c i x = true) : X.N[i]? = some x ∧ L2.Loc X.env.scope x ∧ (X.fn x = true ∨ X.env.scope.names.lookup x = some .local) := by
  unfold loc at h
  rw [Bool.and_eq_true] at h
  obtain ⟨h1, h2⟩ := h
  rw [Bool.or_eq_true, Bool.and_eq_true] at h2
  rw [k.N]
  unfold L2.Loc
  rw [k.sc]
  refine ⟨at_eq h1, ?_⟩
  rcases h2 with h2 | h2
  · exact ⟨.inl (isK_eq h2), .inr (isK_eq h2)⟩
  · exact ⟨.inr (isK_eq h2.1), .inl (k.fn x h2.2)⟩
theorem gl_ok (k : CtxOk X P W c) {x : Str} (h : gl c x = true) : Gl X x ∧ (x == ("__debug__" : Str)) = false ∧ x ≠ "__name__" := by
  unfold gl at h
  rw [Bool.and_eq_true, Bool.and_eq_true] at h
  obtain ⟨⟨h1, h2⟩, h3⟩ := h
  refine ⟨?_, not_t h2, ?_⟩
  · show X.env.scope.names.lookup x = _
    rw [k.sc]
    exact isK_eq h1
  · have h4 := not_t h3
    exact fun e => by rw [beq_eq_false_iff_ne] at h4; exact h4 e
theorem pl_star {e : Expr} {es : List Expr} {env : Env} (h : pl e = true) : starEach (e :: es) env = (false, eval e env) :: starEach es env := by
  cases e <;> first | rfl | exact absurd h Bool.false_ne_true
theorem pls_star {env : Env} {pos : Pos} : ∀ {es : List Expr}, pls es = true → (backTo pos (starEach es env)).any (·.1) = false
  | [], _ => rfl
  | e :: es, h => by
    have h : (pl e && pls es) = true := h
    rw [Bool.and_eq_true] at h
    rw [pl_star h.1]
    show (false || (backTo pos (starEach es env)).any (·.1)) = false
    rw [pls_star h.2]
    rfl
theorem pl_set {e : Expr} {env : Env} {x : Value} (h : pl e = true) : foldedSetIterable e env x = pure x := by
  cases e <;> first | rfl | exact absurd h Bool.false_ne_true
theorem pl_marks {e : Expr} {op : CmpOp} (h : pl e = true) : behindInMarks op e = false := by
  cases e <;> first | rfl | exact absurd h Bool.false_ne_true
theorem pl_ix {e : Expr} (h : pl e = true) : PlainIx e := fun o i => by
  cases e <;> first | rfl | exact absurd h Bool.false_ne_true
theorem tr_ok {e : Expr} {env : Env} (h : trOk e = true) : ∀ whole, isTrue e env whole = (do let v ← whole; standAt e.pos; holding [v] (truthy v)) := fun whole => by
  cases e <;> first | rfl | exact absurd h Bool.false_ne_true
theorem pl_asg {e : Expr} {es : List Expr} {env : Env} (h : pl e = true) : assignEach (e :: es) env = (false, assign e env) :: assignEach es env := by
  cases e <;> first | rfl | exact absurd h Bool.false_ne_true
theorem re_one (hK : P.K = X.K) (hc : X.calm = true) {b : Bl} {x : Str} {a : Expr} {ia : E} {p pos : Pos} (hx : oneName b = some x) (hg : Gl X x) (hm : X.mg x = none) (ha : PE X a (TB P W ia)) (he : starEach [a] X.env = (false, eval a X.env) :: starEach [] X.env) :
    PE X (.Call (.Name x p) [a] [] pos) (TD P W (.fn b ia)) := by
  cases b with
  | len =>
    cases hx
    exact re_fnB hK call_len ok_len hg hm (by decide +kernel) (by decide) (by decide) ha he
  | abs =>
    cases hx
    exact re_fnB hK call_abs ok_abs hg hm (by decide +kernel) (by decide) (by decide) ha he
  | max =>
    cases hx
    exact re_fnB hK (cr_max hc) ok_max hg hm (by decide +kernel) (by decide) (by decide) ha he
  | min =>
    cases hx
    exact re_fnB hK (cr_min hc) ok_min hg hm (by decide +kernel) (by decide) (by decide) ha he
  | all =>
    cases hx
    exact re_fnB hK (cr_all hc) ok_all hg hm (by decide +kernel) (by decide) (by decide) ha he
  | any =>
    cases hx
    exact re_fnB hK (cr_any hc) ok_any hg hm (by decide +kernel) (by decide) (by decide) ha he
  | tuple =>
    cases hx
    exact re_fnT hK call_tuple_of ok_tuple hg hm (by decide +kernel) (by decide) (by decide) ha he
  | list =>
    cases hx
    exact re_fnT hK call_list_of ok_list hg hm (by decide +kernel) (by decide) (by decide) ha he
  | str =>
    cases hx
    exact re_fnT hK call_str_int ok_str hg hm (by decide +kernel) (by decide) (by decide) ha he
  | int =>
    cases hx
    exact re_fnT hK call_int1 ok_int hg hm (by decide +kernel) (by decide) (by decide) ha he
  | _ => cases hx
mutual
theorem cTg_ok (k : CtxOk X P W c) : ∀ {t : Tg} {e : Expr}, cTg c t e = true → PG X e (GT P t)
  | .nm i, e, h => by
    cases e with
    | Name x p =>
      obtain ⟨h1, h2, h3⟩ := loc_ok k h
      exact rg_name k.nd h1 h2 h3
    | _ => exact absurd h Bool.false_ne_true
  | .tp l, e, h => by
    cases e with
    | Tuple es n p =>
      obtain ⟨h1, h2, h3⟩ := cTgs_ok k h
      exact rg_tup k.hK k.calm h1 h2 h3
    | _ => exact absurd h Bool.false_ne_true
theorem cTgs_ok (k : CtxOk X P W c) : ∀ {l : Tgs} {es : List Expr}, cTgs c l es = true → PGs X es (GTs P l) ∧ (assignEach es X.env).length = lenT l ∧ (assignEach es X.env).findIdx? (·.1) = none
  | .nil, [], _ => ⟨rgs_nil, rfl, rfl⟩
  | .nil, _ :: _, h => absurd h Bool.false_ne_true
  | .cons t l, [], h => absurd h Bool.false_ne_true
  | .cons t l, e :: es, h => by
    have h : (pl e && cTg c t e && cTgs c l es) = true := h
    rw [Bool.and_eq_true, Bool.and_eq_true] at h
    obtain ⟨⟨h1, h2⟩, h3⟩ := h
    obtain ⟨g1, g2, g3⟩ := cTgs_ok k h3
    have e1 : assignEach (e :: es) X.env = (false, assign e X.env) :: assignEach es X.env := pl_asg h1
    refine ⟨rgs_cons (cTg_ok k h2) g1 (by rw [e1]; rfl), by rw [e1]; show (assignEach es X.env).length + 1 = lenT l + 1; rw [g2], ?_⟩
    rw [e1, List.findIdx?_cons, g3]
    rfl
end
end
theorem inner_ok {X : Cx} {P : Pm} {W : WX} {c : Ctx} (k : CtxOk X P W c) {scope : Scope} {own : List (Str × Nat)} (ok : BlkOk X.N X.env.scope scope own) (s : Shared) (H : Hp) (C : Addr) (cl : List (Str × Addr)) (fp : List Addr) : CtxOk (X.blk s H scope (compEnvC scope cl C X.env) fp) P W0 (inner c scope) where
  N := k.N
  sc := by
    show relS scope X.env.scope = relS scope c.sc
    rw [k.sc]
  fn := fun x h => h
  calm := k.calm
  nd := k.nd
  kd := ok.kind
  hK := k.hK
  hM := k.hM
  un := k.un
  tk := takes0
theorem dep_blk {X : Cx} {l : List Dep} (h : DepsOk X l) {scope : Scope} {cenv : Env} (s : Shared) (H : Hp) (fp : List Addr) : DepsOk (X.blk s H scope cenv fp) l := fun d m => by
  have q := h d m
  cases d with
  | fn x g =>
    have q : FOk X x g := q
    exact (⟨q.ex⟩ : FOk (X.blk s H scope cenv fp) x g)
  | fnN x g sh =>
    have q : FOkN X x g sh := q
    exact (⟨q.ex⟩ : FOkN (X.blk s H scope cenv fp) x g sh)
  | gl x d => exact q
  | bl x => exact q
end Dy

namespace Dy
open PySem PySem.Spec PyProof.Rows L2
open Classical
theorem bothD {X : Cx} {P : Pm} {W : WX} {b : Bool} {ir : E} {e : Expr} (h : PE X e (TD P W ir)) : PE X e (TB P W ir) ∧ (b = false → PE X e (TD P W ir)) := ⟨re_tb h, fun _ => h⟩
theorem cst_ok {X : Cx} {P : Pm} {W : WX} {d : PyData} {k : Const} {n : Nat} {p : Pos} (h : cstC d k = true) : PE X (.Constant k n p) (TD P W (.cst d)) := by
  cases d <;> cases k <;> first
    | exact absurd h Bool.false_ne_true
    | exact re_non
    | (have e := of_decide_eq_true h; subst e; exact re_int)
    | (have e := eq_of_beq h; subst e; first | exact re_bl | exact re_str)
def PWs (X : Cx) (t : TT) : Expr → Prop
  | .BoolOp op xs p => PW X (.BoolOp op xs p) t
  | _ => True
theorem tag2 {α β : Type} {a : α} {b : β} : True := trivial
theorem pts_yes {X : Cx} {P : Pm} {W : WX} : PTs X [] (TTt P W (.cst (.bool true))) := ⟨fun pins s σ H Q I ⟨ρ, S, r, q⟩ => pts_nil.run pins s σ H Q I (q H (Same.refl H))⟩
theorem isYes_eq : ∀ {g : E}, isYes g = true → g = .cst (.bool true)
  | .cst (.bool true), _ => rfl
section
variable {X : Cx} {P : Pm} {W : WX} {c : Ctx}
theorem cc_ok (k : CtxOk X P W c) {u : E} {x : Expr} {r : Bool} (h : ccO c u x r = true) (f : r = true → PE X x (TB P W u)) : PE X x (TC P W u) := by
  cases u with
  | boc i =>
    cases x with
    | Name y p =>
      obtain ⟨h1, h2, h3, h4⟩ := vis_ok k h
      exact re_boc h1 h2 h3 h4
    | _ => exact re_tc (f h)
  | _ => exact re_tc (f h)
theorem is_ok (k : CtxOk X P W c) {b : Bl} {x : Expr} {y z : Str} {ia : E} {p p2 pos : Pos} (hb : isBl b = true) (hy : y = "isinstance") (hz : z = (tyName b : Str)) (g1 : gl c y = true) (g2 : gl c z = true) (m1 : X.mg "isinstance" = none) (m2 : X.mg (tyName b : Str) = none) (ha : PE X x (TB P W ia)) (hp : pl x = true) :
    PE X (.Call (.Name y p) [x, .Name z p2] [] pos) (TD P W (.fn b ia)) := by
  subst hy hz
  obtain ⟨a1, _, _⟩ := gl_ok k g1
  obtain ⟨b1, b2, b3⟩ := gl_ok k g2
  refine re_isinst k.hK hb a1 m1 b1 m2 ?_ b3 b2 ha (pl_star hp)
  cases b <;> first | exact absurd hb Bool.false_ne_true | decide +kernel
end
mutual
theorem ck_ok : ∀ (ir : E) {X : Cx} {P : Pm} {W : WX} {c : Ctx} {b : Bool} {e : Expr}, CtxOk X P W c → DepsOk X (dE ir) → ck c b ir e = true → PE X e (TB P W ir) ∧ (b = false → PE X e (TD P W ir))
  | .var i, X, P, W, c, b, e, k, d, h => by
    cases e with
    | Name x p =>
      obtain ⟨h1, h2, h3, h4⟩ := vis_ok k h
      exact bothD (re_var h1 h2 h3 h4)
    | _ => exact absurd h Bool.false_ne_true
  | .bor i, X, P, W, c, b, e, k, d, h => by
    cases e with
    | Name x p =>
      have h : (b && vis c i x) = true := h
      rw [Bool.and_eq_true] at h
      obtain ⟨h1, h2, h3, h4⟩ := vis_ok k h.2
      exact ⟨re_bor h1 h2 h3 h4, fun z => by rw [z] at h; exact absurd h.1 Bool.false_ne_true⟩
    | _ => exact absurd h Bool.false_ne_true
  | .cst v, X, P, W, c, b, e, k, d, h => by
    cases e with
    | Constant x n p => exact bothD (cst_ok h)
    | _ => exact absurd h Bool.false_ne_true
  | .glo x v, X, P, W, c, b, e, k, d, h => by
    cases e with
    | Name y p =>
      have h : (x == y && gl c x) = true := h
      rw [Bool.and_eq_true, beq_iff_eq] at h
      obtain ⟨e0, h0⟩ := h
      subst e0
      obtain ⟨h1, h2, _⟩ := gl_ok k h0
      exact bothD (re_glob d.hd k.hK h1 h2)
    | _ => exact absurd h Bool.false_ne_true
  | .op o u v, X, P, W, c, b, e, k, d, h => by
    cases e with
    | BinOp x op y p =>
      have h : (decide (op = opOf o) && ck c true u x && ck c true v y) = true := h
      rw [Bool.and_eq_true, Bool.and_eq_true, decide_eq_true_eq] at h
      obtain ⟨⟨rfl, h1⟩, h2⟩ := h
      exact bothD (re_op k.hK o (ck_ok u k d.l h1).1 (ck_ok v k d.r h2).1)
    | _ => exact absurd h Bool.false_ne_true
  | .neg u, X, P, W, c, b, e, k, d, h => by
    cases e with
    | UnaryOp op x p =>
      cases op with
      | USub => exact bothD (re_neg (ck_ok u k d h).1)
      | _ => exact absurd h Bool.false_ne_true
    | _ => exact absurd h Bool.false_ne_true
  | .cmp o u v, X, P, W, c, b, e, k, d, h => by
    cases e with
    | Compare x ops ys p =>
      match ops, ys, h with
      | [op], [y], h =>
        have h : (decide (op = cmOf o) && pl y && ck c true u x && ck c true v y) = true := h
        rw [Bool.and_eq_true, Bool.and_eq_true, Bool.and_eq_true, decide_eq_true_eq] at h
        obtain ⟨⟨⟨rfl, h0⟩, h1⟩, h2⟩ := h
        exact bothD (re_cmp k.hK k.un o (ck_ok u k d.l h1).1 (ck_ok v k d.r h2).1 (pl_marks h0))
    | _ => exact absurd h Bool.false_ne_true
  | .boc i, X, P, W, c, b, e, k, d, h => by cases e <;> exact absurd h Bool.false_ne_true
  | .eqc n u v, X, P, W, c, b, e, k, d, h => by
    cases e with
    | Compare x ops ys p =>
      match ops, ys, h with
      | [op], [y], h =>
        have h : (decide (op = cmOf (if n then .ne else .eq)) && pl y && ccO c u x (ck c true u x) && ccO c v y (ck c true v y)) = true := h
        rw [Bool.and_eq_true, Bool.and_eq_true, Bool.and_eq_true, decide_eq_true_eq] at h
        obtain ⟨⟨⟨rfl, h0⟩, h1⟩, h2⟩ := h
        exact bothD (re_eqc k.hK k.un n (cc_ok k h1 fun z => (ck_ok u k d.l z).1) (cc_ok k h2 fun z => (ck_ok v k d.r z).1) (pl_marks h0))
    | _ => exact absurd h Bool.false_ne_true
  | .chn o1 o2 u v w, X, P, W, c, b, e, k, d, h => by
    cases e with
    | Compare x ops ys p =>
      match ops, ys, h with
      | [p1, p2], [y, z], h =>
        have h : (decide (p1 = cmOf o1) && decide (p2 = cmOf o2) && pl z && ck c true u x && ck c true v y && ck c true w z) = true := h
        rw [Bool.and_eq_true, Bool.and_eq_true, Bool.and_eq_true, Bool.and_eq_true, Bool.and_eq_true, decide_eq_true_eq, decide_eq_true_eq] at h
        obtain ⟨⟨⟨⟨⟨rfl, rfl⟩, h0⟩, h1⟩, h2⟩, h3⟩ := h
        exact bothD (re_chn k.hK k.un o1 o2 (ck_ok u k d.l h1).1 (ck_ok v k d.r.l h2).1 (ck_ok w k d.r.r h3).1 (pl_marks h0))
    | _ => exact absurd h Bool.false_ne_true
  | .not u, X, P, W, c, b, e, k, d, h => by
    cases e with
    | UnaryOp op x p =>
      cases op with
      | Not => exact bothD (re_not ((ck_ok u k d h).2 rfl))
      | _ => exact absurd h Bool.false_ne_true
    | _ => exact absurd h Bool.false_ne_true
  | .and u v, X, P, W, c, b, e, k, d, h => by
    cases e with
    | BoolOp op xs p =>
      cases op with
      | And =>
        match xs, h with
        | [x, y], h =>
          have h : (ck c false u x && ck c false v y) = true := h
          rw [Bool.and_eq_true] at h
          exact bothD (re_and ((ck_ok u k d.l h.1).2 rfl) (pe_one ((ck_ok v k d.r h.2).2 rfl)))
        | x :: y :: z :: r, h =>
          have h : (ck c false u x && ck c false v (.BoolOp .And (y :: z :: r) p)) = true := h
          rw [Bool.and_eq_true] at h
          exact bothD (re_and ((ck_ok u k d.l h.1).2 rfl) ((ck_ok v k d.r h.2).2 rfl))
      | Or => exact absurd h Bool.false_ne_true
    | _ => exact absurd h Bool.false_ne_true
  | .or u v, X, P, W, c, b, e, k, d, h => by
    cases e with
    | BoolOp op xs p =>
      cases op with
      | Or =>
        match xs, h with
        | [x, y], h =>
          have h : (ck c false u x && ck c false v y) = true := h
          rw [Bool.and_eq_true] at h
          exact bothD (re_or ((ck_ok u k d.l h.1).2 rfl) (pe_one ((ck_ok v k d.r h.2).2 rfl)))
        | x :: y :: z :: r, h =>
          have h : (ck c false u x && ck c false v (.BoolOp .Or (y :: z :: r) p)) = true := h
          rw [Bool.and_eq_true] at h
          exact bothD (re_or ((ck_ok u k d.l h.1).2 rfl) ((ck_ok v k d.r h.2).2 rfl))
      | And => exact absurd h Bool.false_ne_true
    | _ => exact absurd h Bool.false_ne_true
  | .tru u, X, P, W, c, b, e, k, d, h => by cases e <;> exact absurd h Bool.false_ne_true
  | .ite t u v, X, P, W, c, b, e, k, d, h => by
    cases e with
    | IfExp x y z p =>
      have h : (ct c t x && ck c false u y && ck c false v z) = true := h
      rw [Bool.and_eq_true, Bool.and_eq_true] at h
      exact bothD (re_ite (ct_ok t k d.l h.1.1).1 ((ck_ok u k d.r.l h.1.2).2 rfl) ((ck_ok v k d.r.r h.2).2 rfl))
    | _ => exact absurd h Bool.false_ne_true
  | .tup us, X, P, W, c, b, e, k, d, h => by
    cases e with
    | Tuple es n p => exact bothD (re_tup (cks_ok us k d h))
    | _ => exact absurd h Bool.false_ne_true
  | .lst us, X, P, W, c, b, e, k, d, h => by
    cases e with
    | List es p => exact bothD (re_lst (cks_ok us k d h))
    | _ => exact absurd h Bool.false_ne_true
  | .idx u v, X, P, W, c, b, e, k, d, h => by
    cases e with
    | Subscript x y p =>
      have h : (pl y && ck c true u x && ck c true v y) = true := h
      rw [Bool.and_eq_true, Bool.and_eq_true] at h
      exact bothD (re_idx k.hK (ck_ok u k d.l h.1.2).1 (ck_ok v k d.r h.2).1 (pl_ix h.1.1))
    | _ => exact absurd h Bool.false_ne_true
  | .slN u, X, P, W, c, b, e, k, d, h => by
    cases e with
    | Subscript x y p =>
      cases y with
      | Slice l m s p2 =>
        match l, m, s, h with
        | none, none, none, h => exact bothD (re_slN k.hK (ck_ok u k d h).1)
      | _ => exact absurd h Bool.false_ne_true
    | _ => exact absurd h Bool.false_ne_true
  | .slL u v, X, P, W, c, b, e, k, d, h => by
    cases e with
    | Subscript x y p =>
      cases y with
      | Slice l m s p2 =>
        match l, m, s, h with
        | some l, none, none, h =>
          have h : (ck c true u x && ck c true v l) = true := h
          rw [Bool.and_eq_true] at h
          exact bothD (re_slL k.hK (ck_ok u k d.l h.1).1 (ck_ok v k d.r h.2).1)
      | _ => exact absurd h Bool.false_ne_true
    | _ => exact absurd h Bool.false_ne_true
  | .slU u v, X, P, W, c, b, e, k, d, h => by
    cases e with
    | Subscript x y p =>
      cases y with
      | Slice l m s p2 =>
        match l, m, s, h with
        | none, some l, none, h =>
          have h : (ck c true u x && ck c true v l) = true := h
          rw [Bool.and_eq_true] at h
          exact bothD (re_slU k.hK (ck_ok u k d.l h.1).1 (ck_ok v k d.r h.2).1)
      | _ => exact absurd h Bool.false_ne_true
    | _ => exact absurd h Bool.false_ne_true
  | .slB u v w, X, P, W, c, b, e, k, d, h => by
    cases e with
    | Subscript x y p =>
      cases y with
      | Slice l m s p2 =>
        match l, m, s, h with
        | some l, some m, none, h =>
          have h : (ck c true u x && ck c true v l && ck c true w m) = true := h
          rw [Bool.and_eq_true, Bool.and_eq_true] at h
          exact bothD (re_slB k.hK (ck_ok u k d.l h.1.1).1 (ck_ok v k d.r.l h.1.2).1 (ck_ok w k d.r.r h.2).1)
      | _ => exact absurd h Bool.false_ne_true
    | _ => exact absurd h Bool.false_ne_true
  | .rev u, X, P, W, c, b, e, k, d, h => by
    cases e with
    | Subscript x y p =>
      cases y with
      | Slice l m s p2 =>
        match l, m, s, h with
        | none, none, some (.UnaryOp .USub (.Constant (.int 1) _ _) _), h => exact bothD (re_rev k.hK (ck_ok u k d h).1)
      | _ => exact absurd h Bool.false_ne_true
    | _ => exact absurd h Bool.false_ne_true
  | .call x g us, X, P, W, c, b, e, k, d, h => by
    cases e with
    | Call f es ks p =>
      cases f with
      | Name y p2 =>
        match es, ks, h with
        | e :: es, [], h =>
          have h : (x == y && gl c x && (pl e && pls es) && cks c us (e :: es)) = true := h
          rw [Bool.and_eq_true, Bool.and_eq_true, Bool.and_eq_true, Bool.and_eq_true, beq_iff_eq] at h
          obtain ⟨⟨⟨rfl, h1⟩, h2, h3⟩, h4⟩ := h
          obtain ⟨g1, g2, _⟩ := gl_ok k h1
          have hf : FOk X x g := d.hd
          exact bothD (re_call k.hK k.hM k.tk hf g1 g2 (cks_ok us k d.tl h4) (pl_star h2) (pls_star h3))
      | _ => exact absurd h Bool.false_ne_true
    | _ => exact absurd h Bool.false_ne_true
  | .fn o u, X, P, W, c, b, e, k, d, h => by
    cases e with
    | Call f es ks p =>
      cases f with
      | Name y p2 =>
        match es, ks, h with
        | [e], [], h =>
          have h : (gl c y && pl e && (match oneName o with | some x => y == x | none => false) && ck c true u e) = true := h
          rw [Bool.and_eq_true, Bool.and_eq_true, Bool.and_eq_true] at h
          obtain ⟨⟨⟨h1, h2⟩, h3⟩, h4⟩ := h
          have d : DepsOk X ((match oneName o with | some x => [.bl x] | none => [.bl "isinstance", .bl (tyName o)]) ++ dE u) := d
          cases z : oneName o with
          | none => rw [z] at h3; exact absurd h3 Bool.false_ne_true
          | some x =>
            rw [z] at h3 d
            have e1 : y = x := eq_of_beq h3
            subst e1
            obtain ⟨g1, _, _⟩ := gl_ok k h1
            exact bothD (re_one k.hK k.calm z g1 (DepsOk.hd d.l) (ck_ok u k d.r h4).1 (pl_star h2))
        | [e, .Name z p3], [], h =>
          have h : ((y == ("isinstance" : Str)) && isBl o && gl c y && gl c z && pl e && (z == (tyName o : Str)) && ck c true u e) = true := h
          rw [Bool.and_eq_true, Bool.and_eq_true, Bool.and_eq_true, Bool.and_eq_true, Bool.and_eq_true, Bool.and_eq_true, beq_iff_eq, beq_iff_eq] at h
          obtain ⟨⟨⟨⟨⟨⟨h1, h2⟩, h3⟩, h4⟩, h5⟩, h6⟩, h7⟩ := h
          have d : DepsOk X ((match oneName o with | some x => [.bl x] | none => [.bl "isinstance", .bl (tyName o)]) ++ dE u) := d
          have z1 : oneName o = none := by cases o <;> first | rfl | exact absurd h2 Bool.false_ne_true
          rw [z1] at d
          exact bothD (is_ok k h2 h1 h6 h3 h4 (DepsOk.hd d.l) (DepsOk.hd d.l.tl) (ck_ok u k d.r h7).1 h5)
      | _ => exact absurd h Bool.false_ne_true
    | _ => exact absurd h Bool.false_ne_true
  | .lc t s g own u, X, P, W, c, b, e, k, d, h => by
    cases e with
    | ListComp elt gs scope p =>
      match gs, h with
      | [⟨tg, it, ifs, 0⟩], h =>
        have h : (blkC c.N c.sc scope (ownL c.N own) && pl it && csr c tg s it && cTg (inner c scope) t tg && (tv t).all (fun i => own.contains i) && cif (isYes g) (ct (inner c scope) g) ifs && ck (inner c scope) false u elt) = true := h
        rw [Bool.and_eq_true, Bool.and_eq_true, Bool.and_eq_true, Bool.and_eq_true, Bool.and_eq_true, Bool.and_eq_true] at h
        obtain ⟨⟨⟨⟨⟨⟨h1, h2⟩, h3⟩, h4⟩, h5⟩, h6⟩, h7⟩ := h
        rw [← k.N, ← k.sc] at h1
        have ok := blkOk_by h1
        have e1 : (ownL X.N own).map (·.2) = own := by
          unfold ownL
          rw [List.map_map]
          exact List.map_id own
        have ho : ∀ i ∈ tv t, i ∈ (ownL X.N own).map (·.2) := fun i hi => by
          rw [e1]
          have q := List.all_eq_true.mp h5 i hi
          simpa using q
        have hI := csr_ok s k d.l h3
        have hT := fun s' H' C cl fp => cTg_ok (inner_ok k ok s' H' C cl fp) h4
        have hE := fun s' H' C cl fp => (ck_ok u (inner_ok k ok s' H' C cl fp) (dep_blk d.r.r s' H' fp) h7).2 rfl
        have fin : ∀ {v : Prop}, v → v := fun x => x
        have hP : ∀ (s' : Shared) (H' : Hp) (C : Addr) (cl : List (Str × Addr)) (fp : List Addr), PTs (X.blk s' H' scope (compEnvC scope cl C X.env) fp) ifs (TTt P W0 g) := by
          intro s' H' C cl fp
          match ifs, h6 with
          | [], h6 =>
            rw [isYes_eq h6]
            exact pts_yes
          | [e], h6 => exact pts_one (ct_ok g (inner_ok k ok s' H' C cl fp) (dep_blk d.r.l s' H' fp) h6).1
        have q := rn_lc (pos := p) k.calm k.nd hI ok hT hP hE ho (fun x => pl_set h2)
        rw [e1] at q
        exact bothD (PE.imp q fun σ H Q => td_tn (fun ρ dd hd => by
          have hd : ((evr s ρ).bind fun ds => if ds.length < sizeLine then lcR (lcF t (ev g) (ev u) (wipeE ρ own) ds) else .bad) = .ok dd := hd
          cases z : evr s ρ with
          | ok ds =>
            rw [z] at hd
            have hd : (if ds.length < sizeLine then lcR (lcF t (ev g) (ev u) (wipeE ρ own) ds) else .bad) = .ok dd := hd
            by_cases cl : ds.length < sizeLine
            · rw [if_pos cl] at hd
              cases z2 : lcF t (ev g) (ev u) (wipeE ρ own) ds with
              | some xs => rw [z2] at hd; cases hd; exact ⟨_, rfl⟩
              | none => rw [z2] at hd; cases hd
            · rw [if_neg cl] at hd; cases hd
          | exc c p => rw [z] at hd; cases hd
          | bad => rw [z] at hd; cases hd))
    | _ => exact absurd h Bool.false_ne_true
theorem ct_ok : ∀ (ir : E) {X : Cx} {P : Pm} {W : WX} {c : Ctx} {e : Expr}, CtxOk X P W c → DepsOk X (dE ir) → ct c ir e = true → PT X e (TTt P W ir) ∧ PWs X (TTt P W ir) e
  | .cmp o u v, X, P, W, c, e, k, d, h => by
    cases e with
    | Compare x ops ys p =>
      match ops, ys, h with
      | [op], [y], h =>
        have h : (decide (op = cmOf o) && pl y && ck c true u x && ck c true v y) = true := h
        rw [Bool.and_eq_true, Bool.and_eq_true, Bool.and_eq_true, decide_eq_true_eq] at h
        obtain ⟨⟨⟨rfl, h0⟩, h1⟩, h2⟩ := h
        exact ⟨rt_cmp k.hK k.un o (ck_ok u k d.l h1).1 (ck_ok v k d.r h2).1 (pl_marks h0), trivial⟩
    | _ => exact absurd h Bool.false_ne_true
  | .boc _, X, P, W, c, e, k, d, h => absurd h Bool.false_ne_true
  | .eqc n u v, X, P, W, c, e, k, d, h => by
    cases e with
    | Compare x ops ys p =>
      match ops, ys, h with
      | [op], [y], h =>
        have h : (decide (op = cmOf (if n then .ne else .eq)) && pl y && ccO c u x (ck c true u x) && ccO c v y (ck c true v y)) = true := h
        rw [Bool.and_eq_true, Bool.and_eq_true, Bool.and_eq_true, decide_eq_true_eq] at h
        obtain ⟨⟨⟨rfl, h0⟩, h1⟩, h2⟩ := h
        exact ⟨rt_eqc k.hK k.un n (cc_ok k h1 fun z => (ck_ok u k d.l z).1) (cc_ok k h2 fun z => (ck_ok v k d.r z).1) (pl_marks h0), trivial⟩
    | _ => exact absurd h Bool.false_ne_true
  | .chn o1 o2 u v w, X, P, W, c, e, k, d, h => by
    cases e with
    | Compare x ops ys p =>
      match ops, ys, h with
      | [p1, p2], [y, z], h =>
        have h : (decide (p1 = cmOf o1) && decide (p2 = cmOf o2) && pl z && ck c true u x && ck c true v y && ck c true w z) = true := h
        rw [Bool.and_eq_true, Bool.and_eq_true, Bool.and_eq_true, Bool.and_eq_true, Bool.and_eq_true, decide_eq_true_eq, decide_eq_true_eq] at h
        obtain ⟨⟨⟨⟨⟨rfl, rfl⟩, h0⟩, h1⟩, h2⟩, h3⟩ := h
        exact ⟨rt_chn k.hK k.un o1 o2 (ck_ok u k d.l h1).1 (ck_ok v k d.r.l h2).1 (ck_ok w k d.r.r h3).1 (pl_marks h0), trivial⟩
    | _ => exact absurd h Bool.false_ne_true
  | .not u, X, P, W, c, e, k, d, h => by
    cases e with
    | UnaryOp op x p =>
      cases op with
      | Not => exact ⟨rt_not (ct_ok u k d h).1, trivial⟩
      | _ => exact absurd h Bool.false_ne_true
    | _ => exact absurd h Bool.false_ne_true
  | .and u v, X, P, W, c, e, k, d, h => by
    cases e with
    | BoolOp op xs p =>
      cases op with
      | And =>
        match xs, h with
        | [x, y], h =>
          have h : (ct c u x && ct c v y) = true := h
          rw [Bool.and_eq_true] at h
          have q := rw_and (pos := p) (ct_ok u k d.l h.1).1 (pw_and1 (ct_ok v k d.r h.2).1)
          exact ⟨q.pt, q⟩
        | x :: y :: z :: r, h =>
          have h : (ct c u x && ct c v (.BoolOp .And (y :: z :: r) p)) = true := h
          rw [Bool.and_eq_true] at h
          have q := rw_and (pos := p) (ct_ok u k d.l h.1).1 (ct_ok v k d.r h.2).2
          exact ⟨q.pt, q⟩
      | Or => exact absurd h Bool.false_ne_true
    | _ => exact absurd h Bool.false_ne_true
  | .or u v, X, P, W, c, e, k, d, h => by
    cases e with
    | BoolOp op xs p =>
      cases op with
      | Or =>
        match xs, h with
        | [x, y], h =>
          have h : (ct c u x && ct c v y) = true := h
          rw [Bool.and_eq_true] at h
          have q := rw_or (pos := p) (ct_ok u k d.l h.1).1 (pw_or1 (ct_ok v k d.r h.2).1)
          exact ⟨q.pt, q⟩
        | x :: y :: z :: r, h =>
          have h : (ct c u x && ct c v (.BoolOp .Or (y :: z :: r) p)) = true := h
          rw [Bool.and_eq_true] at h
          have q := rw_or (pos := p) (ct_ok u k d.l h.1).1 (ct_ok v k d.r h.2).2
          exact ⟨q.pt, q⟩
      | And => exact absurd h Bool.false_ne_true
    | _ => exact absurd h Bool.false_ne_true
  | .tru u, X, P, W, c, e, k, d, h => by
    have h : (trOk e && ck c true u e) = true := h
    rw [Bool.and_eq_true] at h
    refine ⟨rt_tru k.hK (ck_ok u k d h.2).1 (tr_ok h.1), ?_⟩
    cases e <;> first | trivial | exact absurd h.1 Bool.false_ne_true
  | .var _, X, P, W, c, e, k, d, h => absurd h Bool.false_ne_true
  | .bor _, X, P, W, c, e, k, d, h => absurd h Bool.false_ne_true
  | .cst _, X, P, W, c, e, k, d, h => absurd h Bool.false_ne_true
  | .glo _ _, X, P, W, c, e, k, d, h => absurd h Bool.false_ne_true
  | .op _ _ _, X, P, W, c, e, k, d, h => absurd h Bool.false_ne_true
  | .neg _, X, P, W, c, e, k, d, h => absurd h Bool.false_ne_true
  | .ite _ _ _, X, P, W, c, e, k, d, h => absurd h Bool.false_ne_true
  | .tup _, X, P, W, c, e, k, d, h => absurd h Bool.false_ne_true
  | .lst _, X, P, W, c, e, k, d, h => absurd h Bool.false_ne_true
  | .idx _ _, X, P, W, c, e, k, d, h => absurd h Bool.false_ne_true
  | .slN _, X, P, W, c, e, k, d, h => absurd h Bool.false_ne_true
  | .slL _ _, X, P, W, c, e, k, d, h => absurd h Bool.false_ne_true
  | .slU _ _, X, P, W, c, e, k, d, h => absurd h Bool.false_ne_true
  | .slB _ _ _, X, P, W, c, e, k, d, h => absurd h Bool.false_ne_true
  | .rev _, X, P, W, c, e, k, d, h => absurd h Bool.false_ne_true
  | .call _ _ _, X, P, W, c, e, k, d, h => absurd h Bool.false_ne_true
  | .fn _ _, X, P, W, c, e, k, d, h => absurd h Bool.false_ne_true
  | .lc _ _ _ _ _, X, P, W, c, e, k, d, h => absurd h Bool.false_ne_true
theorem cks_ok : ∀ (ir : Es) {X : Cx} {P : Pm} {W : WX} {c : Ctx} {es : List Expr}, CtxOk X P W c → DepsOk X (dEs ir) → cks c ir es = true → PA X es (TAs P W ir)
  | .nil, X, P, W, c, es, k, d, h => by
    cases es with
    | nil => exact ra_nil
    | cons e es => exact absurd h Bool.false_ne_true
  | .cons u us, X, P, W, c, es, k, d, h => by
    cases es with
    | nil => exact absurd h Bool.false_ne_true
    | cons e es =>
      have h : (pl e && ck c false u e && cks c us es) = true := h
      rw [Bool.and_eq_true, Bool.and_eq_true] at h
      exact ra_cons ((ck_ok u k d.l h.1.2).2 rfl) (cks_ok us k d.r h.2) (pl_star h.1.1)
theorem csr_ok : ∀ (ir : Sr) {X : Cx} {P : Pm} {W : WX} {c : Ctx} {tg e : Expr}, CtxOk X P W c → DepsOk X (dR ir) → csr c tg ir e = true → PI X tg e (TIs P W ir)
  | .it u, X, P, W, c, tg, e, k, d, h => ri_it k.hK ((ck_ok u k d h).2 rfl)
  | .rg1 u, X, P, W, c, tg, e, k, d, h => by
    cases e with
    | Call f es ks p =>
      cases f with
      | Name y p2 =>
        match es, ks, h with
        | [e], [], h =>
          have h : ((y == ("range" : Str)) && gl c y && pl e && ck c false u e) = true := h
          rw [Bool.and_eq_true, Bool.and_eq_true, Bool.and_eq_true, beq_iff_eq] at h
          obtain ⟨⟨⟨rfl, h1⟩, h2⟩, h3⟩ := h
          exact ri_rg1 (gl_ok k h1).1 d.hd ((ck_ok u k d.tl h3).2 rfl) (pl_star h2)
      | _ => exact absurd h Bool.false_ne_true
    | _ => exact absurd h Bool.false_ne_true
  | .rg2 u v, X, P, W, c, tg, e, k, d, h => by
    cases e with
    | Call f es ks p =>
      cases f with
      | Name y p2 =>
        match es, ks, h with
        | [e, f], [], h =>
          have h : ((y == ("range" : Str)) && gl c y && pl e && pl f && ck c false u e && ck c false v f) = true := h
          rw [Bool.and_eq_true, Bool.and_eq_true, Bool.and_eq_true, Bool.and_eq_true, Bool.and_eq_true, beq_iff_eq] at h
          obtain ⟨⟨⟨⟨⟨rfl, h1⟩, h2⟩, h3⟩, h4⟩, h5⟩ := h
          have e2 : starEach [f] X.env = [(false, eval f X.env)] := pl_star h3
          exact ri_rg2 (gl_ok k h1).1 d.hd ((ck_ok u k d.tl.l h4).2 rfl) ((ck_ok v k d.tl.r h5).2 rfl) ((pl_star h2).trans (by rw [e2])) e2
      | _ => exact absurd h Bool.false_ne_true
    | _ => exact absurd h Bool.false_ne_true
  | .rg3 _ _ _, X, P, W, c, tg, e, k, d, h => by cases e <;> exact absurd h Bool.false_ne_true
  | .zip u v, X, P, W, c, tg, e, k, d, h => by
    cases e with
    | Call f es ks p =>
      cases f with
      | Name y p2 =>
        match es, ks, h with
        | [e, f], [], h =>
          have h : ((y == ("zip" : Str)) && gl c y && pl e && pl f && ck c false u e && ck c false v f && isTup tg) = true := h
          rw [Bool.and_eq_true, Bool.and_eq_true, Bool.and_eq_true, Bool.and_eq_true, Bool.and_eq_true, Bool.and_eq_true, beq_iff_eq] at h
          obtain ⟨⟨⟨⟨⟨⟨rfl, h1⟩, h2⟩, h3⟩, h4⟩, h5⟩, h6⟩ := h
          cases tg with
          | Tuple elts kk tp => exact ri_zip k.hK (gl_ok k h1).1 d.hd ((ck_ok u k d.tl.l h4).2 rfl) ((ck_ok v k d.tl.r h5).2 rfl) (pl_star h2) (pl_star h3)
          | _ => exact absurd h6 Bool.false_ne_true
      | _ => exact absurd h Bool.false_ne_true
    | _ => exact absurd h Bool.false_ne_true
  | .enum u, X, P, W, c, tg, e, k, d, h => by
    cases e with
    | Call f es ks p =>
      cases f with
      | Name y p2 =>
        match es, ks, h with
        | [e], [], h =>
          have h : ((y == ("enumerate" : Str)) && gl c y && pl e && ck c false u e && isTup tg) = true := h
          rw [Bool.and_eq_true, Bool.and_eq_true, Bool.and_eq_true, Bool.and_eq_true, beq_iff_eq] at h
          obtain ⟨⟨⟨⟨rfl, h1⟩, h2⟩, h3⟩, h6⟩ := h
          cases tg with
          | Tuple elts kk tp => exact ri_enum k.hK (gl_ok k h1).1 d.hd ((ck_ok u k d.tl h3).2 rfl) (pl_star h2)
          | _ => exact absurd h6 Bool.false_ne_true
      | _ => exact absurd h Bool.false_ne_true
    | _ => exact absurd h Bool.false_ne_true
end
end Dy

namespace Dy
open PySem PySem.Spec PyProof.Rows L2
open Classical
section
variable {X : Cx} {P : Pm} {W : WX} {c : Ctx}
theorem blk_kd (k : CtxOk X P W c) : X.env.blockKind = .function := by
  unfold Env.blockKind
  rw [k.kd]
  rfl
theorem lc_parts (k : CtxOk X P W c) {t : Tg} {s : Sr} {g : E} {own : List Nat} {u : E} {b : Bool} {elt : Expr} {gs : List Comprehension} {scope : Scope} {p : Pos} (d : DepsOk X (dE (.lc t s g own u))) (h : ck c b (.lc t s g own u) (.ListComp elt gs scope p) = true) :
    ∃ tg it ifs, gs = [⟨tg, it, ifs, 0⟩] ∧ ∃ own', own'.map (·.2) = own ∧ BlkOk X.N X.env.scope scope own' ∧ PI X tg it (TIs P W s) ∧
      (∀ (s : Shared) (H : Hp) (C : Addr) (cl : List (Str × Addr)) (fp : List Addr), PG (X.blk s H scope (compEnvC scope cl C X.env) fp) tg (GT P t)) ∧ (∀ (s : Shared) (H : Hp) (C : Addr) (cl : List (Str × Addr)) (fp : List Addr), PTs (X.blk s H scope (compEnvC scope cl C X.env) fp) ifs (TTt P W0 g)) ∧
      (∀ (s : Shared) (H : Hp) (C : Addr) (cl : List (Str × Addr)) (fp : List Addr), PE (X.blk s H scope (compEnvC scope cl C X.env) fp) elt (TD P W0 u)) ∧ (∀ i ∈ tv t, i ∈ own'.map (·.2)) ∧ ∀ x, foldedSetIterable it X.env x = pure x := by
  match gs, h with
  | [⟨tg, it, ifs, 0⟩], h =>
    have h : (blkC c.N c.sc scope (ownL c.N own) && pl it && csr c tg s it && cTg (inner c scope) t tg && (tv t).all (fun i => own.contains i) && cif (isYes g) (ct (inner c scope) g) ifs && ck (inner c scope) false u elt) = true := h
    rw [Bool.and_eq_true, Bool.and_eq_true, Bool.and_eq_true, Bool.and_eq_true, Bool.and_eq_true, Bool.and_eq_true] at h
    obtain ⟨⟨⟨⟨⟨⟨h1, h2⟩, h3⟩, h4⟩, h5⟩, h6⟩, h7⟩ := h
    rw [← k.N, ← k.sc] at h1
    have ok := blkOk_by h1
    have e1 : (ownL X.N own).map (·.2) = own := by
      unfold ownL
      rw [List.map_map]
      exact List.map_id own
    have ho : ∀ i ∈ tv t, i ∈ (ownL X.N own).map (·.2) := fun i hi => by
      rw [e1]
      have q := List.all_eq_true.mp h5 i hi
      simpa using q
    refine ⟨tg, it, ifs, rfl, ownL X.N own, e1, ok, csr_ok s k d.l h3, fun s' H' C cl fp => cTg_ok (inner_ok k ok s' H' C cl fp) h4, fun s' H' C cl fp => ?_, fun s' H' C cl fp => (ck_ok u (inner_ok k ok s' H' C cl fp) (dep_blk d.r.r s' H' fp) h7).2 rfl, ho, fun x => pl_set h2⟩
    match ifs, h6 with
    | [], h6 =>
      rw [isYes_eq h6]
      exact pts_yes
    | [e], h6 => exact pts_one (ct_ok g (inner_ok k ok s' H' C cl fp) (dep_blk d.r.l s' H' fp) h6).1
theorem lc_list {t : Tg} {s : Sr} {g : E} {own : List Nat} {u : E} (ρ : En) (dd : PyData) (hd : ev (.lc t s g own u) ρ = .ok dd) : ∃ ds, dd = .list ds := by
  have hd : ((evr s ρ).bind fun ds => if ds.length < sizeLine then lcR (lcF t (ev g) (ev u) (wipeE ρ own) ds) else .bad) = .ok dd := hd
  cases z : evr s ρ with
  | ok ds =>
    rw [z] at hd
    have hd : (if ds.length < sizeLine then lcR (lcF t (ev g) (ev u) (wipeE ρ own) ds) else .bad) = .ok dd := hd
    by_cases cl : ds.length < sizeLine
    · rw [if_pos cl] at hd
      cases z2 : lcF t (ev g) (ev u) (wipeE ρ own) ds with
      | some xs => rw [z2] at hd; cases hd; exact ⟨_, rfl⟩
      | none => rw [z2] at hd; cases hd
    · rw [if_neg cl] at hd; cases hd
  | exc c p => rw [z] at hd; cases hd
  | bad => rw [z] at hd; cases hd
theorem lc_new (k : CtxOk X P W c) {t : Tg} {s : Sr} {g : E} {own : List Nat} {u : E} {b : Bool} {elt : Expr} {gs : List Comprehension} {scope : Scope} {p : Pos} (d : DepsOk X (dE (.lc t s g own u))) (h : ck c b (.lc t s g own u) (.ListComp elt gs scope p) = true) : PE X (.ListComp elt gs scope p) (TN P W (.lc t s g own u)) := by
  obtain ⟨tg, it, ifs, rfl, own', e, ok, hi, hg, ht, he, ho, hs⟩ := lc_parts k d h
  subst e
  exact rn_lc k.calm k.nd hi ok hg ht he ho hs
theorem swaps_lc {elt : Expr} {gs : List Comprehension} {scope : Scope} {p pt : Pos} {t : Str} {line : Nat} {env : Env} : swapsWith (.ListComp elt gs scope p) (some (.Name t pt)) line env = pure (env.blockKind == .function && env.kindOf t == some .local && pt.line == p.line && !(scope.names.any fun (n, k) => n == t && (k == .local || k == .cell))) := rfl
theorem lc_store (k : CtxOk X P W c) {ir : E} {x : Str} {px : Pos} {v : Expr} {spos : Pos} {i : Nat} (d : DepsOk X (dE ir)) (hx : X.N[i]? = some x) (h : lcC c x px ir v = true) : ∃ te : TE, PS X (.Assign [.Name x px] v spos) (tAsg te (gName i)) ∧ ∀ σ H Q, TN P W ir σ H Q → te σ H Q := by
  cases ir with
  | lc t s g own u =>
    cases v with
    | ListComp elt gs scope p =>
      have h0 : ∃ tg it ifs, gs = [⟨tg, it, ifs, 0⟩] := by
        match gs, h with
        | [⟨tg, it, ifs, 0⟩], _ => exact ⟨_, _, _, rfl⟩
      obtain ⟨tg0, it0, ifs0, e0⟩ := h0
      subst e0
      have h : (isK .local (kAt c x) && px.line == p.line && !(scope.names.any fun (n, k) => n == x && (k == .local || k == .cell)) && ck c false (.lc t s g own u) (.ListComp elt [⟨tg0, it0, ifs0, 0⟩] scope p)) = true := h
      rw [Bool.and_eq_true, Bool.and_eq_true, Bool.and_eq_true] at h
      obtain ⟨⟨⟨h1, h2⟩, h3⟩, h4⟩ := h
      obtain ⟨tg, it, ifs, e, own', e2, ok, hi, hg, ht, he, ho, hs⟩ := lc_parts k d h4
      cases e
      subst e2
      have hl : X.env.scope.names.lookup x = some .local := by rw [k.sc]; exact isK_eq h1
      refine ⟨_, ps_setLc k.calm k.nd hx hl ?_ hi ok hg ht he hs, fun σ H Q => lc_tLc ho⟩
      rw [swaps_lc, blk_kd k]
      have e3 : X.env.kindOf x = some .local := hl
      rw [e3, h2, h3]
      rfl
    | _ => exact absurd h Bool.false_ne_true
  | _ => exact absurd h Bool.false_ne_true
theorem nswp_ok (k : CtxOk X P W c) {x : Str} {px : Pos} {v : Expr} {line : Nat} (h : nswp c x px v = true) : swapsWith v (some (.Name x px)) line X.env = pure false := by
  cases v with
  | ListComp elt gs scope p =>
    rw [swaps_lc, blk_kd k]
    have h : (!(isK .local (kAt c x) && px.line == p.line && !(scope.names.any fun (n, k) => n == x && (k == .local || k == .cell)))) = true := h
    have h := not_t h
    by_cases e : X.env.kindOf x = some .local
    · have e2 : isK .local (kAt c x) = true := by
        have e : X.env.scope.names.lookup x = some .local := e
        rw [k.sc] at e
        unfold kAt
        rw [e]
        rfl
      rw [e2] at h
      rw [e]
      congr 1
    · have e2 : (X.env.kindOf x == some NameKind.local) = false := by
        rw [beq_eq_false_iff_ne]; exact e
      rw [e2]
      rfl
  | _ => first | rfl | exact absurd h Bool.false_ne_true
theorem swaps_no {v : Expr} {t : Option Expr} {line : Nat} {env : Env} (h : pl v = true) (h2 : isLc v = false) : swapsWith v t line env = pure false := by
  cases v <;> first | rfl | exact absurd h Bool.false_ne_true | exact Bool.noConfusion (show true = false from h2)
theorem swapped_no {tg v : Expr} {env : Env} (h : pl v = true) (h2 : isTup v = false) : swappedStores [tg] v env = pure none := by
  cases v <;> first
    | exact absurd h Bool.false_ne_true
    | (cases tg <;> rfl)
    | exact Bool.noConfusion (show true = false from h2)
theorem swapped_sub {o i v : Expr} {p : Pos} {env : Env} : swappedStores [.Subscript o i p] v env = pure none := by
  cases v <;> rfl
theorem star_no : ∀ {a : Expr}, pl a = true → (match a with | .Starred .. => true | _ => false) = false := fun {a} ha => by cases a <;> first | rfl | exact absurd ha Bool.false_ne_true
theorem swapped_par {x y : Str} {px py pt pt2 : Pos} {kt k2 : Nat} {a b : Expr} (k : CtxOk X P W c) (hx : X.env.kindOf x = some .local) (hy : X.env.kindOf y = some .local) (hne : (x == y) = false) (hl : (px.line == py.line) = true) (ha : pl a = true) (hb : pl b = true)
    (h1 : [a, b].all (foldedForSure 8) = false) (h2 : [a, b].all (constantsAlone 8) = false) : swappedStores [.Tuple [.Name x px, .Name y py] kt pt] (.Tuple [a, b] k2 pt2) X.env = pure (some [x, y]) := by
  have n1 := star_no ha
  have n2 := star_no hb
  have e1 : py.line = px.line := by rw [beq_iff_eq] at hl; exact hl.symm
  have e2 : ([x, y] : List Str).eraseDups = [x, y] := by
    have h : (y == x) = false := by rw [beq_eq_false_iff_ne] at hne ⊢; exact fun e => hne e.symm
    simp [List.eraseDups_cons, List.filter, h]
  have e4 : (Expr.Name x px).pos = px := rfl
  unfold swappedStores
  simp [blk_kd k, hx, hy, h1, h2, n1, n2, e1, e2, e4, List.filterMap]
  intro h
  rcases h with h | h
  · exact absurd (h.symm.trans n1) (by decide)
  · exact absurd (h.symm.trans n2) (by decide)
theorem cn_ok (k : CtxOk X P W c) {ir : E} {e : Expr} (d : DepsOk X (dE ir)) (h : cn c ir e = true) : PE X e (TN P W ir) := by
  cases ir with
  | lst us =>
    cases e with
    | List es p => exact rn_lst (cks_ok us k d h)
    | _ => exact absurd h Bool.false_ne_true
  | op o u v =>
    cases o with
    | add =>
      cases e with
      | BinOp x op y p =>
        cases op with
        | Add =>
          have h : (ck c true u x && ck c true v y) = true := h
          rw [Bool.and_eq_true] at h
          exact rn_add k.hK (ck_ok u k d.l h.1).1 (ck_ok v k d.r h.2).1
        | _ => exact absurd h Bool.false_ne_true
      | _ => exact absurd h Bool.false_ne_true
    | _ => exact absurd h Bool.false_ne_true
  | slN u =>
    cases e with
    | Subscript x y p =>
      cases y with
      | Slice l m s p2 =>
        match l, m, s, h with
        | none, none, none, h => exact rn_slN k.hK (ck_ok u k d h).1
      | _ => exact absurd h Bool.false_ne_true
    | _ => exact absurd h Bool.false_ne_true
  | slL u v =>
    cases e with
    | Subscript x y p =>
      cases y with
      | Slice l m s p2 =>
        match l, m, s, h with
        | some l, none, none, h =>
          have h : (ck c true u x && ck c true v l) = true := h
          rw [Bool.and_eq_true] at h
          exact rn_slL k.hK (ck_ok u k d.l h.1).1 (ck_ok v k d.r h.2).1
      | _ => exact absurd h Bool.false_ne_true
    | _ => exact absurd h Bool.false_ne_true
  | slU u v =>
    cases e with
    | Subscript x y p =>
      cases y with
      | Slice l m s p2 =>
        match l, m, s, h with
        | none, some l, none, h =>
          have h : (ck c true u x && ck c true v l) = true := h
          rw [Bool.and_eq_true] at h
          exact rn_slU k.hK (ck_ok u k d.l h.1).1 (ck_ok v k d.r h.2).1
      | _ => exact absurd h Bool.false_ne_true
    | _ => exact absurd h Bool.false_ne_true
  | slB u v w =>
    cases e with
    | Subscript x y p =>
      cases y with
      | Slice l m s p2 =>
        match l, m, s, h with
        | some l, some m, none, h =>
          have h : (ck c true u x && ck c true v l && ck c true w m) = true := h
          rw [Bool.and_eq_true, Bool.and_eq_true] at h
          exact rn_slB k.hK (ck_ok u k d.l h.1.1).1 (ck_ok v k d.r.l h.1.2).1 (ck_ok w k d.r.r h.2).1
      | _ => exact absurd h Bool.false_ne_true
    | _ => exact absurd h Bool.false_ne_true
  | rev u =>
    cases e with
    | Subscript x y p =>
      cases y with
      | Slice l m s p2 =>
        match l, m, s, h with
        | none, none, some (.UnaryOp .USub (.Constant (.int 1) _ _) _), h => exact rn_rev k.hK (ck_ok u k d h).1
      | _ => exact absurd h Bool.false_ne_true
    | _ => exact absurd h Bool.false_ne_true
  | fn o u =>
    cases o with
    | list =>
      cases e with
      | Call f es ks p =>
        cases f with
        | Name y p2 =>
          match es, ks, h with
          | [e], [], h =>
            have h : ((y == ("list" : Str)) && gl c y && pl e && ck c true u e) = true := h
            rw [Bool.and_eq_true, Bool.and_eq_true, Bool.and_eq_true, beq_iff_eq] at h
            obtain ⟨⟨⟨rfl, h1⟩, h2⟩, h3⟩ := h
            have d : DepsOk X ([.bl "list"] ++ dE u) := d
            exact rn_list k.hK (gl_ok k h1).1 (DepsOk.hd d.l) (ck_ok u k d.r h3).1 (pl_star h2)
        | _ => exact absurd h Bool.false_ne_true
      | _ => exact absurd h Bool.false_ne_true
    | _ => exact absurd h Bool.false_ne_true
  | _ => exact absurd h Bool.false_ne_true
end
theorem lcN_ok {X : Cx} {P : Pm} {W : WX} {c : Ctx} (k : CtxOk X P W c) {ir : E} {e : Expr} (d : DepsOk X (dE ir)) (h : lcN c ir e = true) : PE X e (TN P W ir) := by
  cases ir with
  | lc t s g own u =>
    cases e with
    | ListComp elt gs scope p => exact lc_new (b := false) k d h
    | _ => exact absurd h Bool.false_ne_true
  | _ => exact absurd h Bool.false_ne_true
mutual
theorem cm_ok : ∀ (n : NE) {X : Cx} {P : Pm} {W : WX} {c : Ctx} {e : Expr}, CtxOk X P W c → DepsOk X (dN n) → cm c n e = true → PE X e (TM P W n)
  | .e a, X, P, W, c, e, k, d, h => rm_e ((ck_ok a k d h).2 rfl)
  | .fl a, X, P, W, c, e, k, d, h => by
    have h : (cn c a e || lcN c a e) = true := h
    rw [Bool.or_eq_true] at h
    exact rm_fl (h.elim (cn_ok k d) (lcN_ok k d))
  | .lst l, X, P, W, c, e, k, d, h => by
    cases e with
    | List es p => exact rm_lst (cms_ok l k d h)
    | _ => exact absurd h Bool.false_ne_true
  | .tup l, X, P, W, c, e, k, d, h => by
    cases e with
    | Tuple es n p => exact rm_tup (cms_ok l k d h)
    | _ => exact absurd h Bool.false_ne_true
  | .call x g sh us, X, P, W, c, e, k, d, h => by
    cases e with
    | Call f es ks p =>
      cases f with
      | Name y p2 =>
        match es, ks, h with
        | e :: es, [], h =>
          have h : (x == y && gl c x && (pl e && pls es) && cks c us (e :: es)) = true := h
          rw [Bool.and_eq_true, Bool.and_eq_true, Bool.and_eq_true, Bool.and_eq_true, beq_iff_eq] at h
          obtain ⟨⟨⟨rfl, h1⟩, h2, h3⟩, h4⟩ := h
          obtain ⟨g1, g2, _⟩ := gl_ok k h1
          have hf : FOkN X x g sh := d.hd
          exact rm_call k.hK k.hM k.tk hf g1 g2 (cks_ok us k d.tl h4) (pl_star h2) (pls_star h3)
      | _ => exact absurd h Bool.false_ne_true
    | _ => exact absurd h Bool.false_ne_true
theorem cms_ok : ∀ (l : NEs) {X : Cx} {P : Pm} {W : WX} {c : Ctx} {es : List Expr}, CtxOk X P W c → DepsOk X (dNs l) → cms c l es = true → PA X es (TMs P W l)
  | .nil, X, P, W, c, es, k, d, h => by
    cases es with
    | nil => exact rms_nil
    | cons e es => exact absurd h Bool.false_ne_true
  | .cons n l, X, P, W, c, es, k, d, h => by
    cases es with
    | nil => exact absurd h Bool.false_ne_true
    | cons e es =>
      have h : (pl e && cm c n e && cms c l es) = true := h
      rw [Bool.and_eq_true, Bool.and_eq_true] at h
      exact rms_cons (cm_ok n k d.l h.1.2) (cms_ok l k d.r h.2) (pl_star h.1.1)
end
/-- a new list, as a thing made anew -/
theorem tn_fl {P : Pm} {W : WX} {a : E} {σ : L2.St} {H : Hp} {Q : VK} : TM P W (.fl a) σ H Q → TN P W a σ H Q := fun ⟨ρ, S, r, q⟩ => by
  have q : RM P W S σ H ((ev a ρ).bind flM) Q := q
  refine ⟨ρ, S, r, ?_⟩
  cases z : ev a ρ with
  | ok d =>
    rw [z] at q
    cases d with
    | list ds =>
      have q : RM P W S σ H (.ok (.fl ds)) Q := q
      intro a vs H' s n l k y
      rw [addS_L] at k y
      exact q (.ref a) [a] H' s (fun b hb => by rw [List.mem_singleton.mp hb]; exact n) k (.fl (.inr List.mem_cons_self) (fun z => r.al a (r.fs a z) n) l y)
    | _ => exact q.elim
  | exc c p => rw [z] at q; exact q
  | bad => rw [z] at q; exact q
mutual
theorem cS_ok : ∀ (s : S) {X : Cx} {P : Pm} {W : WX} {c : Ctx} {st : Stmt}, CtxOk X P W c → PassesOwn (model X.prog X.w) X.A X.env X.xe → DepsOk X (dS s) → cS c s st = true → PS X st (TSt P W s)
  | .set i e, X, P, W, c, st, k, hp, d, h => by
    cases st with
    | Assign tgs v p =>
      match tgs, h with
      | [.Name x px], h =>
        have h : (loc c i x && ((nswp c x px v && ck c false e v) || lcC c x px e v)) = true := h
        rw [Bool.and_eq_true, Bool.or_eq_true, Bool.and_eq_true] at h
        obtain ⟨h1, h2⟩ := h
        obtain ⟨g1, g2, g3⟩ := loc_ok k h1
        rcases h2 with ⟨h2, h3⟩ | h2
        · exact rs_set k.nd g1 g2 ((ck_ok e k d h3).2 rfl) (nswp_ok k h2) g3
        · obtain ⟨te, q1, q2⟩ := lc_store k d g1 h2
          have hl : ∀ ρ dd, ev e ρ = .ok dd → ∃ ds, dd = .list ds := by
            cases e with
            | lc t s g own u => exact lc_list
            | _ => exact absurd h2 Bool.false_ne_true
          exact PS.imp q1 fun D σ H ⟨ρ, S, r, q⟩ => q2 σ H _ (td_tn hl ⟨ρ, S, r, fd_rd r q fun v H' d s r' y q' => q' _ _ S (r'.put y) (Same.refl _)⟩)
    | _ => exact absurd h Bool.false_ne_true
  | .setN i n, X, P, W, c, st, k, hp, d, h => by
    cases st with
    | Assign tgs v p =>
      match tgs, h with
      | [.Name x px], h =>
        have h : (loc c i x && ((nswp c x px v && cm c n v) || lcM c x px n v)) = true := h
        rw [Bool.and_eq_true, Bool.or_eq_true, Bool.and_eq_true] at h
        obtain ⟨h1, h2⟩ := h
        obtain ⟨g1, g2, g3⟩ := loc_ok k h1
        rcases h2 with ⟨h2, h3⟩ | h2
        · exact rs_setN k.nd g1 g2 (cm_ok n k d h3) (nswp_ok k h2) g3
        · cases n with
          | fl e =>
            obtain ⟨te, q1, q2⟩ := lc_store k d g1 h2
            exact PS.imp q1 fun D σ H ⟨ρ, S, r, q⟩ => q2 σ H _ (tn_fl ⟨ρ, S, r, rm_put r q⟩)
          | _ => exact absurd h2 Bool.false_ne_true
    | _ => exact absurd h Bool.false_ne_true
  | .par i j u v, X, P, W, c, st, k, hp, d, h => by
    cases st with
    | Assign tgs w p =>
      match tgs, w, h with
      | [.Tuple [.Name x px, .Name y py] kt pt], .Tuple [a, b] k2 pt2, h =>
        have h : (loc c i x && loc c j y && isK .local (kAt c x) && isK .local (kAt c y) && decide (i ≠ j) && !(x == y) && px.line == py.line && cks c (.cons u (.cons v .nil)) [a, b] && !([a, b].all (foldedForSure 8)) && !([a, b].all (constantsAlone 8))) = true := h
        rw [Bool.and_eq_true, Bool.and_eq_true, Bool.and_eq_true, Bool.and_eq_true, Bool.and_eq_true, Bool.and_eq_true, Bool.and_eq_true, Bool.and_eq_true, Bool.and_eq_true, decide_eq_true_eq] at h
        obtain ⟨⟨⟨⟨⟨⟨⟨⟨⟨h1, h2⟩, h3⟩, h4⟩, h5⟩, h6⟩, h7⟩, h8⟩, h9⟩, h10⟩ := h
        obtain ⟨g1, _, _⟩ := loc_ok k h1
        obtain ⟨g2, _, _⟩ := loc_ok k h2
        have l1 : X.env.scope.names.lookup x = some .local := by rw [k.sc]; exact isK_eq h3
        have l2 : X.env.scope.names.lookup y = some .local := by rw [k.sc]; exact isK_eq h4
        have p8 : (pl a && ck c false u a && (pl b && ck c false v b && true)) = true := h8
        rw [Bool.and_eq_true, Bool.and_eq_true, Bool.and_eq_true, Bool.and_eq_true] at p8
        have d : DepsOk X (dEs (.cons u (.cons v .nil))) := fun z m => d z (by
          have m : z ∈ dE u ++ (dE v ++ []) := m
          rw [List.append_nil] at m
          exact m)
        exact rs_par k.calm k.nd g1 g2 h5 l1 l2 (cks_ok _ k d h8) (swapped_par k l1 l2 (not_t h6) h7 p8.1.1 p8.2.1.1 (not_t h9) (not_t h10)) rfl
    | _ => exact absurd h Bool.false_ne_true
  | .unp t e, X, P, W, c, st, k, hp, d, h => by
    cases st with
    | Assign tgs v p =>
      match tgs, h with
      | [tg], h =>
        have h : (isTup tg && pl v && !(isLc v) && !(isTup v) && cTg c t tg && ck c false e v) = true := h
        rw [Bool.and_eq_true, Bool.and_eq_true, Bool.and_eq_true, Bool.and_eq_true, Bool.and_eq_true] at h
        obtain ⟨⟨⟨⟨⟨h1, h2⟩, h3⟩, h4⟩, h5⟩, h6⟩ := h
        refine rs_unp ((ck_ok e k d h6).2 rfl) (cTg_ok k h5) (swaps_no h2 (not_t h3)) (swapped_no h2 (not_t h4)) ?_
        cases tg <;> first | rfl | exact absurd h1 Bool.false_ne_true
    | _ => exact absurd h Bool.false_ne_true
  | .app i e, X, P, W, c, st, k, hp, d, h => by
    cases st with
    | Expr w p =>
      match w, h with
      | .Call (.Attribute (.Name x px) m ap) [v] [] cp, h =>
        have h : ((m == ("append" : Str)) && vis c i x && ap.endLine == cp.line && pl v && ck c false e v) = true := h
        rw [Bool.and_eq_true, Bool.and_eq_true, Bool.and_eq_true, Bool.and_eq_true, beq_iff_eq] at h
        obtain ⟨⟨⟨⟨rfl, h1⟩, h2⟩, h3⟩, h4⟩ := h
        obtain ⟨g1, g2, g3, g4⟩ := vis_ok k h1
        have e1 : starEach [v] X.env = [(false, eval v X.env)] := pl_star h3
        exact rs_app g1 g2 g3 g4 ((ck_ok e k d h4).2 rfl) rfl (by rw [e1]; rfl) h2 e1 rfl
    | _ => exact absurd h Bool.false_ne_true
  | .ext i e, X, P, W, c, st, k, hp, d, h => by
    cases st with
    | Expr w p =>
      match w, h with
      | .Call (.Attribute (.Name x px) m ap) [v] [] cp, h =>
        have h : ((m == ("extend" : Str)) && vis c i x && ap.endLine == cp.line && pl v && ck c true e v) = true := h
        rw [Bool.and_eq_true, Bool.and_eq_true, Bool.and_eq_true, Bool.and_eq_true, beq_iff_eq] at h
        obtain ⟨⟨⟨⟨rfl, h1⟩, h2⟩, h3⟩, h4⟩ := h
        obtain ⟨g1, g2, g3, g4⟩ := vis_ok k h1
        have e1 : starEach [v] X.env = [(false, eval v X.env)] := pl_star h3
        exact rs_ext k.hK g1 g2 g3 g4 (ck_ok e k d h4).1 rfl (by rw [e1]; rfl) h2 e1 rfl
    | _ => exact absurd h Bool.false_ne_true
  | .clr i, X, P, W, c, st, k, hp, d, h => by
    cases st with
    | Expr w p =>
      match w, h with
      | .Call (.Attribute (.Name x px) m ap) [] [] cp, h =>
        have h : ((m == ("clear" : Str)) && vis c i x && ap.endLine == cp.line) = true := h
        rw [Bool.and_eq_true, Bool.and_eq_true, beq_iff_eq] at h
        obtain ⟨⟨rfl, h1⟩, h2⟩ := h
        obtain ⟨g1, g2, g3, g4⟩ := vis_ok k h1
        exact rs_clr g1 g2 g3 g4 rfl h2 rfl
    | _ => exact absurd h Bool.false_ne_true
  | .sti i n e, X, P, W, c, st, k, hp, d, h => by
    cases st with
    | Assign tgs v p =>
      match tgs, h with
      | [.Subscript (.Name x px) y sp], h =>
        have h : (vis c i x && pl y && pl v && !(isLc v) && ck c true n y && ck c false e v) = true := h
        rw [Bool.and_eq_true, Bool.and_eq_true, Bool.and_eq_true, Bool.and_eq_true, Bool.and_eq_true] at h
        obtain ⟨⟨⟨⟨⟨h1, h2⟩, h3⟩, h4⟩, h5⟩, h6⟩ := h
        obtain ⟨g1, g2, g3, g4⟩ := vis_ok k h1
        exact rs_sti g1 g2 g3 g4 ((ck_ok e k d.r h6).2 rfl) (ck_ok n k d.l h5).1 (fun v => by cases y <;> first | rfl | exact absurd h2 Bool.false_ne_true) (show swapsWith v (some (.Subscript (.Name x px) y sp)) p.line X.env = pure false from swaps_no h3 (not_t h4)) swapped_sub rfl
    | _ => exact absurd h Bool.false_ne_true
  | .drop e, X, P, W, c, st, k, hp, d, h => by
    cases st with
    | Expr v p =>
      have h : (pl v && !(isLc v) && ck c false e v) = true := h
      rw [Bool.and_eq_true, Bool.and_eq_true] at h
      exact rs_drop ((ck_ok e k d h.2).2 rfl) (swaps_no h.1.1 (not_t h.1.2))
    | _ => exact absurd h Bool.false_ne_true
  | .pass, X, P, W, c, st, k, hp, d, h => by
    cases st with
    | Pass p => exact rs_pass
    | Expr v p =>
      match v, h with
      | .Constant (.str x) j p1, _ => exact rs_doc
    | _ => exact absurd h Bool.false_ne_true
  | .ret e, X, P, W, c, st, k, hp, d, h => by
    cases st with
    | Return v p =>
      match v, h with
      | some v, h => exact rs_ret (ck_ok e k d h).1
    | _ => exact absurd h Bool.false_ne_true
  | .rtn n, X, P, W, c, st, k, hp, d, h => by
    cases st with
    | Return v p =>
      match v, h with
      | some v, h => exact rs_rtn (cm_ok n k d h)
    | _ => exact absurd h Bool.false_ne_true
  | .rto i, X, P, W, c, st, k, hp, d, h => by
    cases st with
    | Return v p =>
      match v, h with
      | some (.Name x px), h =>
        obtain ⟨g1, g2, g3, g4⟩ := vis_ok k h
        exact rs_rto g1 g2 g3 g4
    | _ => exact absurd h Bool.false_ne_true
  | .retN, X, P, W, c, st, k, hp, d, h => by
    cases st with
    | Return v p =>
      match v, h with
      | none, h => exact rs_retN
    | _ => exact absurd h Bool.false_ne_true
  | .if_ t u v, X, P, W, c, st, k, hp, d, h => by
    cases st with
    | If e a b p =>
      have h : (ct c t e && cSs c u a && cSs c v b) = true := h
      rw [Bool.and_eq_true, Bool.and_eq_true] at h
      exact rs_if (ct_ok t k d.l h.1.1).1 (cSs_ok u k hp d.r.l h.1.2) (cSs_ok v k hp d.r.r h.2)
    | _ => exact absurd h Bool.false_ne_true
  | .for_ t s u, X, P, W, c, st, k, hp, d, h => by
    cases st with
    | For tg it a o p =>
      match o, h with
      | [], h =>
        have h : (pl it && csr c tg s it && cTg c t tg && cSs c u a) = true := h
        rw [Bool.and_eq_true, Bool.and_eq_true, Bool.and_eq_true] at h
        exact rs_for hp k.calm (csr_ok s k d.l h.1.1.2) (cTg_ok k h.1.2) (cSs_ok u k hp d.r h.2) (fun x => pl_set h.1.1.1)
    | _ => exact absurd h Bool.false_ne_true
  | .whl t u, X, P, W, c, st, k, hp, d, h => by
    cases st with
    | While e a o p =>
      match o, h with
      | [], h =>
        have h : (ct c t e && cSs c u a) = true := h
        rw [Bool.and_eq_true] at h
        exact rs_whl hp (ct_ok t k d.l h.1).1 (cSs_ok u k hp d.r h.2)
    | _ => exact absurd h Bool.false_ne_true
  | .brk, X, P, W, c, st, k, hp, d, h => by
    cases st with
    | Break p => exact rs_brk
    | _ => exact absurd h Bool.false_ne_true
  | .cnt, X, P, W, c, st, k, hp, d, h => by
    cases st with
    | Continue p => exact rs_cnt
    | _ => exact absurd h Bool.false_ne_true
  | .never, X, P, W, c, st, k, hp, d, h => rs_never
  | .esc l s, X, P, W, c, st, k, hp, d, h => rs_esc (cS_ok s k hp d h)
theorem cSs_ok : ∀ (s : Ss) {X : Cx} {P : Pm} {W : WX} {c : Ctx} {st : List Stmt}, CtxOk X P W c → PassesOwn (model X.prog X.w) X.A X.env X.xe → DepsOk X (dSs s) → cSs c s st = true → PSs X st (TSs P W s)
  | .nil, X, P, W, c, st, k, hp, d, h => by
    cases st with
    | nil => exact rss_nil
    | cons a b => exact absurd h Bool.false_ne_true
  | .cons s l, X, P, W, c, st, k, hp, d, h => by
    cases st with
    | nil => exact absurd h Bool.false_ne_true
    | cons a b =>
      have h : (cS c s a && cSs c l b) = true := h
      rw [Bool.and_eq_true] at h
      exact rss_cons (cS_ok s k hp d.l h.1) (cSs_ok l k hp d.r h.2)
end
end Dy

namespace Dy
open PySem PySem.Spec PyProof.Rows L2
open Classical
section
variable {P : Program} {w : World} {K : PySem.W.Frag} {mg : Str → Option Value} {base : Heap}
structure DOk (P : Program) (w : World) (K : PySem.W.Frag) (mg : Str → Option Value) (base : Heap) (j : Nat) (x : Str) (g : Sem) : Prop where
  ex : ∃ f fd ps n, mg x = some (.ref f) ∧ PySem.W.keepIn K (.ref f) = true ∧ FnOk P w K mg base (L2.CX P w) j f fd ps (spec K mg n g) ∧ Binds K fd ps [] ∧ ∀ ds, g ds ≠ .bad → ds.length = n
theorem DOk.mono {j k : Nat} {x : Str} {g : Sem} (h : DOk P w K mg base j x g) (l : j ≤ k) : DOk P w K mg base k x g := by
  obtain ⟨f, fd, ps, n, h1, h2, h3, h4, h5⟩ := h.ex
  exact ⟨f, fd, ps, n, h1, h2, h3.mono l, h4, h5⟩
structure DOkN (P : Program) (w : World) (K : PySem.W.Frag) (mg : Str → Option Value) (base : Heap) (j : Nat) (x : Str) (g : Sem) (sh : PyData → MT) : Prop where
  ex : ∃ f fd ps n, mg x = some (.ref f) ∧ PySem.W.keepIn K (.ref f) = true ∧ FnOk P w K mg base (L2.CX P w) j f fd ps (specN K mg n g sh) ∧ Binds K fd ps [] ∧ ∀ ds, g ds ≠ .bad → ds.length = n
theorem DOkN.mono {j k : Nat} {x : Str} {g : Sem} {sh : PyData → MT} (h : DOkN P w K mg base j x g sh) (l : j ≤ k) : DOkN P w K mg base k x g sh := by
  obtain ⟨f, fd, ps, n, h1, h2, h3, h4, h5⟩ := h.ex
  exact ⟨f, fd, ps, n, h1, h2, h3.mono l, h4, h5⟩
/-- new or not, it is a datum -/
theorem DOkN.data {j : Nat} {x : Str} {g : Sem} {sh : PyData → MT} (hd : ∀ d, (sh d).d = d) (h : DOkN P w K mg base j x g sh) : DOk P w K mg base j x g := by
  obtain ⟨f, fd, ps, n, h1, h2, h3, h4, h5⟩ := h.ex
  exact ⟨f, fd, ps, n, h1, h2, h3.imp fun _ _ _ _ q => spec_N hd q, h4, h5⟩
theorem shF_d : ∀ d, (shF d).d = d
  | .none => rfl
  | .bool _ => rfl
  | .int _ => rfl
  | .str _ => rfl
  | .list _ => rfl
  | .tuple _ => rfl
  | .dict _ => rfl
def DepD (P : Program) (w : World) (K : PySem.W.Frag) (mg : Str → Option Value) (base : Heap) (j : Nat) : Dep → Prop
  | .fn x g => DOk P w K mg base j x g
  | .fnN x g sh => DOkN P w K mg base j x g sh
  | .gl x d => GOk K mg x d
  | .bl x => mg x = none
def AllP (p : Dep → Prop) : List Dep → Prop
  | [] => True
  | d :: l => p d ∧ AllP p l
theorem AllP.mem {p : Dep → Prop} : ∀ {l : List Dep}, AllP p l → ∀ d ∈ l, p d
  | a :: l, h, d, m => by
    rcases List.mem_cons.mp m with e | m
    · rw [e]; exact h.1
    · exact AllP.mem h.2 d m
theorem start_rs {n m : Nat} {N : List Str} {F : Addr → Prop} {H : Hp} {vs : List V} {ds : List PyData} (hN : N.length = n + m) (hl : ds.length = n) (hF : ∀ a, F a → H a ≠ none) (r : RpAll K (hid F H) vs ds) : Rs ⟨K, mg, H, F⟩ F (L2.start N vs) H (ds.map .val ++ List.replicate m .no) := ⟨fun _ => [], {
  same := Same.refl H
  fs := fun a h => h
  f0 := hF
  nw := fun a h => .inl h
  al := hF
  len := by
    have h := r.len
    unfold L2.start
    rw [List.length_append, List.length_append, List.length_map, List.length_map, List.length_replicate, List.length_replicate]
    omega
  sl := fun i d h => by
    by_cases hi : i < ds.length
    · rw [List.getElem?_append_left (by rw [List.length_map]; exact hi), List.getElem?_map] at h
      cases z : ds[i]? with
      | none => rw [z] at h; cases h
      | some d' =>
        rw [z] at h
        cases h
        obtain ⟨v, h1, h2⟩ := r.get z
        refine ⟨v, ?_, h2⟩
        unfold L2.start
        rw [List.getElem?_append_left (by rw [List.length_map, r.len]; exact hi), List.getElem?_map, h1]
        rfl
    · rw [List.getElem?_append_right (by rw [List.length_map]; omega), List.getElem?_replicate] at h
      split at h <;> cases h
  ow := fun i d h => by
    by_cases hi : i < ds.length
    · rw [List.getElem?_append_left (by rw [List.length_map]; exact hi), List.getElem?_map] at h
      cases z : ds[i]? with
      | none => rw [z] at h; cases h
      | some d' => rw [z] at h; cases h
    · rw [List.getElem?_append_right (by rw [List.length_map]; omega), List.getElem?_replicate] at h
      split at h <;> cases h
  di := fun i j d e _ h _ b hb => by cases hb }⟩
/-- a def's body, entered -/
theorem def_body {x : Str} {scope : Scope} {f : Addr} {N ps : List Str} {n m j : Nat} {b : Ss} {body : List Stmt} (S : FnScope N ps scope) (hN : N.length = n + m)
    (hd : AllP (DepD P w K mg base j) (dSs b)) (hc : cSs ⟨N, scope, fun _ => true⟩ b body = true) (cdv : Value) (A : Around) (outer : List Env) (s : Shared) (H : Hp) (E : XK) (hr : Room j (A.deeper (envOfC x scope s.heap.objs.size f cdv))) (Fh : Addr → Prop) :
    PSs (cxOf (L2.CX P w) P w K mg base N x scope f cdv A outer s H E) body (TSs ⟨K, mg, H, Fh⟩ (fun cls d _ H => E cls d H) b) := by
  refine cSs_ok b (c := ⟨N, scope, fun _ => true⟩) ?_ (passes_of rfl) ?_ hc
  · have q := hr.un
    exact ⟨rfl, rfl, fun _ _ => rfl, rfl, S.nd, S.kind, rfl, rfl, (show (A.deeper (envOfC x scope s.heap.objs.size f cdv)).units + 65 < cLine by omega), L2.takes_of rfl rfl rfl rfl⟩
  · intro d md
    have q := hd.mem d md
    cases d with
    | fn y g =>
      obtain ⟨f', fd', ps', n', h1, h2, h3, h4, h5⟩ := (show DOk P w K mg base j y g from q).ex
      exact (⟨⟨f', fd', ps', j, n', h1, h2, h3, hr, h4, h5⟩⟩ : FOk (cxOf (L2.CX P w) P w K mg base N x scope f cdv A outer s H E) y g)
    | fnN y g sh =>
      obtain ⟨f', fd', ps', n', h1, h2, h3, h4, h5⟩ := (show DOkN P w K mg base j y g sh from q).ex
      exact (⟨⟨f', fd', ps', j, n', h1, h2, h3, hr, h4, h5⟩⟩ : FOkN (cxOf (L2.CX P w) P w K mg base N x scope f cdv A outer s H E) y g sh)
    | gl y v => exact q
    | bl y => exact q
/-- a def whose text is what the small language says -/
theorem def_fn {x : Str} {params : Arguments} {body : List Stmt} {scope : Scope} {f : Addr} {fd : FuncData} {N ps : List Str} {n m j : Nat} {b : Ss} (F : FunD K x x params body scope [] [] f fd) (S : FnScope N ps scope) (hp : ps.length = n) (hN : N.length = n + m)
    (hd : AllP (DepD P w K mg base j) (dSs b)) (hc : cSs ⟨N, scope, fun _ => true⟩ b body = true) : FnOk P w K mg base (L2.CX P w) (j + 1) f fd ps (spec K mg n (def_ n m b)) := by
  refine F.ok S (fun vs H Q E h => h.1.trans hp.symm) fun cdv A outer s H vs Q E hr h => ?_
  obtain ⟨hl, ds, Fh, hF, hR, hq⟩ := h
  have hds : ds.length = n := by rw [← hR.len]; exact hl
  refine ⟨_, def_body S hN hd hc cdv A outer s H E hr Fh, ds.map .val ++ List.replicate m .no, Fh, start_rs hN hds hF hR, ?_⟩
  have e : def_ n m b ds = (match runs b (ds.map .val ++ List.replicate m .no) with
    | .rt d => .ok d
    | .rtn t => .ok t.d
    | .nx _ => .ok .none
    | .exc c p _ => .exc c p
    | _ => .bad) := if_pos hds
  rw [e] at hq
  cases z : runs b (ds.map .val ++ List.replicate m .no) with
  | nx ρ => rw [z] at hq; exact fun σ' H' S' r _ => hq .non H' r.same .non
  | rt d => rw [z] at hq; exact hq
  | rtn t => rw [z] at hq; exact fun v fp H' s n k y => hq v H' s (Ow.rp (fun a h => .inl h) y fun b hb z => hF b z (n b hb))
  | bk ρ => rw [z] at hq; exact hq.elim
  | ct ρ => rw [z] at hq; exact hq.elim
  | exc c p ρ => rw [z] at hq; exact fun C o σ' H' S' hm r _ hpay => hq C o H' hm r.same (hpay.mono (hid_sub r.fs))
  | bad => rw [z] at hq; exact hq.elim
theorem def_ok {x : Str} {params : Arguments} {body : List Stmt} {scope : Scope} {f : Addr} {fd : FuncData} {N ps : List Str} {n m j : Nat} {b : Ss} (F : FunD K x x params body scope [] [] f fd) (S : FnScope N ps scope) (hm : mg x = some (.ref f)) (hb : Binds K fd ps []) (hp : ps.length = n) (hN : N.length = n + m)
    (hd : AllP (DepD P w K mg base j) (dSs b)) (hc : cSs ⟨N, scope, fun _ => true⟩ b body = true) : DOk P w K mg base (j + 1) x (def_ n m b) :=
  ⟨f, fd, ps, n, hm, F.kp, def_fn F S hp hN hd hc, hb, fun ds h => by
    by_cases e : ds.length = n
    · exact e
    · exact absurd (if_neg e) h⟩
theorem rp_dat {K : PySem.W.Frag} {F : Addr → Prop} {H : Hp} {v : V} {d : PyData} (y : Rp K (hid F H) v d) : Ow K F (addL F []) H v (.dat d) [] := .dat (by rw [addL_nil]; exact y)
/-- a def whose result is new -/
theorem def_fnN {sh : PyData → MT} {x : Str} {params : Arguments} {body : List Stmt} {scope : Scope} {f : Addr} {fd : FuncData} {N ps : List Str} {n m j : Nat} {b : Ss} (F : FunD K x x params body scope [] [] f fd) (S : FnScope N ps scope) (hp : ps.length = n) (hN : N.length = n + m)
    (hd : AllP (DepD P w K mg base j) (dSs b)) (hc : cSs ⟨N, scope, fun _ => true⟩ b body = true) : FnOk P w K mg base (L2.CX P w) (j + 1) f fd ps (specN K mg n (defN sh n m b) sh) := by
  refine F.ok S (fun vs H Q E h => h.1.trans hp.symm) fun cdv A outer s H vs Q E hr h => ?_
  obtain ⟨hl, ds, Fh, hF, hR, hq⟩ := h
  have hds : ds.length = n := by rw [← hR.len]; exact hl
  refine ⟨_, def_body S hN hd hc cdv A outer s H E hr Fh, ds.map .val ++ List.replicate m .no, Fh, start_rs hN hds hF hR, ?_⟩
  have e : defN sh n m b ds = (match runs b (ds.map .val ++ List.replicate m .no) with
    | .rt d => if sh d = .dat d then .ok d else .bad
    | .rtn t => if sh t.d = t then .ok t.d else .bad
    | .nx _ => if sh .none = .dat .none then .ok .none else .bad
    | .exc c p _ => .exc c p
    | _ => .bad) := if_pos hds
  rw [e] at hq
  have nil : ∀ b ∈ ([] : List Addr), H b = none := fun b hb => by cases hb
  have sm : ∀ {H'}, Same H H' → Same (hid Fh H) (hid (addL Fh []) H') := fun s => by rw [addL_nil]; exact hid_same s
  cases z : runs b (ds.map .val ++ List.replicate m .no) with
  | nx ρ =>
    rw [z] at hq
    by_cases c : sh .none = .dat .none
    · simp only [if_pos c] at hq
      exact fun σ' H' S' r _ => hq .non [] H' r.same nil (sm r.same) (by rw [c]; exact rp_dat .non)
    · simp only [if_neg c] at hq
  | rt d =>
    rw [z] at hq
    by_cases c : sh d = .dat d
    · simp only [if_pos c] at hq
      exact fun v H' s y => hq v [] H' s nil (sm s) (by rw [c]; exact rp_dat y)
    · simp only [if_neg c] at hq
  | rtn t =>
    rw [z] at hq
    by_cases c : sh t.d = t
    · simp only [if_pos c] at hq
      exact fun v fp H' s n k y => hq v fp H' s n k (by rw [c]; exact y)
    · simp only [if_neg c] at hq
  | bk ρ => rw [z] at hq; exact hq.elim
  | ct ρ => rw [z] at hq; exact hq.elim
  | exc c p ρ => rw [z] at hq; exact fun C o σ' H' S' hm r _ hpay => hq C o H' hm r.same (hpay.mono (hid_sub r.fs))
  | bad => rw [z] at hq; exact hq.elim
theorem def_okN {sh : PyData → MT} {x : Str} {params : Arguments} {body : List Stmt} {scope : Scope} {f : Addr} {fd : FuncData} {N ps : List Str} {n m j : Nat} {b : Ss} (F : FunD K x x params body scope [] [] f fd) (S : FnScope N ps scope) (hm : mg x = some (.ref f)) (hb : Binds K fd ps []) (hp : ps.length = n) (hN : N.length = n + m)
    (hd : AllP (DepD P w K mg base j) (dSs b)) (hc : cSs ⟨N, scope, fun _ => true⟩ b body = true) : DOkN P w K mg base (j + 1) x (defN sh n m b) sh :=
  ⟨f, fd, ps, n, hm, F.kp, def_fnN F S hp hN hd hc, hb, fun ds h => by
    by_cases e : ds.length = n
    · exact e
    · exact absurd (if_neg e) h⟩
end
end Dy

namespace Dy
open PySem PySem.Spec PyProof.Rows L2
open Classical
def objD (K : PySem.W.Frag) (a : Addr) (c : String) : Option (List Value) := match K.lookup a with
  | some ⟨.type t, none, .seq its _, _⟩ => if t = c ∧ its.size ≤ sizeLine then some its.toList else none
  | _ => none
theorem objD_ok {K : PySem.W.Frag} {a : Addr} {c : String} {us : List Value} (h : objD K a c = some us) : ∃ (o : Obj) (its : Array Value) (n : Nat), K.lookup a = some o ∧ o.cls = .type c ∧ o.dict = none ∧ o.data = .seq its n ∧ its.size ≤ sizeLine ∧ its.toList = us := by
  unfold objD at h
  cases q : K.lookup a with
  | none => rw [q] at h; cases h
  | some o =>
    obtain ⟨oc, od, dt, osl⟩ := o
    rw [q] at h
    cases oc with
    | type t =>
      cases od with
      | none =>
        cases dt with
        | seq its n =>
          have h : (if t = c ∧ its.size ≤ sizeLine then some its.toList else none) = some us := h
          by_cases e : t = c ∧ its.size ≤ sizeLine
          · rw [if_pos e] at h
            exact ⟨_, its, n, rfl, by rw [e.1], rfl, rfl, e.2, Option.some.inj h⟩
          · rw [if_neg e] at h; cases h
        | _ => cases h
      | some d => cases dt <;> cases h
    | _ => cases od <;> cases dt <;> cases h
mutual
/-- the value u is that datum, in K for good -/
def dB (K : PySem.W.Frag) : PyData → Value → Bool
  | .none, .none => true
  | .bool i, .bool j => i == j
  | .int i, .int j _ => decide (i = j)
  | .str i, .str j _ => i == j
  | .list ds, .ref a => (match objD K a "list" with
    | some us => dAll K ds us
    | none => false)
  | .tuple ds, .ref a => (match objD K a "tuple" with
    | some us => dAll K ds us
    | none => false)
  | _, _ => false
def dAll (K : PySem.W.Frag) : List PyData → List Value → Bool
  | [], [] => true
  | d :: ds, u :: us => dB K d u && dAll K ds us
  | _, _ => false
end
mutual
theorem dB_ok {K : PySem.W.Frag} : ∀ {d : PyData} {u : Value}, dB K d u = true → ∃ v, RelV v u ∧ ∀ G, Rp K G v d
  | .none, u, h => by cases u <;> first | exact ⟨.non, rfl, fun _ => .non⟩ | exact absurd h Bool.false_ne_true
  | .bool i, u, h => by
    cases u with
    | bool j =>
      have e : i = j := eq_of_beq h
      subst e
      exact ⟨.bl i, rfl, fun _ => .bl i⟩
    | _ => exact absurd h Bool.false_ne_true
  | .int i, u, h => by
    cases u with
    | int j t =>
      have e : i = j := of_decide_eq_true h
      subst e
      exact ⟨.int i, ⟨t, rfl⟩, fun _ => .int i⟩
    | _ => exact absurd h Bool.false_ne_true
  | .str i, u, h => by
    cases u with
    | str j t =>
      have e : i = j := eq_of_beq h
      subst e
      exact ⟨.str i, ⟨t, rfl⟩, fun _ => .str i⟩
    | _ => exact absurd h Bool.false_ne_true
  | .list ds, u, h => by
    cases u with
    | ref a =>
      have h : (match objD K a "list" with | some us => dAll K ds us | none => false) = true := h
      cases z : objD K a "list" with
      | none => rw [z] at h; cases h
      | some us =>
        rw [z] at h
        obtain ⟨vs, r, q⟩ := dAll_ok h
        obtain ⟨o, its, n, h1, h2, h3, h4, h5, h6⟩ := objD_ok z
        exact ⟨.ref a, rfl, fun G => .lst (.inr ⟨o, its, n, h1, h2, h3, h4, h5, by rw [h6]; exact r⟩) (q G)⟩
    | _ => exact absurd h Bool.false_ne_true
  | .tuple ds, u, h => by
    cases u with
    | ref a =>
      have h : (match objD K a "tuple" with | some us => dAll K ds us | none => false) = true := h
      cases z : objD K a "tuple" with
      | none => rw [z] at h; cases h
      | some us =>
        rw [z] at h
        obtain ⟨vs, r, q⟩ := dAll_ok h
        obtain ⟨o, its, n, h1, h2, h3, h4, h5, h6⟩ := objD_ok z
        exact ⟨.ref a, rfl, fun G => .tup (.inr ⟨o, its, n, h1, h2, h4, h5, by rw [h6]; exact r⟩) (q G)⟩
    | _ => exact absurd h Bool.false_ne_true
  | .dict _, u, h => by cases u <;> exact absurd h Bool.false_ne_true
theorem dAll_ok {K : PySem.W.Frag} : ∀ {ds : List PyData} {us : List Value}, dAll K ds us = true → ∃ vs, Vals vs us ∧ ∀ G, RpAll K G vs ds
  | [], [], _ => ⟨[], .nil, fun _ => .nil⟩
  | [], _ :: _, h => absurd h Bool.false_ne_true
  | _ :: _, [], h => absurd h Bool.false_ne_true
  | d :: ds, u :: us, h => by
    have h : (dB K d u && dAll K ds us) = true := h
    rw [Bool.and_eq_true] at h
    obtain ⟨v, r, q⟩ := dB_ok h.1
    obtain ⟨vs, r2, q2⟩ := dAll_ok h.2
    exact ⟨v :: vs, .cons r r2, fun G => .cons (q G) (q2 G)⟩
end
def gB (K : PySem.W.Frag) (p : Str × PyData) : Bool := match PySem.W.nsIn K mainGlobals p.1 with
  | some (some u) => dB K p.2 u
  | _ => false
def gsB (l : List (Str × PyData)) (K : PySem.W.Frag) : Bool := l.all (gB K)
theorem gB_ok {K : PySem.W.Frag} {h : Heap} {mg : Str → Option Value} (X : K.In h) (G : h.Ns mainGlobals mg) {l : List (Str × PyData)} (c : gsB l K = true) (i : Nat) {p : Str × PyData} (e : l[i]? = some p := by rfl) : GOk K mg p.1 p.2 := by
  have c2 := List.all_eq_true.mp c p (List.mem_of_getElem? e)
  unfold gB at c2
  cases z : PySem.W.nsIn K mainGlobals p.1 with
  | none => rw [z] at c2; cases c2
  | some o =>
    rw [z] at c2
    cases o with
    | none => cases c2
    | some u =>
      obtain ⟨v, r, q⟩ := dB_ok c2
      exact ⟨v, u, PySem.W.mg_of X G z, r, q⟩
theorem ints_all {K : PySem.W.Frag} {G : Hp} : ∀ ns : List Int, RpAll K G (ns.map V.int) (ns.map PyData.int)
  | [] => .nil
  | n :: ns => .cons (.int n) (ints_all ns)
/-- the law's def, called with the script -/
theorem law_sp {K : PySem.W.Frag} {mg : Str → Option Value} {g : Sem} {H : Hp} {a : Addr} {ns : List Int} (h : SqL K H a (ns.map V.int)) (q : g [.list (ns.map .int)] = .ok (.bool true)) : spec K mg 1 g [.ref a] H (fun v _ => v = .bl true) fun _ _ _ => False := by
  refine ⟨rfl, [.list (ns.map .int)], fun _ => False, fun _ z => z.elim, .cons (.lst ?_ (ints_all ns)) .nil, ?_⟩
  · have e : hid (fun _ => False) H = H := by
      funext b
      exact hid_neg fun z => z
    rw [e]; exact h
  · rw [q]
    intro v H' _ y
    cases y
    rfl
theorem cx_end {P : Program} {w : World} (H : Hp) (s : Shared) (e : Value) (s' : Shared) (h : L2.CX P w [] H s (fun _ _ _ => False) e s') : False := by
  obtain ⟨_, _, _, _, _, _, _, _, _, _, _, _, z⟩ := h
  exact z
/-- the law's call, by the law's function -/
theorem law_end {l : PySem.W.OpenLaw} {n k : Nat} {q : Program} {loose : List Str} {XP : (Str → Option Value) → Heap → Prop} {YP : World → Heap → Prop} {d : DefRec} {g : Sem}
    (hn : l.most = some n) (hn2 : n ≤ sizeLine) (hdf : d.params.defaults = []) (hr : Room k callerA) (ht : ∀ ns : List Int, ns.length ≤ n → g [.list (ns.map .int)] = .ok (.bool true))
    (F : ∀ (w : World) (mg : Str → Option Value) (fa : Addr) (h : Heap), YP w h → h.Ns mainGlobals mg → mg d.name = some (.ref fa) →
      ∃ (K : PySem.W.Frag) (fd : FuncData), K.In h ∧ (∀ (s : Shared) (u : Value), BindsTo s fd ⟨[u], []⟩ [("script", u)]) ∧ ∀ base : Heap, K.In base → base.Ns mainGlobals mg → FnOk l.prog w K mg base (L2.CX l.prog w) k fa fd ["script"] (spec K mg 1 g)) :
    PySem.W.WalkO q loose XP YP l.row.toRowW d [] (fun f vs => PySem.call f vs) := by
  refine Att.attach_call hn hdf fun w s₀ s₁ mg mb fa o pm cd doc a vs ns G Y ho hd hcd hmg hobj hints hlen hg => ?_
  obtain ⟨K, fd, KX, hb, hF⟩ := F w mg fa _ Y G.T.g hmg
  exact law_call KX G.T.g G.T.b G.T.builtins G.T.nolimit hg hobj hints (Nat.le_trans hlen hn2) hr hF hb (fun H _ hS => law_sp hS (ht ns hlen)) fun H e s' => cx_end H s₁ e s'
end Dy

namespace Dy
open PySem PySem.Spec
def F.fin : F → R PyData
  | .rt d => .ok d
  | .rtn t => .ok t.d
  | .nx _ => .ok .none
  | .exc c p _ => .exc c p
  | _ => .bad
theorem def_eq {n m : Nat} {b : Ss} {ds : List PyData} (h : ds.length = n) : def_ n m b ds = (runs b (ds.map .val ++ List.replicate m .no)).fin := by
  unfold def_
  rw [if_pos h]
  unfold F.fin
  cases runs b (ds.map .val ++ List.replicate m .no) <;> rfl
section
variable {ρ : En} {k : En → F} {d : PyData}
@[simp] theorem fin_rt : (F.rt d).fin = .ok d := id rfl
@[simp] theorem fin_nx : (F.nx ρ).fin = .ok .none := id rfl
@[simp] theorem then_nx : (F.nx ρ).then_ k = k ρ := id rfl
@[simp] theorem then_rt : (F.rt d).then_ k = .rt d := id rfl
@[simp] theorem then_bad : F.bad.then_ k = .bad := id rfl
@[simp] theorem then_exc {c p} : (F.exc c p ρ).then_ k = .exc c p ρ := id rfl
@[simp] theorem loop_nx : (F.nx ρ).loop k = k ρ := id rfl
@[simp] theorem loop_ct : (F.ct ρ).loop k = k ρ := id rfl
@[simp] theorem loop_bk : (F.bk ρ).loop k = .nx ρ := id rfl
@[simp] theorem loop_rt : (F.rt d).loop k = .rt d := id rfl
@[simp] theorem on_ok {α : Type} {a : α} {k : α → F} : (R.ok a).on ρ k = k a := id rfl
@[simp] theorem bind_ok {α β : Type} {a : α} {k : α → R β} : (R.ok a).bind k = k a := id rfl
@[simp] theorem bind_exc {α β : Type} {c p} {k : α → R β} : (R.exc c p : R α).bind k = .exc c p := id rfl
@[simp] theorem on_exc {α : Type} {c p} {k : α → F} : (R.exc c p : R α).on ρ k = .exc c p ρ := id rfl
@[simp] theorem ifF_t {a b : F} : ifF (.bool true) a b = a := id rfl
@[simp] theorem ifF_f {a b : F} : ifF (.bool false) a b = b := id rfl
theorem ifF_d {p : Prop} [Decidable p] {a b : F} : ifF (.bool (decide p)) a b = if p then a else b := by
  by_cases h : p
  · rw [decide_eq_true h, if_pos h]; rfl
  · rw [decide_eq_false h, if_neg h]; rfl
@[simp] theorem bl1_b {b : Bool} {k : Bool → R PyData} : bl1 (.bool b) k = k b := id rfl
@[simp] theorem int1_i {b : Int} {k : Int → R PyData} : int1 (.int b) k = k b := id rfl
@[simp] theorem getB_0 {d : PyData} {l : En} : getB (.val d :: l) 0 = .ok d := id rfl
@[simp] theorem getB_o {ds : List PyData} {l : En} : getB (.own (.fl ds) :: l) 0 = .ok (.list ds) := id rfl
@[simp] theorem getB_s {s : Slot} {l : En} {i : Nat} : getB (s :: l) (i + 1) = getB l i := id rfl
@[simp] theorem getV_0 {d : PyData} {l : En} : getV (.val d :: l) 0 = .ok d := id rfl
@[simp] theorem getV_s {s : Slot} {l : En} {i : Nat} : getV (s :: l) (i + 1) = getV l i := id rfl
@[simp] theorem runs_nil : runs .nil ρ = .nx ρ := id rfl
@[simp] theorem runs_cons {s : S} {l : Ss} : runs (.cons s l) ρ = (run s ρ).then_ (runs l) := id rfl
@[simp] theorem run_set {i : Nat} {e : E} : run (.set i e) ρ = (ev e ρ).on ρ fun d => .nx (List.set ρ i (.val d)) := id rfl
@[simp] theorem run_setN {i : Nat} {n : NE} : run (.setN i n) ρ = (evn n ρ).on ρ (newF i ρ) := id rfl
@[simp] theorem newF_d {i : Nat} {d : PyData} : newF i ρ (.dat d) = .nx (List.set ρ i (.val d)) := id rfl
@[simp] theorem newF_f {i : Nat} {ds : List PyData} : newF i ρ (.fl ds) = .nx (List.set ρ i (.own (.fl ds))) := id rfl
@[simp] theorem newF_l {i : Nat} {l : MTs} : newF i ρ (.lst l) = .nx (List.set ρ i (.own (.lst l))) := id rfl
@[simp] theorem newF_t {i : Nat} {l : MTs} : newF i ρ (.tup l) = .nx (List.set ρ i (.own (.tup l))) := id rfl
@[simp] theorem evn_e {a : E} : evn (.e a) ρ = (ev a ρ).bind fun d => .ok (.dat d) := id rfl
@[simp] theorem evn_fl {a : E} : evn (.fl a) ρ = (ev a ρ).bind flM := id rfl
@[simp] theorem flM_l {ds : List PyData} : flM (.list ds) = .ok (.fl ds) := id rfl
@[simp] theorem evn_call {x : Str} {g : Sem} {sh : PyData → MT} {as : Es} : evn (.call x g sh as) ρ = (evs as ρ).bind fun ds => (g ds).bind fun d => .ok (sh d) := id rfl
@[simp] theorem evn_lst {l : NEs} : evn (.lst l) ρ = (evns l ρ).bind fun ts => if ts.ds.length ≤ sizeLine then .ok (.lst ts) else .bad := id rfl
@[simp] theorem evn_tup {l : NEs} : evn (.tup l) ρ = (evns l ρ).bind fun ts => if ts.ds.length ≤ sizeLine then .ok (.tup ts) else .bad := id rfl
@[simp] theorem evns_nil : evns .nil ρ = .ok .nil := id rfl
@[simp] theorem evns_cons {n : NE} {l : NEs} : evns (.cons n l) ρ = (evn n ρ).bind fun t => (evns l ρ).bind fun ts => .ok (.cons t ts) := id rfl
@[simp] theorem shF_l {ds : List PyData} : shF (.list ds) = .fl ds := id rfl
@[simp] theorem MTd_dat {d : PyData} : MT.d (.dat d) = d := id rfl
@[simp] theorem MTd_fl {ds : List PyData} : MT.d (.fl ds) = .list ds := id rfl
@[simp] theorem MTd_lst {l : MTs} : MT.d (.lst l) = .list l.ds := id rfl
@[simp] theorem MTd_tup {l : MTs} : MT.d (.tup l) = .tuple l.ds := id rfl
@[simp] theorem MTs_nil : MTs.ds .nil = [] := id rfl
@[simp] theorem MTs_cons {t : MT} {l : MTs} : MTs.ds (.cons t l) = t.d :: l.ds := id rfl
@[simp] theorem run_rtn {n : NE} : run (.rtn n) ρ = (evn n ρ).on ρ .rtn := id rfl
@[simp] theorem run_rto {i : Nat} : run (.rto i) ρ = rtoF ρ i := id rfl
@[simp] theorem rtoF_0 {t : MT} {l : En} : rtoF (.own t :: l) 0 = .rtn t := id rfl
@[simp] theorem rtoF_s {s : Slot} {l : En} {i : Nat} : rtoF (s :: l) (i + 1) = rtoF l i := id rfl
@[simp] theorem fin_rtn {t : MT} : (F.rtn t).fin = .ok t.d := id rfl
@[simp] theorem then_rtn {t : MT} : (F.rtn t).then_ k = .rtn t := id rfl
@[simp] theorem loop_rtn {t : MT} : (F.rtn t).loop k = .rtn t := id rfl
@[simp] theorem appD_ok {i : Nat} {ds : List PyData} : appD i ρ ds d = if ds.length < sizeLine then .nx (List.set ρ i (.own (.fl (ds ++ [d])))) else .bad := id rfl
@[simp] theorem run_par {i j : Nat} {a b : E} : run (.par i j a b) ρ = (evs (.cons a (.cons b .nil)) ρ).on ρ (parF i j ρ) := id rfl
@[simp] theorem parF_2 {i j : Nat} {x y : PyData} : parF i j ρ [x, y] = .nx (List.set (List.set ρ i (.val x)) j (.val y)) := id rfl
@[simp] theorem run_unp {t : Tg} {e : E} : run (.unp t e) ρ = (ev e ρ).on ρ fun d => unpF (tset t d ρ) := id rfl
@[simp] theorem unpF_ok : unpF (.ok ρ) = .nx ρ := id rfl
@[simp] theorem run_app {i : Nat} {e : E} : run (.app i e) ρ = ownAt ρ i fun ds => (ev e ρ).on ρ (appD i ρ ds) := id rfl
@[simp] theorem run_ext {i : Nat} {e : E} : run (.ext i e) ρ = ownAt ρ i fun ds => (ev e ρ).on ρ (extD i ρ ds) := id rfl
@[simp] theorem run_clr {i : Nat} : run (.clr i) ρ = ownAt ρ i fun _ => .nx (List.set ρ i (.own (.fl []))) := id rfl
@[simp] theorem run_sti {i : Nat} {k e : E} : run (.sti i k e) ρ = (ev e ρ).on ρ fun d => ownAt ρ i fun ds => (ev k ρ).on ρ (stiD i ρ ds d) := id rfl
@[simp] theorem ownAt_0 {ds : List PyData} {l : En} {k : List PyData → F} : ownAt (.own (.fl ds) :: l) 0 k = k ds := id rfl
@[simp] theorem ownAt_s {s : Slot} {l : En} {i : Nat} {k : List PyData → F} : ownAt (s :: l) (i + 1) k = ownAt l i k := id rfl
@[simp] theorem run_drop {e : E} : run (.drop e) ρ = (ev e ρ).on ρ fun _ => .nx ρ := id rfl
@[simp] theorem run_ret {e : E} : run (.ret e) ρ = (ev e ρ).on ρ .rt := id rfl
@[simp] theorem run_retN : run .retN ρ = .rt .none := id rfl
@[simp] theorem run_if {c : E} {a b : Ss} : run (.if_ c a b) ρ = (ev c ρ).on ρ fun x => ifF x (runs a ρ) (runs b ρ) := id rfl
@[simp] theorem run_for {t : Tg} {s : Sr} {b : Ss} : run (.for_ t s b) ρ = (evr s ρ).on ρ fun ds => forF t (runs b) ds ρ := id rfl
@[simp] theorem run_whl {c : E} {b : Ss} : run (.whl c b) ρ = whlD (ev c) (runs b) ρ := id rfl
@[simp] theorem run_pass : run .pass ρ = .nx ρ := id rfl
@[simp] theorem run_brk : run .brk ρ = .bk ρ := id rfl
@[simp] theorem run_cnt : run .cnt ρ = .ct ρ := id rfl
@[simp] theorem run_esc {l : List Nat} {s : S} : run (.esc l s) ρ = run s (escE ρ l) := id rfl
@[simp] theorem ev_var {i : Nat} : ev (.var i) ρ = getV ρ i := id rfl
@[simp] theorem ev_bor {i : Nat} : ev (.bor i) ρ = getB ρ i := id rfl
@[simp] theorem ev_cst {d : PyData} : ev (.cst d) ρ = .ok d := id rfl
@[simp] theorem ev_glo {x : Str} {d : PyData} : ev (.glo x d) ρ = .ok d := id rfl
@[simp] theorem ev_op {o : O2} {a b : E} : ev (.op o a b) ρ = (ev a ρ).bind fun x => (ev b ρ).bind fun y => op2 o x y := id rfl
@[simp] theorem ev_neg {a : E} : ev (.neg a) ρ = (ev a ρ).bind fun x => int1 x fun i => .ok (.int (-i)) := id rfl
@[simp] theorem ev_cmp {c : C2} {a b : E} : ev (.cmp c a b) ρ = (ev a ρ).bind fun x => (ev b ρ).bind fun y => cmp2 c x y := id rfl
@[simp] theorem ev_chn {c1 c2 : C2} {a b e : E} : ev (.chn c1 c2 a b e) ρ = (ev a ρ).bind fun x => (ev b ρ).bind fun y => (cmp2 c1 x y).bind fun z => bl1 z fun k => match k with
    | true => (ev e ρ).bind fun w => cmp2 c2 y w
    | false => .ok (.bool false) := id rfl
@[simp] theorem ev_eqc {n : Bool} {a b : E} : ev (.eqc n a b) ρ = (ev a ρ).bind fun x => (ev b ρ).bind fun y => eqcD n x y := id rfl
@[simp] theorem eqc_t {x y : PyData} : eqcD true x y = cmp2 .ne x y := id rfl
@[simp] theorem eqc_f {x y : PyData} : eqcD false x y = cmp2 .eq x y := id rfl
@[simp] theorem ev_boc {i : Nat} : ev (.boc i) ρ = getC ρ i := id rfl
@[simp] theorem getC_0 {d : PyData} {l : En} : getC (.val d :: l) 0 = .ok d := id rfl
@[simp] theorem getC_o {t : MT} {l : En} : getC (.own t :: l) 0 = .ok t.d := id rfl
@[simp] theorem getC_s {s : Slot} {l : En} {i : Nat} : getC (s :: l) (i + 1) = getC l i := id rfl
@[simp] theorem ev_not {a : E} : ev (.not a) ρ = (ev a ρ).bind fun x => bl1 x fun k => .ok (.bool (!k)) := id rfl
def andF (k : Bool) (r : R PyData) : R PyData := match k with
  | true => r
  | false => .ok (.bool false)
def orF (k : Bool) (r : R PyData) : R PyData := match k with
  | true => .ok (.bool true)
  | false => r
@[simp] theorem andF_t {r : R PyData} : andF true r = r := id rfl
@[simp] theorem andF_f {r : R PyData} : andF false r = .ok (.bool false) := id rfl
@[simp] theorem orF_t {r : R PyData} : orF true r = .ok (.bool true) := id rfl
@[simp] theorem orF_f {r : R PyData} : orF false r = r := id rfl
@[simp] theorem andF_b {k b : Bool} : andF k (.ok (.bool b)) = .ok (.bool (k && b)) := by cases k <;> rfl
@[simp] theorem orF_b {k b : Bool} : orF k (.ok (.bool b)) = .ok (.bool (k || b)) := by cases k <;> rfl
@[simp] theorem ev_and {a b : E} : ev (.and a b) ρ = (ev a ρ).bind fun x => bl1 x fun k => andF k (ev b ρ) := id rfl
@[simp] theorem ev_or {a b : E} : ev (.or a b) ρ = (ev a ρ).bind fun x => bl1 x fun k => orF k (ev b ρ) := id rfl
@[simp] theorem ev_tru {a : E} : ev (.tru a) ρ = (ev a ρ).bind truD := id rfl
@[simp] theorem ev_ite {c a b : E} : ev (.ite c a b) ρ = (ev c ρ).bind fun x => bl1 x fun k => match k with
    | true => ev a ρ
    | false => ev b ρ := id rfl
@[simp] theorem ev_tup {as : Es} : ev (.tup as) ρ = (evs as ρ).bind fun xs => if xs.length ≤ sizeLine then .ok (.tuple xs) else .bad := id rfl
@[simp] theorem ev_lst {as : Es} : ev (.lst as) ρ = (evs as ρ).bind fun xs => if xs.length ≤ sizeLine then .ok (.list xs) else .bad := id rfl
@[simp] theorem ev_idx {a i : E} : ev (.idx a i) ρ = (ev a ρ).bind fun x => (ev i ρ).bind fun y => idxD x y := id rfl
@[simp] theorem ev_slN {a : E} : ev (.slN a) ρ = (ev a ρ).bind fun x => slcD x none none := id rfl
@[simp] theorem ev_slL {a l : E} : ev (.slL a l) ρ = (ev a ρ).bind fun x => (ev l ρ).bind fun y => int1 y fun i => slcD x (some i) none := id rfl
@[simp] theorem ev_slU {a h : E} : ev (.slU a h) ρ = (ev a ρ).bind fun x => (ev h ρ).bind fun y => int1 y fun i => slcD x none (some i) := id rfl
@[simp] theorem ev_slB {a l h : E} : ev (.slB a l h) ρ = (ev a ρ).bind fun x => (ev l ρ).bind fun y => int1 y fun i => (ev h ρ).bind fun z => int1 z fun j => slcD x (some i) (some j) := id rfl
@[simp] theorem ev_call {x : Str} {g : Sem} {as : Es} : ev (.call x g as) ρ = (evs as ρ).bind g := id rfl
@[simp] theorem ev_fn {b : Bl} {a : E} : ev (.fn b a) ρ = (ev a ρ).bind fun x => fn1 b x := id rfl
@[simp] theorem ev_lc {t : Tg} {s : Sr} {c : E} {own : List Nat} {e : E} : ev (.lc t s c own e) ρ = (evr s ρ).bind fun ds => if ds.length < sizeLine then lcR (lcF t (ev c) (ev e) (wipeE ρ own) ds) else .bad := id rfl
@[simp] theorem wipeE_n : wipeE ρ [] = ρ := id rfl
@[simp] theorem wipeE_c {v : Nat} {vs : List Nat} : wipeE ρ (v :: vs) = List.set (wipeE ρ vs) v .no := id rfl
@[simp] theorem lcR_s {xs : List PyData} : lcR (some xs) = .ok (.list xs) := id rfl
@[simp] theorem evs_nil : evs .nil ρ = .ok [] := id rfl
@[simp] theorem evs_cons {a : E} {as : Es} : evs (.cons a as) ρ = (ev a ρ).bind fun x => (evs as ρ).bind fun xs => .ok (x :: xs) := id rfl
@[simp] theorem evr_it {a : E} : evr (.it a) ρ = (ev a ρ).bind seqD := id rfl
@[simp] theorem evr_rg1 {a : E} : evr (.rg1 a) ρ = (ev a ρ).bind rg1D := id rfl
@[simp] theorem evr_rg2 {a b : E} : evr (.rg2 a b) ρ = (ev a ρ).bind fun x => (ev b ρ).bind (rg2D x) := id rfl
@[simp] theorem evr_zip {a b : E} : evr (.zip a b) ρ = (ev a ρ).bind fun x => (ev b ρ).bind fun y => zipD x y := id rfl
@[simp] theorem evr_enum {a : E} : evr (.enum a) ρ = (ev a ρ).bind enumD := id rfl
@[simp] theorem seqD_l {ds : List PyData} : seqD (.list ds) = .ok ds := id rfl
@[simp] theorem seqD_t {ds : List PyData} : seqD (.tuple ds) = .ok ds := id rfl
theorem rg1_ok {i : Int} (h : -(2 ^ 62) ≤ i ∧ i < 2 ^ 62) : rg1D (.int i) = .ok (rgD 0 i) := by
  show (if rgOk i = true then _ else _) = _
  rw [if_pos (by unfold rgOk; rw [decide_eq_true h.1, decide_eq_true h.2]; rfl)]
theorem rg2_ok {i j : Int} (h : -(2 ^ 62) ≤ i ∧ i < 2 ^ 62) (g : -(2 ^ 62) ≤ j ∧ j < 2 ^ 62) : rg2D (.int i) (.int j) = .ok (rgD i j) := by
  show (if (rgOk i && rgOk j) = true then _ else _) = _
  rw [if_pos (by unfold rgOk; rw [decide_eq_true h.1, decide_eq_true h.2, decide_eq_true g.1, decide_eq_true g.2]; rfl)]
@[simp] theorem tset_nm {i : Nat} : tset (.nm i) d ρ = .ok (List.set ρ i (.val d)) := id rfl
@[simp] theorem tset_tp {l : Tgs} {ds : List PyData} : tset (.tp l) (.tuple ds) ρ = tsets l ds ρ := id rfl
@[simp] theorem tsets_nil : tsets .nil [] ρ = .ok ρ := id rfl
@[simp] theorem tsets_cons {t : Tg} {l : Tgs} {ds : List PyData} : tsets (.cons t l) (d :: ds) ρ = (tset t d ρ).bind (tsets l ds) := id rfl
@[simp] theorem op_add_i {i j : Int} : op2 .add (.int i) (.int j) = .ok (.int (i + j)) := id rfl
@[simp] theorem op_sub_i {i j : Int} : op2 .sub (.int i) (.int j) = .ok (.int (i - j)) := id rfl
theorem op_mul_i {i j : Int} (h : i.natAbs.log2 + j.natAbs.log2 < 100000000) : op2 .mul (.int i) (.int j) = .ok (.int (i * j)) := if_pos h
theorem op_fdiv_i {i j : Int} (h : j ≠ 0 ∧ j.natAbs.log2 < 9000) : op2 .fdiv (.int i) (.int j) = .ok (.int (i.fdiv j)) := if_pos h
theorem op_mod_i {i j : Int} (h : j ≠ 0) : op2 .mod (.int i) (.int j) = .ok (.int (i.fmod j)) := if_pos h
theorem op_pow_i {i j : Int} (h : 0 ≤ j ∧ j ≤ 1000000 ∧ i.natAbs < 2 ^ 64) : op2 .pow (.int i) (.int j) = .ok (.int (i ^ j.toNat)) := if_pos h
theorem op_add_l {xs ys : List PyData} (h : xs.length + ys.length ≤ sizeLine) : op2 .add (.list xs) (.list ys) = .ok (.list (xs ++ ys)) := if_pos h
theorem op_add_t {xs ys : List PyData} (h : xs.length + ys.length ≤ sizeLine) : op2 .add (.tuple xs) (.tuple ys) = .ok (.tuple (xs ++ ys)) := if_pos h
@[simp] theorem cmp_lt_i {i j : Int} : cmp2 .lt (.int i) (.int j) = .ok (.bool (decide (i < j))) := id rfl
@[simp] theorem cmp_le_i {i j : Int} : cmp2 .le (.int i) (.int j) = .ok (.bool (decide (i ≤ j))) := id rfl
@[simp] theorem cmp_gt_i {i j : Int} : cmp2 .gt (.int i) (.int j) = .ok (.bool (decide (j < i))) := id rfl
@[simp] theorem cmp_ge_i {i j : Int} : cmp2 .ge (.int i) (.int j) = .ok (.bool (decide (j ≤ i))) := id rfl
theorem shaped_i (i : Int) : SeqAt.shaped (.int i) = true := rfl
theorem eqv_ii (i j : Int) : PyData.eqv (.int i) (.int j) = decide (i = j) := by
  simp only [PyData.eqv]
  by_cases h : i = j
  · rw [h]; simp
  · rw [decide_eq_false h]; simp [h]
@[simp] theorem cmp_eq_i {i j : Int} : cmp2 .eq (.int i) (.int j) = .ok (.bool (decide (i = j))) := by rw [← eqv_ii]; rfl
@[simp] theorem cmp_ne_i {i j : Int} : cmp2 .ne (.int i) (.int j) = .ok (.bool (!decide (i = j))) := by rw [← eqv_ii]; rfl
theorem cmp_eq_s {d e : PyData} (h : SeqAt.shaped d = true) (g : SeqAt.shaped e = true) : cmp2 .eq d e = .ok (.bool (PyData.eqv d e)) := if_pos ⟨h, g⟩
theorem cmp_ne_s {d e : PyData} (h : SeqAt.shaped d = true) (g : SeqAt.shaped e = true) : cmp2 .ne d e = .ok (.bool (!PyData.eqv d e)) := if_pos ⟨h, g⟩
@[simp] theorem tru_b {b : Bool} : truD (.bool b) = .ok (.bool b) := id rfl
@[simp] theorem tru_l {ds : List PyData} : truD (.list ds) = .ok (.bool (!ds.isEmpty)) := id rfl
@[simp] theorem fn_len_l {ds : List PyData} : fn1 .len (.list ds) = .ok (.int ds.length) := id rfl
@[simp] theorem fn_len_t {ds : List PyData} : fn1 .len (.tuple ds) = .ok (.int ds.length) := id rfl
theorem fn_abs_i {i : Int} : fn1 .abs (.int i) = .ok (.int i.natAbs) := by
  show R.ok (PyData.int (if i < 0 then -i else i)) = _
  split
  · rw [show -i = (i.natAbs : Int) by omega]
  · rw [show i = (i.natAbs : Int) by omega]; simp
@[simp] theorem fn_list_l {ds : List PyData} : fn1 .list (.list ds) = .ok (.list ds) := id rfl
@[simp] theorem fn_list_t {ds : List PyData} : fn1 .list (.tuple ds) = .ok (.list ds) := id rfl
@[simp] theorem fn_tup_l {ds : List PyData} : fn1 .tuple (.list ds) = .ok (.tuple ds) := id rfl
@[simp] theorem fn_isInt_i {i : Int} : fn1 .isInt (.int i) = .ok (.bool true) := id rfl
@[simp] theorem fn_isBool_i {i : Int} : fn1 .isBool (.int i) = .ok (.bool false) := id rfl
@[simp] theorem fn_isTuple_t {ds : List PyData} : fn1 .isTuple (.tuple ds) = .ok (.bool true) := id rfl
@[simp] theorem fn_isList_l {ds : List PyData} : fn1 .isList (.list ds) = .ok (.bool true) := id rfl
theorem atI_nat {ds : List PyData} {k : Nat} : L2.atI ds (k : Int) = ds[k]? := by
  unfold L2.atI L2.ixN
  rw [if_pos (Int.natCast_nonneg k)]
  by_cases h : k < ds.length
  · rw [if_pos (by omega)]; rfl
  · rw [if_neg (by omega), List.getElem?_eq_none (by omega)]; rfl
theorem atI_neg {ds : List PyData} {k : Nat} (h1 : 0 < k) (h2 : k ≤ ds.length) : L2.atI ds (-(k : Int)) = ds[ds.length - k]? := by
  unfold L2.atI L2.ixN
  rw [if_neg (by omega), if_pos (by omega)]
  show ds[(-(k : Int) + ds.length).toNat]? = _
  rw [show (-(k : Int) + ds.length).toNat = ds.length - k by omega]
theorem idx_lat {ds : List PyData} {i : Int} {d : PyData} (h : L2.atI ds i = some d) : idxD (.list ds) (.int i) = .ok d := by
  show (match L2.atI ds i with | some d => R.ok d | none => .bad) = _
  rw [h]
theorem idx_tat {ds : List PyData} {i : Int} {d : PyData} (h : L2.atI ds i = some d) : idxD (.tuple ds) (.int i) = .ok d := by
  show (match L2.atI ds i with | some d => R.ok d | none => .bad) = _
  rw [h]
theorem idx_l {ds : List PyData} {k : Nat} {d : PyData} (h : ds[k]? = some d) : idxD (.list ds) (.int k) = .ok d := idx_lat (by rw [atI_nat, h])
theorem idx_t {ds : List PyData} {k : Nat} {d : PyData} (h : ds[k]? = some d) : idxD (.tuple ds) (.int k) = .ok d := idx_tat (by rw [atI_nat, h])
@[simp] theorem idx_t0 {x : PyData} {l : List PyData} : idxD (.tuple (x :: l)) (.int 0) = .ok x := idx_t (k := 0) rfl
@[simp] theorem idx_t1 {x y : PyData} {l : List PyData} : idxD (.tuple (x :: y :: l)) (.int 1) = .ok y := idx_t (k := 1) rfl
@[simp] theorem idx_t2 {x y z : PyData} {l : List PyData} : idxD (.tuple (x :: y :: z :: l)) (.int 2) = .ok z := idx_t (k := 2) rfl
@[simp] theorem idx_t3 {x y z u : PyData} {l : List PyData} : idxD (.tuple (x :: y :: z :: u :: l)) (.int 3) = .ok u := idx_t (k := 3) rfl
@[simp] theorem idx_l0 {x : PyData} {l : List PyData} : idxD (.list (x :: l)) (.int 0) = .ok x := idx_l (k := 0) rfl
@[simp] theorem idx_l1 {x y : PyData} {l : List PyData} : idxD (.list (x :: y :: l)) (.int 1) = .ok y := idx_l (k := 1) rfl
@[simp] theorem idx_l2 {x y z : PyData} {l : List PyData} : idxD (.list (x :: y :: z :: l)) (.int 2) = .ok z := idx_l (k := 2) rfl
end
open Classical in
noncomputable def finN (sh : PyData → MT) : F → R PyData
  | .rt d => if sh d = .dat d then .ok d else .bad
  | .rtn t => if sh t.d = t then .ok t.d else .bad
  | .nx _ => if sh .none = .dat .none then .ok .none else .bad
  | .exc c p _ => .exc c p
  | _ => .bad
open Classical in
theorem defN_eq {sh : PyData → MT} {n m : Nat} {b : Ss} {ds : List PyData} (h : ds.length = n) : defN sh n m b ds = finN sh (runs b (ds.map .val ++ List.replicate m .no)) := by
  unfold defN
  rw [if_pos h]
  unfold finN
  cases runs b (ds.map .val ++ List.replicate m .no) <;> rfl
@[simp] theorem finF_fl {ds : List PyData} : finN shF (.rtn (.fl ds)) = .ok (.list ds) := if_pos rfl
@[simp] theorem finF_rt {d : PyData} (h : shF d = .dat d) : finN shF (.rt d) = .ok d := if_pos h
@[simp] theorem finF_dat {d : PyData} (h : shF d = .dat d) : finN shF (.rtn (.dat d)) = .ok d := if_pos h
theorem whlD_unfold {c : En → R PyData} {b : En → F} {ρ : En} : whlD c b ρ = (c ρ).on ρ fun x => ifF x ((b ρ).loop (whlD c b)) (.nx ρ) := by
  have up : ∀ {ρ2 n}, whlF c b n ρ2 ≠ .bad → whlD c b ρ2 = whlF c b n ρ2 := fun h => whlD_eq h
  by_cases h : ∃ n, whlF c b n ρ ≠ .bad
  · obtain ⟨n, hn⟩ := h
    rw [up hn]
    cases n with
    | zero => exact absurd rfl hn
    | succ m =>
      unfold whlF at hn ⊢
      cases hc : c ρ with
      | ok x =>
        rw [hc] at hn
        show ifF x ((b ρ).loop (whlF c b m)) (.nx ρ) = ifF x ((b ρ).loop (whlD c b)) (.nx ρ)
        have hn : ifF x ((b ρ).loop (whlF c b m)) (.nx ρ) ≠ .bad := hn
        cases x with
        | bool k =>
          cases k with
          | true =>
            have hn : (b ρ).loop (whlF c b m) ≠ .bad := hn
            show (b ρ).loop (whlF c b m) = (b ρ).loop (whlD c b)
            cases hb : b ρ with
            | nx ρ2 => rw [hb] at hn; exact (up hn).symm
            | ct ρ2 => rw [hb] at hn; exact (up hn).symm
            | _ => rfl
          | false => rfl
        | _ => rfl
      | _ => rfl
  · have e : whlD c b ρ = .bad := by unfold whlD; rw [dif_neg h]
    rw [e]
    have no : ∀ n, whlF c b n ρ = .bad := fun n => Classical.byContradiction fun z => h ⟨n, z⟩
    cases hc : c ρ with
    | ok x =>
      show F.bad = ifF x ((b ρ).loop (whlD c b)) (.nx ρ)
      have n1 : ∀ n, ifF x ((b ρ).loop (whlF c b n)) (.nx ρ) = .bad := fun n => by
        have q := no (n + 1)
        unfold whlF at q
        rw [hc] at q
        exact q
      cases x with
      | bool k =>
        cases k with
        | true =>
          have n1 : ∀ n, (b ρ).loop (whlF c b n) = .bad := n1
          show F.bad = (b ρ).loop (whlD c b)
          cases hb : b ρ with
          | nx ρ2 =>
            rw [hb] at n1
            have n1 : ∀ n, whlF c b n ρ2 = .bad := n1
            show F.bad = whlD c b ρ2
            unfold whlD
            rw [dif_neg (fun ⟨n, z⟩ => z (n1 n))]
          | ct ρ2 =>
            rw [hb] at n1
            have n1 : ∀ n, whlF c b n ρ2 = .bad := n1
            show F.bad = whlD c b ρ2
            unfold whlD
            rw [dif_neg (fun ⟨n, z⟩ => z (n1 n))]
          | bk ρ2 => rw [hb] at n1; exact absurd (n1 0) (by intro z; cases z)
          | rt d => rw [hb] at n1; exact absurd (n1 0) (by intro z; cases z)
          | rtn d => rw [hb] at n1; exact absurd (n1 0) (by intro z; cases z)
          | exc c' p ρ2 => rw [hb] at n1; exact absurd (n1 0) (by intro z; cases z)
          | bad => rfl
        | false => exact absurd (n1 0) (by intro z; cases z)
      | _ => rfl
    | exc c' p =>
      have q := no 1
      unfold whlF at q
      rw [hc] at q
      exact absurd q (by intro z; cases z)
    | bad => rfl
/-- every turn runs through, and keeps what is told -/
theorem forF_inv {t : Tg} {b : En → F} (I : Nat → En → Prop) : ∀ {ds : List PyData} {ρ : En} (n : Nat), I n ρ →
    (∀ i d ρ, ds[i]? = some d → I (n + i) ρ → ∃ ρ1, tset t d ρ = .ok ρ1 ∧ ∃ ρ2, b ρ1 = .nx ρ2 ∧ I (n + i + 1) ρ2) → ∃ ρ', forF t b ds ρ = .nx ρ' ∧ I (n + ds.length) ρ'
  | [], ρ, n, h0, hs => ⟨ρ, rfl, h0⟩
  | d :: ds, ρ, n, h0, hs => by
    obtain ⟨ρ1, h1, ρ2, h2, h3⟩ := hs 0 d ρ rfl h0
    obtain ⟨ρ', h4, h5⟩ := forF_inv I (ds := ds) (ρ := ρ2) (n + 1) h3 fun i e ρ he hi => by
      obtain ⟨ρa, q1, ρb, q2, q3⟩ := hs (i + 1) e ρ (by simpa using he) (by rw [show n + (i + 1) = n + 1 + i by omega]; exact hi)
      exact ⟨ρa, q1, ρb, q2, by rw [show n + 1 + i + 1 = n + (i + 1) + 1 by omega]; exact q3⟩
    refine ⟨ρ', ?_, by rw [List.length_cons, show n + (ds.length + 1) = n + 1 + ds.length by omega]; exact h5⟩
    show (match tset t d ρ with
      | .ok ρ1 => (b ρ1).loop (forF t b ds)
      | _ => .bad) = _
    rw [h1]
    show (b ρ1).loop (forF t b ds) = _
    rw [h2]
    exact h4
theorem forF_all {t : Tg} {b : En → F} (I : Nat → En → Prop) {ds : List PyData} {ρ : En} (h0 : I 0 ρ) (hs : ∀ i d ρ, ds[i]? = some d → I i ρ → ∃ ρ1, tset t d ρ = .ok ρ1 ∧ ∃ ρ2, b ρ1 = .nx ρ2 ∧ I (i + 1) ρ2) : ∃ ρ', forF t b ds ρ = .nx ρ' ∧ I ds.length ρ' := by
  obtain ⟨ρ', h1, h2⟩ := forF_inv I (ds := ds) (ρ := ρ) 0 h0 fun i d ρ h hi => by
    rw [Nat.zero_add] at hi ⊢
    exact hs i d ρ h hi
  rw [Nat.zero_add] at h2
  exact ⟨ρ', h1, h2⟩
theorem lcF_map {t : Tg} {c e : En → R PyData} {ρ : En} (f : PyData → PyData) : ∀ {ds : List PyData}, (∀ d ∈ ds, ∃ ρ1, tset t d ρ = .ok ρ1 ∧ c ρ1 = .ok (.bool true) ∧ e ρ1 = .ok (f d)) → lcF t c e ρ ds = some (ds.map f)
  | [], _ => rfl
  | d :: ds, h => by
    obtain ⟨ρ1, h1, h2, h3⟩ := h d List.mem_cons_self
    have ih := lcF_map (t := t) (c := c) (e := e) (ρ := ρ) f (ds := ds) fun x hx => h x (List.mem_cons_of_mem _ hx)
    unfold lcF
    rw [h1]
    simp only []
    rw [h2]
    simp only []
    rw [h3]
    simp only []
    rw [ih]
    rfl
theorem rgD_get {lo hi : Int} {i : Nat} {d : PyData} (h : (rgD lo hi)[i]? = some d) : d = .int (lo + i) ∧ (i : Int) < hi - lo := by
  unfold rgD at h
  rw [List.getElem?_map] at h
  cases z : (List.range (hi - lo).toNat)[i]? with
  | none => rw [z] at h; cases h
  | some k =>
    rw [z] at h
    obtain ⟨h1, h2⟩ := List.getElem?_eq_some_iff.mp z
    rw [List.getElem_range] at h2
    subst h2
    cases h
    rw [List.length_range] at h1
    exact ⟨rfl, by omega⟩
theorem lcF_maps {α : Type} {t : Tg} {c e : En → R PyData} {ρ : En} (g f : α → PyData) : ∀ {Q : List α}, (∀ a ∈ Q, ∃ ρ1, tset t (g a) ρ = .ok ρ1 ∧ c ρ1 = .ok (.bool true) ∧ e ρ1 = .ok (f a)) → lcF t c e ρ (Q.map g) = some (Q.map f)
  | [], _ => rfl
  | a :: Q, h => by
    obtain ⟨ρ1, h1, h2, h3⟩ := h a List.mem_cons_self
    have ih := lcF_maps (t := t) (c := c) (e := e) (ρ := ρ) g f (Q := Q) fun x hx => h x (List.mem_cons_of_mem _ hx)
    rw [List.map_cons]
    unfold lcF
    rw [h1]
    simp only []
    rw [h2]
    simp only []
    rw [h3]
    simp only []
    rw [ih]
    rfl
theorem lcF_filt {α : Type} {t : Tg} {c e : En → R PyData} {ρ : En} (g f : α → PyData) (p : α → Bool) : ∀ {Q : List α}, (∀ a ∈ Q, ∃ ρ1, tset t (g a) ρ = .ok ρ1 ∧ c ρ1 = .ok (.bool (p a)) ∧ (p a = true → e ρ1 = .ok (f a))) → lcF t c e ρ (Q.map g) = some ((Q.filter p).map f)
  | [], _ => rfl
  | a :: Q, h => by
    obtain ⟨ρ1, h1, h2, h3⟩ := h a List.mem_cons_self
    have ih := lcF_filt (t := t) (c := c) (e := e) (ρ := ρ) g f p (Q := Q) fun x hx => h x (List.mem_cons_of_mem _ hx)
    rw [List.map_cons]
    unfold lcF
    rw [h1]
    simp only []
    rw [h2]
    cases hp : p a with
    | true =>
      simp only []
      rw [h3 hp]
      simp only []
      rw [ih, List.filter_cons, if_pos hp]
      rfl
    | false =>
      simp only []
      rw [ih, List.filter_cons, if_neg (by rw [hp]; exact Bool.false_ne_true)]
theorem cut_U {ds : List PyData} {k : Nat} : cutD ds none (some (k : Int)) = ds.take k := by
  unfold cutD
  rw [HT.sIx_nat, HT.sIx_none, List.drop_zero, Nat.sub_zero]
  by_cases h : k ≤ ds.length
  · rw [Nat.min_eq_left h]
  · rw [Nat.min_eq_right (by omega), List.take_length, List.take_of_length_le (by omega)]
theorem cut_L {ds : List PyData} {k : Nat} : cutD ds (some (k : Int)) none = ds.drop k := by
  unfold cutD
  rw [HT.sIx_nat, HT.sIx_none]
  by_cases h : k ≤ ds.length
  · rw [Nat.min_eq_left h, List.take_of_length_le (by rw [List.length_drop]; omega)]
  · rw [Nat.min_eq_right (by omega), List.drop_length, List.drop_of_length_le (by omega), List.take_nil]
@[simp] theorem slc_U {ds : List PyData} {k : Nat} : slcD (.list ds) none (some (k : Int)) = .ok (.list (ds.take k)) := by rw [← cut_U]; rfl
@[simp] theorem slc_L {ds : List PyData} {k : Nat} : slcD (.list ds) (some (k : Int)) none = .ok (.list (ds.drop k)) := by rw [← cut_L]; rfl
@[simp] theorem slc_U1 {ds : List PyData} : slcD (.list ds) none (some 1) = .ok (.list (ds.take 1)) := slc_U (k := 1)
@[simp] theorem slc_N {ds : List PyData} : slcD (.list ds) none none = .ok (.list ds) := by
  show R.ok (PyData.list (cutD ds none none)) = _
  unfold cutD
  rw [HT.sIx_none, HT.sIx_none, Nat.sub_zero, List.drop_zero, List.take_length]
end Dy

namespace Dy
open PySem PySem.Spec
theorem gcd_fmod (x y : Int) : Nat.gcd y.natAbs (x.fmod y).natAbs = Nat.gcd x.natAbs y.natAbs := by
  have h : x.fmod y = x - y * x.fdiv y := Int.fmod_def x y
  rw [h]
  show Int.gcd y (x - y * x.fdiv y) = Int.gcd x y
  rw [Int.gcd_comm x y]
  exact Int.gcd_sub_mul_left_right y x (x.fdiv y)
theorem fmod_neg_bd (x y : Int) (h : y < 0) : x.fmod y ≤ 0 ∧ y < x.fmod y := by
  match x, y, h with
  | .ofNat 0, .negSucc n, _ => 
    show (0 : Int) ≤ 0 ∧ Int.negSucc n < 0
    omega
  | .ofNat (m + 1), .negSucc n, _ =>
    show Int.subNatNat (m % (n + 1)) n ≤ 0 ∧ Int.negSucc n < Int.subNatNat (m % (n + 1)) n
    rw [Int.subNatNat_eq_coe]
    have := Nat.mod_lt m (show 0 < n + 1 by omega)
    omega
  | .negSucc m, .negSucc n, _ =>
    show -((((m + 1) % (n + 1) : Nat)) : Int) ≤ 0 ∧ Int.negSucc n < -((((m + 1) % (n + 1) : Nat)) : Int)
    have := Nat.mod_lt (m + 1) (show 0 < n + 1 by omega)
    omega
theorem fmod_lt (x : Int) {y : Int} (h : y ≠ 0) : (x.fmod y).natAbs < y.natAbs := by
  rcases Int.lt_or_gt_of_ne h with h | h
  · have h1 := fmod_neg_bd x y h
    omega
  · have h1 := Int.fmod_nonneg_of_pos x h
    have h2 := Int.fmod_lt_of_pos x h
    omega
theorem gcd_loop {c : En → R PyData} {b : En → F} (st : Int → Int → En) (hc : ∀ x y, c (st x y) = .ok (.bool (!decide (y = 0)))) (hb : ∀ x y, y ≠ 0 → b (st x y) = .nx (st y (x.fmod y))) :
    ∀ (n : Nat) (x y : Int), y.natAbs ≤ n → ∃ g : Int, whlD c b (st x y) = .nx (st g 0) ∧ g.natAbs = Nat.gcd x.natAbs y.natAbs ∧ (0 ≤ x → 0 ≤ y → 0 ≤ g) := by
  intro n
  induction n with
  | zero =>
    intro x y h
    have e : y = 0 := by omega
    subst e
    refine ⟨x, ?_, by simp, fun h _ => h⟩
    rw [whlD_unfold, hc]
    rfl
  | succ n ih =>
    intro x y h
    by_cases e : y = 0
    · subst e
      refine ⟨x, ?_, by simp, fun h _ => h⟩
      rw [whlD_unfold, hc]
      rfl
    · have h1 := fmod_lt x e
      obtain ⟨g, h2, h3, h4⟩ := ih y (x.fmod y) (by omega)
      refine ⟨g, ?_, by rw [h3, gcd_fmod], fun hx hy => h4 hy (Int.fmod_nonneg hx hy)⟩
      rw [whlD_unfold, hc, decide_eq_false e]
      show (b (st x y)).loop (whlD c b) = _
      rw [hb x y e]
      exact h2
/-- a fraction as the program keeps it -/
def ofR (r : Rat) : PyData := .tuple [.int r.num, .int r.den]
theorem shaped_R (r : Rat) : SeqAt.shaped (ofR r) = true := rfl
theorem eqv_R (r s : Rat) : PyData.eqv (ofR r) (ofR s) = decide (r = s) := by
  simp only [ofR, PyData.eqv, PyData.eqvAll]
  by_cases h : r = s
  · subst h; simp
  · rw [decide_eq_false h]
    by_cases h1 : r.num = s.num
    · have h2 : r.den ≠ s.den := fun e => h (Rat.ext h1 e)
      have h3 : (r.den : Int) ≠ s.den := by omega
      simp [h1, h3]
    · simp [h1]
@[simp] theorem cmp_eq_R {r s : Rat} : cmp2 .eq (ofR r) (ofR s) = .ok (.bool (decide (r = s))) := by rw [cmp_eq_s (shaped_R r) (shaped_R s), eqv_R]
@[simp] theorem cmp_ne_R {r s : Rat} : cmp2 .ne (ofR r) (ofR s) = .ok (.bool (!decide (r = s))) := by rw [cmp_ne_s (shaped_R r) (shaped_R s), eqv_R]
@[simp] theorem idx_R0 {r : Rat} : idxD (ofR r) (.int 0) = .ok (.int r.num) := idx_t0
@[simp] theorem idx_R1 {r : Rat} : idxD (ofR r) (.int 1) = .ok (.int r.den) := idx_t1
/-- bits -/
def Sz (b : Nat) (r : Rat) : Prop := r.num.natAbs < 2 ^ b ∧ r.den < 2 ^ b
theorem log2_le {n b : Nat} (h : n < 2 ^ b) : n.log2 ≤ b := by
  by_cases e : n = 0
  · subst e; simp
  · have := (Nat.log2_lt e).mpr h
    omega
theorem low_pair {a b : Int} {g : Int} (hb : 0 < b) (hg : g.natAbs = Nat.gcd a.natAbs b.natAbs) (h0 : 0 ≤ g) : PyData.tuple [.int (a.fdiv g), .int (b.fdiv g)] = ofR (Rat.divInt a b) := by
  have e : g = (Int.gcd b a : Int) := by
    rw [Int.gcd_comm]
    show g = ((Nat.gcd a.natAbs b.natAbs : Nat) : Int)
    rw [← hg]; omega
  have hp : (0 : Int) ≤ g := h0
  unfold ofR
  rw [Rat.num_divInt, Rat.den_divInt, if_neg (by omega), Int.fdiv_eq_ediv_of_nonneg _ hp, Int.fdiv_eq_ediv_of_nonneg _ hp, e, Int.sign_eq_one_of_pos hb, Int.one_mul]
  have e1 : b = (b.natAbs : Int) := by omega
  have e2 : ((b.natAbs / Int.gcd b a : Nat) : Int) = b / (Int.gcd b a : Int) := by
    rw [Int.natCast_ediv, ← e1]
  rw [e2]
theorem divInt_bits {a b : Int} {k : Nat} (hb : b ≠ 0) (h1 : a.natAbs < 2 ^ k) (h2 : b.natAbs < 2 ^ k) : Sz k (Rat.divInt a b) := by
  unfold Sz
  rw [Rat.num_divInt, Rat.den_divInt, if_neg hb]
  constructor
  · refine Nat.lt_of_le_of_lt (Nat.le_trans (Int.natAbs_ediv_le_natAbs _ _) ?_) h1
    rw [Int.natAbs_mul, Int.natAbs_sign, if_neg hb]
    omega
  · exact Nat.lt_of_le_of_lt (Nat.div_le_self _ _) h2
theorem sz_mono {j k : Nat} {r : Rat} (h : Sz j r) (l : j ≤ k) : Sz k r := ⟨Nat.lt_of_lt_of_le h.1 (Nat.pow_le_pow_right (by decide) l), Nat.lt_of_lt_of_le h.2 (Nat.pow_le_pow_right (by decide) l)⟩
theorem den_ne (r : Rat) : (r.den : Int) ≠ 0 := by have := r.den_pos; omega
theorem den_gt (r : Rat) : (0 : Int) < (r.den : Int) := by have := r.den_pos; omega
theorem mul_bits {a b : Int} {j k : Nat} (h1 : a.natAbs < 2 ^ j) (h2 : b.natAbs < 2 ^ k) : (a * b).natAbs < 2 ^ (j + k) := by
  rw [Int.natAbs_mul, Nat.pow_add]
  exact Nat.mul_lt_mul'' h1 h2
theorem add_bits {a b : Int} {k : Nat} (h1 : a.natAbs < 2 ^ k) (h2 : b.natAbs < 2 ^ k) : (a + b).natAbs < 2 ^ (k + 1) := by
  have := Int.natAbs_add_le a b
  rw [Nat.pow_succ]
  omega
theorem sub_bits {a b : Int} {k : Nat} (h1 : a.natAbs < 2 ^ k) (h2 : b.natAbs < 2 ^ k) : (a - b).natAbs < 2 ^ (k + 1) := by
  have := Int.natAbs_sub_le a b
  rw [Nat.pow_succ]
  omega
theorem mul_log {a b : Int} {j k : Nat} (h1 : a.natAbs < 2 ^ j) (h2 : b.natAbs < 2 ^ k) (h : j + k < 100000000) : a.natAbs.log2 + b.natAbs.log2 < 100000000 := by
  have := log2_le h1
  have := log2_le h2
  omega
theorem divInt_self' (r : Rat) : Rat.divInt r.num r.den = r := Rat.num_divInt_den r
theorem add_R (r s : Rat) : Rat.divInt (r.num * s.den + s.num * r.den) (r.den * s.den) = r + s := by
  rw [← Rat.divInt_add_divInt _ _ (den_ne r) (den_ne s), divInt_self', divInt_self']
theorem sub_R (r s : Rat) : Rat.divInt (r.num * s.den - s.num * r.den) (r.den * s.den) = r - s := by
  rw [← Rat.divInt_sub_divInt _ _ (den_ne r) (den_ne s), divInt_self', divInt_self']
theorem mul_R (r s : Rat) : Rat.divInt (r.num * s.num) (r.den * s.den) = r * s := by
  rw [← Rat.divInt_mul_divInt, divInt_self', divInt_self']
theorem sz_add {j k : Nat} {r s : Rat} (h : Sz j r) (g : Sz k s) : Sz (j + k + 1) (r + s) := by
  rw [← add_R]
  have d : ((r.den : Int) * s.den).natAbs < 2 ^ (j + k) := mul_bits (by simpa using h.2) (by simpa using g.2)
  refine divInt_bits (Int.mul_ne_zero (den_ne r) (den_ne s)) (add_bits (mul_bits h.1 (by simpa using g.2)) ?_) (Nat.lt_of_lt_of_le d (Nat.pow_le_pow_right (by decide) (by omega)))
  rw [Nat.add_comm j k]
  exact mul_bits g.1 (by simpa using h.2)
theorem sz_sub {j k : Nat} {r s : Rat} (h : Sz j r) (g : Sz k s) : Sz (j + k + 1) (r - s) := by
  rw [← sub_R]
  have d : ((r.den : Int) * s.den).natAbs < 2 ^ (j + k) := mul_bits (by simpa using h.2) (by simpa using g.2)
  refine divInt_bits (Int.mul_ne_zero (den_ne r) (den_ne s)) (sub_bits (mul_bits h.1 (by simpa using g.2)) ?_) (Nat.lt_of_lt_of_le d (Nat.pow_le_pow_right (by decide) (by omega)))
  rw [Nat.add_comm j k]
  exact mul_bits g.1 (by simpa using h.2)
theorem sz_mul {j k : Nat} {r s : Rat} (h : Sz j r) (g : Sz k s) : Sz (j + k) (r * s) := by
  rw [← mul_R]
  exact divInt_bits (Int.mul_ne_zero (den_ne r) (den_ne s)) (mul_bits h.1 g.1) (mul_bits (by simpa using h.2) (by simpa using g.2))
theorem sz_int {k : Nat} {i : Int} (h : i.natAbs < 2 ^ k) (hk : 1 ≤ k) : Sz k (i : Rat) := ⟨h, by
  show 1 < 2 ^ k
  exact Nat.one_lt_two_pow (by omega)⟩
theorem ofR_int (i : Int) : PyData.tuple [.int i, .int 1] = ofR (i : Rat) := rfl
end Dy

namespace Dy
open PySem PySem.Spec
/-- a datum of at most n layers, its texts in order -/
def Shp (n : Nat) (d : PyData) : Prop := d.canLay0 = true ∧ d.depth ≤ n
theorem Shp.le {m n : Nat} {d : PyData} (h : Shp m d) (l : m ≤ n) : Shp n d := ⟨h.1, Nat.le_trans h.2 l⟩
theorem Shp.ok {n : Nat} {d : PyData} (h : Shp n d) (l : n ≤ 64) : SeqAt.shaped d = true := by
  unfold SeqAt.shaped
  rw [h.1, decide_eq_true (Nat.le_trans h.2 l)]
  rfl
theorem shp_all {n : Nat} : ∀ {ds : List PyData}, (∀ d ∈ ds, Shp n d) → PyData.canLayAll0 ds = true ∧ PyData.depthAll ds ≤ n
  | [], _ => ⟨rfl, Nat.zero_le _⟩
  | d :: ds, h => by
    obtain ⟨h1, h2⟩ := shp_all (ds := ds) fun x hx => h x (List.mem_cons_of_mem _ hx)
    obtain ⟨g1, g2⟩ := h d List.mem_cons_self
    refine ⟨?_, ?_⟩
    · show (PyData.canLay0 d && PyData.canLayAll0 ds) = true
      rw [g1, h1]
      rfl
    · show max d.depth (PyData.depthAll ds) ≤ n
      omega
theorem shp_l {n : Nat} {ds : List PyData} (h : ∀ d ∈ ds, Shp n d) : Shp (n + 1) (.list ds) := ⟨(shp_all h).1, Nat.succ_le_succ (shp_all h).2⟩
theorem shp_t {n : Nat} {ds : List PyData} (h : ∀ d ∈ ds, Shp n d) : Shp (n + 1) (.tuple ds) := ⟨(shp_all h).1, Nat.succ_le_succ (shp_all h).2⟩
theorem shp_i (i : Int) : Shp 0 (.int i) := ⟨rfl, Nat.le_refl _⟩
theorem shp_R (r : Rat) : Shp 1 (ofR r) := shp_t fun d hd => by
  rcases List.mem_cons.mp hd with e | hd
  · rw [e]; exact shp_i _
  · rw [List.mem_singleton.mp hd]; exact shp_i _
mutual
theorem eqv_refl : ∀ {d : PyData}, d.canLay0 = true → PyData.eqv d d = true
  | .none, _ => by simp only [PyData.eqv]
  | .bool b, _ => by simp [PyData.eqv]
  | .int i, _ => by simp [PyData.eqv]
  | .str x, _ => by simp [PyData.eqv]
  | .list ds, h => by
    simp only [PyData.eqv]
    exact eqvAll_refl (show PyData.canLayAll0 ds = true from h)
  | .tuple ds, h => by
    simp only [PyData.eqv]
    exact eqvAll_refl (show PyData.canLayAll0 ds = true from h)
  | .dict _, h => by exact absurd h Bool.false_ne_true
theorem eqvAll_refl : ∀ {ds : List PyData}, PyData.canLayAll0 ds = true → PyData.eqvAll ds ds = true
  | [], _ => by simp only [PyData.eqvAll]
  | d :: ds, h => by
    have h : (PyData.canLay0 d && PyData.canLayAll0 ds) = true := h
    rw [Bool.and_eq_true] at h
    simp only [PyData.eqvAll]
    rw [eqv_refl h.1, eqvAll_refl h.2]
    rfl
end
theorem cmp_eq_self {n : Nat} {d : PyData} (h : Shp n d) (l : n ≤ 64) : cmp2 .eq d d = .ok (.bool true) := by
  rw [cmp_eq_s (h.ok l) (h.ok l), eqv_refl h.1]
theorem cmp_ne_self {n : Nat} {d : PyData} (h : Shp n d) (l : n ≤ 64) : cmp2 .ne d d = .ok (.bool false) := by
  rw [cmp_ne_s (h.ok l) (h.ok l), eqv_refl h.1]
  rfl
end Dy

namespace Lw
open PySem PySem.Spec PyProof.Rows L2 Dy
noncomputable def ir_is_whole : Ss := (.cons (.ret (.and (.fn .isInt (.bor 0)) (.not (.fn .isBool (.bor 0)))))
  .nil)
noncomputable def sem_is_whole : Sem := def_ 1 0 ir_is_whole
noncomputable def ir_divisor_of : Ss := (.cons (.whl (.cmp .ne (.bor 1) (.cst (.int 0)))
  (.cons (.par 0 1 (.var 1) (.op .mod (.bor 0) (.bor 1)))
  .nil))
  (.cons (.ret (.fn .abs (.bor 0)))
  .nil))
noncomputable def sem_divisor_of : Sem := def_ 2 0 ir_divisor_of
noncomputable def ir_ratio_of : Ss := (.cons (.if_ (.or (.not (.tru (.call "is_whole" sem_is_whole (.cons (.var 0) .nil)))) (.or (.not (.tru (.call "is_whole" sem_is_whole (.cons (.var 1) .nil)))) (.cmp .eq (.bor 1) (.cst (.int 0)))))
  (.cons .never
  .nil)
  .nil)
  (.cons (.set 2 (.call "divisor_of" sem_divisor_of (.cons (.var 0) (.cons (.var 1) .nil))))
  (.cons (.if_ (.cmp .lt (.bor 1) (.cst (.int 0)))
  (.cons (.set 2 (.neg (.bor 2)))
  .nil)
  .nil)
  (.cons (.ret (.tup (.cons (.op .fdiv (.bor 0) (.bor 2)) (.cons (.op .fdiv (.bor 1) (.bor 2)) .nil))))
  .nil))))
noncomputable def sem_ratio_of : Sem := def_ 2 1 ir_ratio_of
noncomputable def ir_ratio_sum : Ss := (.cons (.ret (.call "ratio_of" sem_ratio_of (.cons (.op .add (.op .mul (.idx (.bor 0) (.cst (.int 0))) (.idx (.bor 1) (.cst (.int 1)))) (.op .mul (.idx (.bor 1) (.cst (.int 0))) (.idx (.bor 0) (.cst (.int 1))))) (.cons (.op .mul (.idx (.bor 0) (.cst (.int 1))) (.idx (.bor 1) (.cst (.int 1)))) .nil))))
  .nil)
noncomputable def sem_ratio_sum : Sem := def_ 2 0 ir_ratio_sum
noncomputable def ir_ratio_less : Ss := (.cons (.ret (.call "ratio_of" sem_ratio_of (.cons (.op .sub (.op .mul (.idx (.bor 0) (.cst (.int 0))) (.idx (.bor 1) (.cst (.int 1)))) (.op .mul (.idx (.bor 1) (.cst (.int 0))) (.idx (.bor 0) (.cst (.int 1))))) (.cons (.op .mul (.idx (.bor 0) (.cst (.int 1))) (.idx (.bor 1) (.cst (.int 1)))) .nil))))
  .nil)
noncomputable def sem_ratio_less : Sem := def_ 2 0 ir_ratio_less
noncomputable def ir_ratio_times : Ss := (.cons (.ret (.call "ratio_of" sem_ratio_of (.cons (.op .mul (.idx (.bor 0) (.cst (.int 0))) (.idx (.bor 1) (.cst (.int 0)))) (.cons (.op .mul (.idx (.bor 0) (.cst (.int 1))) (.idx (.bor 1) (.cst (.int 1)))) .nil))))
  .nil)
noncomputable def sem_ratio_times : Sem := def_ 2 0 ir_ratio_times
noncomputable def ir_ratio_by : Ss := (.cons (.ret (.call "ratio_of" sem_ratio_of (.cons (.op .mul (.idx (.bor 0) (.cst (.int 0))) (.idx (.bor 1) (.cst (.int 1)))) (.cons (.op .mul (.idx (.bor 0) (.cst (.int 1))) (.idx (.bor 1) (.cst (.int 0)))) .nil))))
  .nil)
noncomputable def sem_ratio_by : Sem := def_ 2 0 ir_ratio_by
noncomputable def ir_is_under : Ss := (.cons (.ret (.cmp .lt (.op .mul (.idx (.bor 0) (.cst (.int 0))) (.idx (.bor 1) (.cst (.int 1)))) (.op .mul (.idx (.bor 1) (.cst (.int 0))) (.idx (.bor 0) (.cst (.int 1))))))
  .nil)
noncomputable def sem_is_under : Sem := def_ 2 0 ir_is_under
noncomputable def ir_share_of : Ss := (.cons (.set 1 (.glo "NOUGHT" (.tuple [(.int 0), (.int 1)])))
  (.cons (.for_ (.nm 2) (.rg1 (.fn .len (.bor 0)))
  (.cons (.set 3 (.idx (.bor 0) (.bor 2)))
  (.cons (.set 4 (.idx (.bor 0) (.op .mod (.op .add (.bor 2) (.cst (.int 1))) (.fn .len (.bor 0)))))
  (.cons (.set 1 (.call "ratio_sum" sem_ratio_sum (.cons (.var 1) (.cons (.call "ratio_less" sem_ratio_less (.cons (.call "ratio_times" sem_ratio_times (.cons (.idx (.bor 3) (.cst (.int 0))) (.cons (.idx (.bor 4) (.cst (.int 1))) .nil))) (.cons (.call "ratio_times" sem_ratio_times (.cons (.idx (.bor 4) (.cst (.int 0))) (.cons (.idx (.bor 3) (.cst (.int 1))) .nil))) .nil))) .nil))))
  .nil))))
  (.cons (.ret (.call "ratio_times" sem_ratio_times (.cons (.call "ratio_of" sem_ratio_of (.cons (.cst (.int 1)) (.cons (.cst (.int 2)) .nil))) (.cons (.var 1) .nil))))
  .nil)))
noncomputable def sem_share_of : Sem := def_ 1 4 ir_share_of
noncomputable def ir_turn_at : Ss := (.cons (.set 3 (.call "ratio_times" sem_ratio_times (.cons (.call "ratio_less" sem_ratio_less (.cons (.idx (.bor 1) (.cst (.int 0))) (.cons (.idx (.bor 0) (.cst (.int 0))) .nil))) (.cons (.call "ratio_less" sem_ratio_less (.cons (.idx (.bor 2) (.cst (.int 1))) (.cons (.idx (.bor 0) (.cst (.int 1))) .nil))) .nil))))
  (.cons (.ret (.call "ratio_less" sem_ratio_less (.cons (.var 3) (.cons (.call "ratio_times" sem_ratio_times (.cons (.call "ratio_less" sem_ratio_less (.cons (.idx (.bor 1) (.cst (.int 1))) (.cons (.idx (.bor 0) (.cst (.int 1))) .nil))) (.cons (.call "ratio_less" sem_ratio_less (.cons (.idx (.bor 2) (.cst (.int 0))) (.cons (.idx (.bor 0) (.cst (.int 0))) .nil))) .nil))) .nil))))
  .nil))
noncomputable def sem_turn_at : Sem := def_ 3 1 ir_turn_at
noncomputable def ir_between : Ss := (.cons (.set 4 (.call "ratio_by" sem_ratio_by (.cons (.var 2) (.cons (.call "ratio_less" sem_ratio_less (.cons (.var 2) (.cons (.var 3) .nil))) .nil))))
  (.cons (.ret (.fn .tuple (.lc (.tp (.cons (.nm 5) (.cons (.nm 6) .nil))) (.zip (.var 0) (.var 1)) (.cst (.bool true)) [5, 6] (.call "ratio_sum" sem_ratio_sum (.cons (.var 5) (.cons (.call "ratio_times" sem_ratio_times (.cons (.var 4) (.cons (.call "ratio_less" sem_ratio_less (.cons (.var 6) (.cons (.var 5) .nil))) .nil))) .nil))))))
  .nil))
noncomputable def sem_between : Sem := def_ 4 3 ir_between
noncomputable def ir_kept_side : Ss := (.cons (.setN 2 (.fl (.lst .nil)))
  (.cons (.for_ (.nm 3) (.rg1 (.fn .len (.bor 0)))
  (.cons (.set 4 (.op .mod (.op .add (.bor 3) (.cst (.int 1))) (.fn .len (.bor 0))))
  (.cons (.if_ (.not (.tru (.call "is_under" sem_is_under (.cons (.idx (.bor 1) (.bor 3)) (.cons (.glo "NOUGHT" (.tuple [(.int 0), (.int 1)])) .nil)))))
  (.cons (.app 2 (.idx (.bor 0) (.bor 3)))
  .nil)
  .nil)
  (.cons (.if_ (.tru (.call "is_under" sem_is_under (.cons (.call "ratio_times" sem_ratio_times (.cons (.idx (.bor 1) (.bor 3)) (.cons (.idx (.bor 1) (.bor 4)) .nil))) (.cons (.glo "NOUGHT" (.tuple [(.int 0), (.int 1)])) .nil))))
  (.cons (.app 2 (.call "between" sem_between (.cons (.idx (.bor 0) (.bor 3)) (.cons (.idx (.bor 0) (.bor 4)) (.cons (.idx (.bor 1) (.bor 3)) (.cons (.idx (.bor 1) (.bor 4)) .nil))))))
  .nil)
  .nil)
  .nil))))
  (.cons (.ret (.bor 2))
  .nil)))
noncomputable def sem_kept_side : Sem := def_ 2 3 ir_kept_side
noncomputable def ir_is_before : Ss := (.cons (.if_ (.cmp .ne (.idx (.bor 0) (.cst (.int 0))) (.idx (.bor 1) (.cst (.int 0))))
  (.cons (.ret (.call "is_under" sem_is_under (.cons (.idx (.bor 0) (.cst (.int 0))) (.cons (.idx (.bor 1) (.cst (.int 0))) .nil))))
  .nil)
  .nil)
  (.cons (.ret (.call "is_under" sem_is_under (.cons (.idx (.bor 0) (.cst (.int 1))) (.cons (.idx (.bor 1) (.cst (.int 1))) .nil))))
  .nil))
noncomputable def sem_is_before : Sem := def_ 2 0 ir_is_before
noncomputable def ir_tidied_part : Ss := (.cons (.set 1 (.lc (.nm 4) (.rg1 (.fn .len (.bor 0))) (.or (.cmp .ne (.idx (.bor 0) (.bor 4)) (.idx (.bor 0) (.op .sub (.bor 4) (.cst (.int 1))))) (.cmp .eq (.fn .len (.bor 0)) (.cst (.int 1)))) [4] (.idx (.bor 0) (.bor 4))))
  (.cons (.set 2 (.fn .len (.bor 1)))
  (.cons (.setN 3 (.fl (.lst .nil)))
  (.cons (.for_ (.nm 4) (.rg1 (.var 2))
  (.cons (.if_ (.cmp .ne (.call "turn_at" sem_turn_at (.cons (.idx (.bor 1) (.op .sub (.bor 4) (.cst (.int 1)))) (.cons (.idx (.bor 1) (.bor 4)) (.cons (.idx (.bor 1) (.op .mod (.op .add (.bor 4) (.cst (.int 1))) (.bor 2))) .nil)))) (.glo "NOUGHT" (.tuple [(.int 0), (.int 1)])))
  (.cons (.app 3 (.idx (.bor 1) (.bor 4)))
  .nil)
  .nil)
  .nil))
  (.cons (.if_ (.cmp .lt (.fn .len (.bor 3)) (.cst (.int 3)))
  (.cons (.rtn (.fl (.lst .nil)))
  .nil)
  .nil)
  (.cons (.esc [3] (.if_ (.tru (.call "is_under" sem_is_under (.cons (.call "share_of" sem_share_of (.cons (.var 3) .nil)) (.cons (.glo "NOUGHT" (.tuple [(.int 0), (.int 1)])) .nil))))
  (.cons (.setN 3 (.fl (.rev (.bor 3))))
  .nil)
  .nil))
  (.cons (.set 5 (.cst (.int 0)))
  (.cons (.for_ (.nm 4) (.rg2 (.cst (.int 1)) (.fn .len (.bor 3)))
  (.cons (.if_ (.tru (.call "is_before" sem_is_before (.cons (.idx (.bor 3) (.bor 4)) (.cons (.idx (.bor 3) (.bor 5)) .nil))))
  (.cons (.set 5 (.var 4))
  .nil)
  .nil)
  .nil))
  (.cons (.rtn (.fl (.op .add (.slL (.bor 3) (.bor 5)) (.slU (.bor 3) (.bor 5)))))
  .nil)))))))))
noncomputable def sem_tidied_part : Sem := defN shF 1 5 ir_tidied_part
noncomputable def ir_both_of : Ss := (.cons (.if_ (.or (.cmp .eq (.bor 0) (.lst .nil)) (.cmp .eq (.bor 1) (.lst .nil)))
  (.cons (.rtn (.fl (.lst .nil)))
  .nil)
  .nil)
  (.cons (.set 2 (.var 0))
  (.cons (.for_ (.nm 3) (.rg1 (.fn .len (.bor 1)))
  (.cons (.set 4 (.idx (.bor 1) (.bor 3)))
  (.cons (.set 5 (.idx (.bor 1) (.op .mod (.op .add (.bor 3) (.cst (.int 1))) (.fn .len (.bor 1)))))
  (.cons (.set 2 (.call "kept_side" sem_kept_side (.cons (.var 2) (.cons (.lc (.nm 6) (.it (.var 2)) (.cst (.bool true)) [6] (.call "turn_at" sem_turn_at (.cons (.var 4) (.cons (.var 5) (.cons (.var 6) .nil))))) .nil))))
  .nil))))
  (.cons (.rtn (.call "tidied_part" sem_tidied_part shF (.cons (.var 2) .nil)))
  .nil))))
noncomputable def sem_both_of : Sem := defN shF 2 5 ir_both_of
noncomputable def ir_triple_sum : Ss := (.cons (.ret (.tup (.cons (.op .add (.idx (.bor 0) (.cst (.int 0))) (.idx (.bor 1) (.cst (.int 0)))) (.cons (.op .add (.idx (.bor 0) (.cst (.int 1))) (.idx (.bor 1) (.cst (.int 1)))) (.cons (.op .add (.idx (.bor 0) (.cst (.int 2))) (.idx (.bor 1) (.cst (.int 2)))) .nil)))))
  .nil)
noncomputable def sem_triple_sum : Sem := def_ 2 0 ir_triple_sum
noncomputable def ir_triple_less : Ss := (.cons (.ret (.tup (.cons (.op .sub (.idx (.bor 0) (.cst (.int 0))) (.idx (.bor 1) (.cst (.int 0)))) (.cons (.op .sub (.idx (.bor 0) (.cst (.int 1))) (.idx (.bor 1) (.cst (.int 1)))) (.cons (.op .sub (.idx (.bor 0) (.cst (.int 2))) (.idx (.bor 1) (.cst (.int 2)))) .nil)))))
  .nil)
noncomputable def sem_triple_less : Sem := def_ 2 0 ir_triple_less
noncomputable def ir_dot_of : Ss := (.cons (.ret (.op .add (.op .add (.op .mul (.idx (.bor 0) (.cst (.int 0))) (.idx (.bor 1) (.cst (.int 0)))) (.op .mul (.idx (.bor 0) (.cst (.int 1))) (.idx (.bor 1) (.cst (.int 1))))) (.op .mul (.idx (.bor 0) (.cst (.int 2))) (.idx (.bor 1) (.cst (.int 2))))))
  .nil)
noncomputable def sem_dot_of : Sem := def_ 2 0 ir_dot_of
noncomputable def ir_cross_of : Ss := (.cons (.unp (.tp (.cons (.nm 2) (.cons (.nm 3) (.cons (.nm 4) .nil)))) (.var 0))
  (.cons (.unp (.tp (.cons (.nm 5) (.cons (.nm 6) (.cons (.nm 7) .nil)))) (.var 1))
  (.cons (.ret (.tup (.cons (.op .sub (.op .mul (.bor 3) (.bor 7)) (.op .mul (.bor 4) (.bor 6))) (.cons (.op .sub (.op .mul (.bor 4) (.bor 5)) (.op .mul (.bor 2) (.bor 7))) (.cons (.op .sub (.op .mul (.bor 2) (.bor 6)) (.op .mul (.bor 3) (.bor 5))) .nil)))))
  .nil)))
noncomputable def sem_cross_of : Sem := def_ 2 6 ir_cross_of
noncomputable def ir_front_of : Ss := (.cons (.ret (.call "cross_of" sem_cross_of (.cons (.idx (.bor 0) (.cst (.int 1))) (.cons (.idx (.bor 0) (.cst (.int 2))) .nil))))
  .nil)
noncomputable def sem_front_of : Sem := def_ 1 0 ir_front_of
noncomputable def ir_point_less : Ss := (.cons (.ret (.fn .tuple (.lc (.tp (.cons (.nm 2) (.cons (.nm 3) .nil))) (.zip (.var 0) (.var 1)) (.cst (.bool true)) [2, 3] (.call "ratio_less" sem_ratio_less (.cons (.var 2) (.cons (.tup (.cons (.var 3) (.cons (.cst (.int 1)) .nil))) .nil))))))
  .nil)
noncomputable def sem_point_less : Sem := def_ 2 2 ir_point_less
noncomputable def ir_point_dot : Ss := (.cons (.set 2 (.tup (.cons (.cst (.int 0)) (.cons (.cst (.int 1)) .nil))))
  (.cons (.for_ (.tp (.cons (.nm 3) (.cons (.nm 4) .nil))) (.zip (.var 0) (.var 1))
  (.cons (.set 2 (.call "ratio_sum" sem_ratio_sum (.cons (.var 2) (.cons (.call "ratio_times" sem_ratio_times (.cons (.var 3) (.cons (.tup (.cons (.var 4) (.cons (.cst (.int 1)) .nil))) .nil))) .nil))))
  .nil))
  (.cons (.ret (.bor 2))
  .nil)))
noncomputable def sem_point_dot : Sem := def_ 2 3 ir_point_dot
noncomputable def ir_meeting_of : Ss := (.cons (.unp (.tp (.cons (.nm 3) (.cons (.nm 4) (.cons (.nm 5) .nil)))) (.var 0))
  (.cons (.set 6 (.call "dot_of" sem_dot_of (.cons (.call "front_of" sem_front_of (.cons (.var 0) .nil)) (.cons (.var 2) .nil))))
  (.cons (.if_ (.cmp .eq (.bor 6) (.cst (.int 0)))
  (.cons (.ret (.cst .none))
  .nil)
  .nil)
  (.cons (.set 7 (.call "point_less" sem_point_less (.cons (.var 1) (.cons (.var 3) .nil))))
  (.cons (.set 8 (.call "ratio_by" sem_ratio_by (.cons (.call "point_dot" sem_point_dot (.cons (.var 7) (.cons (.call "cross_of" sem_cross_of (.cons (.var 5) (.cons (.var 2) .nil))) .nil))) (.cons (.tup (.cons (.var 6) (.cons (.cst (.int 1)) .nil))) .nil))))
  (.cons (.set 9 (.call "ratio_by" sem_ratio_by (.cons (.call "point_dot" sem_point_dot (.cons (.var 7) (.cons (.call "cross_of" sem_cross_of (.cons (.var 2) (.cons (.var 4) .nil))) .nil))) (.cons (.tup (.cons (.var 6) (.cons (.cst (.int 1)) .nil))) .nil))))
  (.cons (.ret (.tup (.cons (.var 8) (.cons (.var 9) .nil))))
  .nil)))))))
noncomputable def sem_meeting_of : Sem := def_ 3 7 ir_meeting_of
noncomputable def ir_corners_of : Ss := (.cons (.unp (.tp (.cons (.nm 1) (.cons (.nm 2) (.cons (.nm 3) .nil)))) (.var 0))
  (.cons (.set 4 (.call "triple_sum" sem_triple_sum (.cons (.var 1) (.cons (.var 2) .nil))))
  (.cons (.ret (.lst (.cons (.var 1) (.cons (.var 4) (.cons (.call "triple_sum" sem_triple_sum (.cons (.var 4) (.cons (.var 3) .nil))) (.cons (.call "triple_sum" sem_triple_sum (.cons (.var 1) (.cons (.var 3) .nil))) .nil))))))
  .nil)))
noncomputable def sem_corners_of : Sem := def_ 1 4 ir_corners_of
noncomputable def ir_as_point : Ss := (.cons (.ret (.fn .tuple (.lc (.nm 1) (.it (.var 0)) (.cst (.bool true)) [1] (.tup (.cons (.var 1) (.cons (.cst (.int 1)) .nil))))))
  .nil)
noncomputable def sem_as_point : Sem := def_ 1 1 ir_as_point
noncomputable def ir_shaded_by : Ss := (.cons (.set 3 (.call "front_of" sem_front_of (.cons (.var 0) .nil)))
  (.cons (.set 4 (.call "corners_of" sem_corners_of (.cons (.var 1) .nil)))
  (.cons (.set 5 (.lc (.nm 7) (.it (.var 4)) (.cst (.bool true)) [7] (.call "dot_of" sem_dot_of (.cons (.var 3) (.cons (.call "triple_less" sem_triple_less (.cons (.var 7) (.cons (.idx (.bor 0) (.cst (.int 0))) .nil))) .nil)))))
  (.cons (.if_ (.or (.cmp .eq (.call "dot_of" sem_dot_of (.cons (.call "front_of" sem_front_of (.cons (.var 1) .nil)) (.cons (.var 2) .nil))) (.cst (.int 0))) (.cmp .le (.fn .max (.bor 5)) (.cst (.int 0))))
  (.cons (.rtn (.fl (.lst .nil)))
  .nil)
  .nil)
  (.cons (.set 6 (.call "kept_side" sem_kept_side (.cons (.lc (.nm 7) (.it (.var 4)) (.cst (.bool true)) [7] (.call "as_point" sem_as_point (.cons (.var 7) .nil))) (.cons (.lc (.nm 8) (.it (.var 5)) (.cst (.bool true)) [8] (.tup (.cons (.var 8) (.cons (.cst (.int 1)) .nil)))) .nil))))
  (.cons (.rtn (.call "both_of" sem_both_of shF (.cons (.call "tidied_part" sem_tidied_part (.cons (.lc (.nm 9) (.it (.var 6)) (.cst (.bool true)) [9] (.call "meeting_of" sem_meeting_of (.cons (.var 0) (.cons (.var 9) (.cons (.var 2) .nil))))) .nil)) (.cons (.fn .list (.glo "WHOLE" (.list [(.tuple [(.tuple [(.int 0), (.int 1)]), (.tuple [(.int 0), (.int 1)])]), (.tuple [(.tuple [(.int 1), (.int 1)]), (.tuple [(.int 0), (.int 1)])]), (.tuple [(.tuple [(.int 1), (.int 1)]), (.tuple [(.int 1), (.int 1)])]), (.tuple [(.tuple [(.int 0), (.int 1)]), (.tuple [(.int 1), (.int 1)])])]))) .nil))))
  .nil))))))
noncomputable def sem_shaded_by : Sem := defN shF 3 7 ir_shaded_by
noncomputable def ir__law_cell_at : Ss := (.cons (.if_ (.cmp .lt (.bor 1) (.fn .len (.bor 0)))
  (.cons (.ret (.idx (.bor 0) (.bor 1)))
  .nil)
  .nil)
  (.cons (.ret (.cst (.int 0)))
  .nil))
noncomputable def sem__law_cell_at : Sem := def_ 2 0 ir__law_cell_at
noncomputable def ir__law_draw : Ss := (.cons (.if_ (.cmp .ge (.bor 0) (.op .pow (.cst (.int 10)) (.cst (.int 18))))
  (.cons (.set 4 (.var 0))
  (.cons (.for_ (.nm 5) (.rg1 (.var 1))
  (.cons (.set 4 (.op .fdiv (.bor 4) (.op .pow (.cst (.int 10)) (.cst (.int 10)))))
  .nil))
  (.cons (.if_ (.cmp .gt (.bor 4) (.cst (.int 0)))
  (.cons (.ret (.op .mod (.op .mod (.bor 4) (.op .pow (.cst (.int 10)) (.cst (.int 10)))) (.bor 2)))
  .nil)
  .nil)
  .nil)))
  .nil)
  (.cons (.set 3 (.op .mod (.op .mul (.op .add (.op .add (.op .add (.op .mod (.bor 0) (.cst (.int 2147483647))) (.op .mul (.op .mul (.cst (.int 7919)) (.bor 1)) (.bor 1))) (.op .mul (.cst (.int 31)) (.bor 1))) (.cst (.int 1))) (.cst (.int 48271))) (.cst (.int 2147483647))))
  (.cons (.set 3 (.op .mod (.op .add (.op .add (.op .mul (.bor 3) (.bor 3)) (.op .mul (.cst (.int 69621)) (.bor 1))) (.cst (.int 7))) (.cst (.int 2147483629))))
  (.cons (.ret (.op .mod (.op .mod (.op .mul (.bor 3) (.bor 3)) (.cst (.int 2147483587))) (.bor 2)))
  .nil))))
noncomputable def sem__law_draw : Sem := def_ 3 3 ir__law_draw
noncomputable def ir__law_number : Ss := (.cons (.set 2 (.call "_law_draw" sem__law_draw (.cons (.var 0) (.cons (.op .mul (.cst (.int 2)) (.bor 1)) (.cons (.cst (.int 8)) .nil)))))
  (.cons (.if_ (.cmp .lt (.bor 2) (.cst (.int 5)))
  (.cons (.ret (.op .sub (.call "_law_draw" sem__law_draw (.cons (.var 0) (.cons (.op .add (.op .mul (.cst (.int 2)) (.bor 1)) (.cst (.int 1))) (.cons (.cst (.int 9)) .nil)))) (.cst (.int 4))))
  .nil)
  .nil)
  (.cons (.if_ (.cmp .lt (.bor 2) (.cst (.int 7)))
  (.cons (.ret (.op .sub (.call "_law_draw" sem__law_draw (.cons (.var 0) (.cons (.op .add (.op .mul (.cst (.int 2)) (.bor 1)) (.cst (.int 1))) (.cons (.cst (.int 61)) .nil)))) (.cst (.int 30))))
  .nil)
  .nil)
  (.cons (.ret (.op .mul (.idx (.lst (.cons (.cst (.int 1)) (.cons (.neg (.cst (.int 1))) .nil))) (.call "_law_draw" sem__law_draw (.cons (.var 0) (.cons (.op .add (.op .mul (.cst (.int 2)) (.bor 1)) (.cst (.int 1))) (.cons (.cst (.int 2)) .nil))))) (.op .sub (.op .pow (.cst (.int 10)) (.cst (.int 9))) (.op .fdiv (.call "_law_draw" sem__law_draw (.cons (.var 0) (.cons (.op .mul (.cst (.int 2)) (.bor 1)) (.cons (.cst (.int 64)) .nil)))) (.cst (.int 8))))))
  .nil))))
noncomputable def sem__law_number : Sem := def_ 2 1 ir__law_number
noncomputable def ir__law_triple : Ss := (.cons (.ret (.tup (.cons (.call "_law_number" sem__law_number (.cons (.var 0) (.cons (.var 1) .nil))) (.cons (.call "_law_number" sem__law_number (.cons (.var 0) (.cons (.op .add (.bor 1) (.cst (.int 1))) .nil))) (.cons (.call "_law_number" sem__law_number (.cons (.var 0) (.cons (.op .add (.bor 1) (.cst (.int 2))) .nil))) .nil)))))
  .nil)
noncomputable def sem__law_triple : Sem := def_ 2 0 ir__law_triple
noncomputable def ir__law_cross : Ss := (.cons (.unp (.tp (.cons (.nm 2) (.cons (.nm 3) (.cons (.nm 4) .nil)))) (.var 0))
  (.cons (.unp (.tp (.cons (.nm 5) (.cons (.nm 6) (.cons (.nm 7) .nil)))) (.var 1))
  (.cons (.ret (.tup (.cons (.op .sub (.op .mul (.bor 3) (.bor 7)) (.op .mul (.bor 4) (.bor 6))) (.cons (.op .sub (.op .mul (.bor 4) (.bor 5)) (.op .mul (.bor 2) (.bor 7))) (.cons (.op .sub (.op .mul (.bor 2) (.bor 6)) (.op .mul (.bor 3) (.bor 5))) .nil)))))
  .nil)))
noncomputable def sem__law_cross : Sem := def_ 2 6 ir__law_cross
noncomputable def ir__law_dot : Ss := (.cons (.ret (.op .add (.op .add (.op .mul (.idx (.bor 0) (.cst (.int 0))) (.idx (.bor 1) (.cst (.int 0)))) (.op .mul (.idx (.bor 0) (.cst (.int 1))) (.idx (.bor 1) (.cst (.int 1))))) (.op .mul (.idx (.bor 0) (.cst (.int 2))) (.idx (.bor 1) (.cst (.int 2))))))
  .nil)
noncomputable def sem__law_dot : Sem := def_ 2 0 ir__law_dot
noncomputable def ir__law_plate : Ss := (.cons (.set 2 (.call "_law_triple" sem__law_triple (.cons (.var 0) (.cons (.op .add (.bor 1) (.cst (.int 3))) .nil))))
  (.cons (.if_ (.cmp .eq (.bor 2) (.tup (.cons (.cst (.int 0)) (.cons (.cst (.int 0)) (.cons (.cst (.int 0)) .nil)))))
  (.cons (.set 2 (.tup (.cons (.cst (.int 1)) (.cons (.cst (.int 0)) (.cons (.cst (.int 0)) .nil)))))
  .nil)
  .nil)
  (.cons (.set 3 (.call "_law_triple" sem__law_triple (.cons (.var 0) (.cons (.op .add (.bor 1) (.cst (.int 6))) .nil))))
  (.cons (.for_ (.nm 4) (.it (.lst (.cons (.tup (.cons (.cst (.int 0)) (.cons (.cst (.int 1)) (.cons (.cst (.int 0)) .nil)))) (.cons (.tup (.cons (.cst (.int 0)) (.cons (.cst (.int 0)) (.cons (.cst (.int 1)) .nil)))) (.cons (.tup (.cons (.cst (.int 1)) (.cons (.cst (.int 0)) (.cons (.cst (.int 0)) .nil)))) .nil)))))
  (.cons (.if_ (.cmp .eq (.call "_law_cross" sem__law_cross (.cons (.var 2) (.cons (.var 3) .nil))) (.tup (.cons (.cst (.int 0)) (.cons (.cst (.int 0)) (.cons (.cst (.int 0)) .nil)))))
  (.cons (.set 3 (.var 4))
  .nil)
  .nil)
  .nil))
  (.cons (.ret (.tup (.cons (.call "_law_triple" sem__law_triple (.cons (.var 0) (.cons (.var 1) .nil))) (.cons (.var 2) (.cons (.var 3) .nil)))))
  .nil)))))
noncomputable def sem__law_plate : Sem := def_ 2 3 ir__law_plate
noncomputable def ir__law_ahead : Ss := (.cons (.if_ (.cmp .lt (.call "_law_dot" sem__law_dot (.cons (.var 0) (.cons (.var 1) .nil))) (.cst (.int 0)))
  (.cons (.set 1 (.tup (.cons (.op .sub (.cst (.int 0)) (.idx (.bor 1) (.cst (.int 0)))) (.cons (.op .sub (.cst (.int 0)) (.idx (.bor 1) (.cst (.int 1)))) (.cons (.op .sub (.cst (.int 0)) (.idx (.bor 1) (.cst (.int 2)))) .nil)))))
  .nil)
  .nil)
  (.cons (.for_ (.nm 2) (.it (.lst (.cons (.tup (.cons (.cst (.int 0)) (.cons (.cst (.int 0)) (.cons (.cst (.int 1)) .nil)))) (.cons (.tup (.cons (.cst (.int 0)) (.cons (.cst (.int 1)) (.cons (.cst (.int 0)) .nil)))) (.cons (.tup (.cons (.cst (.int 1)) (.cons (.cst (.int 0)) (.cons (.cst (.int 0)) .nil)))) .nil)))))
  (.cons (.if_ (.cmp .eq (.call "_law_dot" sem__law_dot (.cons (.var 0) (.cons (.var 1) .nil))) (.cst (.int 0)))
  (.cons (.set 3 (.idx (.lst (.cons (.cst (.int 1)) (.cons (.neg (.cst (.int 1))) .nil))) (.fn .int (.cmp .lt (.call "_law_dot" sem__law_dot (.cons (.var 0) (.cons (.var 2) .nil))) (.cst (.int 0))))))
  (.cons (.set 1 (.fn .tuple (.lc (.tp (.cons (.nm 4) (.cons (.nm 5) .nil))) (.zip (.var 1) (.var 2)) (.cst (.bool true)) [4, 5] (.op .add (.bor 4) (.op .mul (.bor 3) (.bor 5))))))
  .nil))
  .nil)
  .nil))
  (.cons (.ret (.bor 1))
  .nil)))
noncomputable def sem__law_ahead : Sem := def_ 2 4 ir__law_ahead
noncomputable def ir__law_sum : Ss := (.cons (.ret (.fn .tuple (.lc (.tp (.cons (.nm 3) (.cons (.nm 4) .nil))) (.zip (.var 0) (.var 1)) (.cst (.bool true)) [3, 4] (.op .add (.bor 3) (.op .mul (.bor 2) (.bor 4))))))
  .nil)
noncomputable def sem__law_sum : Sem := def_ 3 2 ir__law_sum
noncomputable def ir__law_other : Ss := (.cons (.set 3 (.call "_law_draw" sem__law_draw (.cons (.var 2) (.cons (.cst (.int 40)) (.cons (.cst (.int 5)) .nil)))))
  (.cons (.unp (.tp (.cons (.nm 4) (.cons (.nm 5) (.cons (.nm 6) .nil)))) (.var 0))
  (.cons (.if_ (.cmp .eq (.bor 3) (.cst (.int 0)))
  (.cons (.ret (.bor 0))
  .nil)
  .nil)
  (.cons (.if_ (.cmp .eq (.bor 3) (.cst (.int 1)))
  (.cons (.ret (.tup (.cons (.var 4) (.cons (.var 6) (.cons (.var 5) .nil)))))
  .nil)
  .nil)
  (.cons (.set 7 (.call "_law_sum" sem__law_sum (.cons (.call "_law_sum" sem__law_sum (.cons (.var 4) (.cons (.var 5) (.cons (.op .sub (.call "_law_draw" sem__law_draw (.cons (.var 2) (.cons (.cst (.int 41)) (.cons (.cst (.int 5)) .nil)))) (.cst (.int 2))) .nil)))) (.cons (.var 6) (.cons (.op .sub (.call "_law_draw" sem__law_draw (.cons (.var 2) (.cons (.cst (.int 42)) (.cons (.cst (.int 5)) .nil)))) (.cst (.int 2))) .nil)))))
  (.cons (.if_ (.cmp .eq (.bor 3) (.cst (.int 2)))
  (.cons (.ret (.tup (.cons (.var 7) (.cons (.call "_law_sum" sem__law_sum (.cons (.var 5) (.cons (.var 6) (.cons (.cst (.int 1)) .nil)))) (.cons (.call "_law_sum" sem__law_sum (.cons (.var 6) (.cons (.var 5) (.cons (.op .sub (.op .sub (.cst (.int 0)) (.cst (.int 1))) (.call "_law_draw" sem__law_draw (.cons (.var 2) (.cons (.cst (.int 43)) (.cons (.cst (.int 3)) .nil))))) .nil)))) .nil)))))
  .nil)
  .nil)
  (.cons (.if_ (.cmp .eq (.bor 3) (.cst (.int 3)))
  (.cons (.set 9 (.fn .tuple (.lc (.nm 10) (.it (.var 1)) (.cst (.bool true)) [10] (.op .sub (.cst (.int 0)) (.bor 10)))))
  (.cons (.ret (.tup (.cons (.call "_law_sum" sem__law_sum (.cons (.var 7) (.cons (.var 9) (.cons (.call "_law_draw" sem__law_draw (.cons (.var 2) (.cons (.cst (.int 43)) (.cons (.cst (.int 2)) .nil)))) .nil)))) (.cons (.var 5) (.cons (.call "_law_sum" sem__law_sum (.cons (.var 9) (.cons (.var 6) (.cons (.op .sub (.call "_law_draw" sem__law_draw (.cons (.var 2) (.cons (.cst (.int 44)) (.cons (.cst (.int 3)) .nil)))) (.cst (.int 1))) .nil)))) .nil)))))
  .nil))
  .nil)
  (.cons (.set 8 (.idx (.lst (.cons (.var 5) (.cons (.var 6) .nil))) (.call "_law_draw" sem__law_draw (.cons (.var 2) (.cons (.cst (.int 43)) (.cons (.cst (.int 2)) .nil))))))
  (.cons (.ret (.tup (.cons (.call "_law_sum" sem__law_sum (.cons (.var 7) (.cons (.var 1) (.cons (.cst (.int 1)) .nil)))) (.cons (.var 8) (.cons (.var 1) .nil)))))
  .nil)))))))))
noncomputable def sem__law_other : Sem := def_ 3 8 ir__law_other
noncomputable def ir__law_far : Ss := (.cons (.ret (.cmp .ne (.lc (.nm 1) (.it (.op .add (.op .add (.idx (.bor 0) (.cst (.int 0))) (.idx (.bor 0) (.cst (.int 1)))) (.idx (.bor 0) (.cst (.int 2))))) (.cmp .gt (.fn .abs (.bor 1)) (.op .pow (.cst (.int 10)) (.cst (.int 9)))) [1] (.var 1)) (.lst .nil)))
  .nil)
noncomputable def sem__law_far : Sem := def_ 1 1 ir__law_far
noncomputable def ir_law : Ss := (.cons (.for_ (.nm 1) (.it (.op .add (.lst (.cons (.cst (.int 3)) .nil)) (.slU (.bor 0) (.cst (.int 30)))))
  (.cons (.set 2 (.call "_law_plate" sem__law_plate (.cons (.var 1) (.cons (.cst (.int 0)) .nil))))
  (.cons (.set 3 (.call "_law_ahead" sem__law_ahead (.cons (.call "_law_cross" sem__law_cross (.cons (.idx (.bor 2) (.cst (.int 1))) (.cons (.idx (.bor 2) (.cst (.int 2))) .nil))) (.cons (.call "_law_triple" sem__law_triple (.cons (.var 1) (.cons (.cst (.int 10)) .nil))) .nil))))
  (.cons (.set 4 (.call "_law_other" sem__law_other (.cons (.var 2) (.cons (.var 3) (.cons (.var 1) .nil)))))
  (.cons (.if_ (.tru (.call "_law_far" sem__law_far (.cons (.var 4) .nil)))
  (.cons (.set 4 (.var 2))
  .nil)
  .nil)
  (.cons (.setN 5 (.call "shaded_by" sem_shaded_by shF (.cons (.var 2) (.cons (.var 4) (.cons (.var 3) .nil)))))
  (.cons (.if_ (.or (.not (.tru (.fn .isList (.bor 5)))) (.eqc true (.boc 5) (.lst .nil)))
  (.cons (.ret (.cst (.bool false)))
  .nil)
  .nil)
  (.cons (.app 5 (.cst (.int 1)))
  (.cons (.if_ (.cmp .ne (.call "shaded_by" sem_shaded_by (.cons (.var 2) (.cons (.var 4) (.cons (.var 3) .nil)))) (.lst .nil))
  (.cons (.ret (.cst (.bool false)))
  .nil)
  .nil)
  .nil)))))))))
  (.cons (.ret (.cst (.bool true)))
  .nil))
noncomputable def sem_law : Sem := def_ 1 5 ir_law
end Lw
namespace Lw
open PySem PySem.Spec Dy
theorem small_log {a b : Int} (h1 : a.natAbs < 2 ^ 100) (h2 : b.natAbs < 2 ^ 100) : a.natAbs.log2 + b.natAbs.log2 < 100000000 := mul_log h1 h2 (by decide)
theorem fmod_bd (a : Int) {m : Int} (h : 0 < m) : 0 ≤ a.fmod m ∧ a.fmod m < m := ⟨Int.fmod_nonneg_of_pos a h, Int.fmod_lt_of_pos a h⟩
/-- the tail of a draw -/
theorem draw_tail {cell k many : Int} (hk : 0 ≤ k) (hk2 : k < 1000) (hm : 0 < many) (s3 s4 s5 : Slot) : ∃ v : Int, runs
    (.cons (.set 3 (.op .mod (.op .mul (.op .add (.op .add (.op .add (.op .mod (.bor 0) (.cst (.int 2147483647))) (.op .mul (.op .mul (.cst (.int 7919)) (.bor 1)) (.bor 1))) (.op .mul (.cst (.int 31)) (.bor 1))) (.cst (.int 1))) (.cst (.int 48271))) (.cst (.int 2147483647))))
    (.cons (.set 3 (.op .mod (.op .add (.op .add (.op .mul (.bor 3) (.bor 3)) (.op .mul (.cst (.int 69621)) (.bor 1))) (.cst (.int 7))) (.cst (.int 2147483629))))
    (.cons (.ret (.op .mod (.op .mod (.op .mul (.bor 3) (.bor 3)) (.cst (.int 2147483587))) (.bor 2))) .nil))) [.val (.int cell), .val (.int k), .val (.int many), s3, s4, s5] = .rt (.int v) ∧ 0 ≤ v ∧ v < many := by
  obtain ⟨c1, c2⟩ := fmod_bd cell (m := 2147483647) (by decide)
  have l1 := small_log (a := 7919) (b := k) (by decide) (by omega)
  have b2 : 0 ≤ 7919 * k ∧ 7919 * k < 7919000 := by omega
  have l2 := small_log (a := 7919 * k) (b := k) (by omega) (by omega)
  have b3 : 0 ≤ 7919 * k * k ∧ 7919 * k * k ≤ 7919000 * 1000 := ⟨Int.mul_nonneg b2.1 hk, Int.mul_le_mul (by omega) (by omega) hk (by decide)⟩
  have l3 := small_log (a := 31) (b := k) (by decide) (by omega)
  have l4 := small_log (a := cell.fmod 2147483647 + 7919 * k * k + 31 * k + 1) (b := 48271) (by omega) (by decide)
  generalize hn : ((cell.fmod 2147483647 + 7919 * k * k + 31 * k + 1) * 48271).fmod 2147483647 = n
  obtain ⟨n1, n2⟩ := fmod_bd ((cell.fmod 2147483647 + 7919 * k * k + 31 * k + 1) * 48271) (m := 2147483647) (by decide)
  rw [hn] at n1 n2
  have l5 := small_log (a := n) (b := n) (by omega) (by omega)
  have l6 := small_log (a := 69621) (b := k) (by decide) (by omega)
  generalize hq : (n * n + 69621 * k + 7).fmod 2147483629 = q
  obtain ⟨q1, q2⟩ := fmod_bd (n * n + 69621 * k + 7) (m := 2147483629) (by decide)
  rw [hq] at q1 q2
  have l7 := small_log (a := q) (b := q) (by omega) (by omega)
  refine ⟨((q * q).fmod 2147483587).fmod many, ?_, fmod_bd _ hm⟩
  simp [op_mod_i (i := cell) (j := 2147483647) (by decide), op_mul_i l1, op_mul_i l2, op_mul_i l3, op_mul_i l4, op_mod_i (i := (cell.fmod 2147483647 + 7919 * k * k + 31 * k + 1) * 48271) (j := 2147483647) (by decide), hn, op_mul_i l5, op_mul_i l6, op_mod_i (i := n * n + 69621 * k + 7) (j := 2147483629) (by decide), hq, op_mul_i l7,
    op_mod_i (i := q * q) (j := 2147483587) (by decide), op_mod_i (i := (q * q).fmod 2147483587) (j := many) (by omega)]
theorem draw_eq (cell : Int) {k many : Int} (hk : 0 ≤ k) (hk2 : k < 1000) (hm : 0 < many) : ∃ v : Int, sem__law_draw [.int cell, .int k, .int many] = .ok (.int v) ∧ 0 ≤ v ∧ v < many := by
  unfold sem__law_draw
  rw [def_eq (by rfl)]
  unfold ir__law_draw
  have p10 : (10 : Int) ^ 10 = 10000000000 := by decide
  have p18 : (10 : Int) ^ 18 = 1000000000000000000 := by decide
  have o10 : op2 .pow (.int 10) (.int 10) = .ok (.int 10000000000) := by rw [op_pow_i (by decide)]; rfl
  have o18 : op2 .pow (.int 10) (.int 18) = .ok (.int 1000000000000000000) := by rw [op_pow_i (by decide)]; rfl
  by_cases hc : 1000000000000000000 ≤ cell
  · obtain ⟨ρ, h1, l, j, h2⟩ := forF_all (t := .nm 5) (b := runs (.cons (.set 4 (.op .fdiv (.bor 4) (.op .pow (.cst (.int 10)) (.cst (.int 10))))) .nil)) (ds := rgD 0 k) (ρ := [.val (.int cell), .val (.int k), .val (.int many), .no, .val (.int cell), .no])
      (fun _ ρ => ∃ (l : Int) (j : Slot), ρ = [.val (.int cell), .val (.int k), .val (.int many), .no, .val (.int l), j]) ⟨cell, .no, rfl⟩ (fun i d ρ hd ⟨l, j, e⟩ => by
        subst e
        refine ⟨_, rfl, _, ?_, l.fdiv 10000000000, .val d, rfl⟩
        simp [o10, op_fdiv_i (i := l) (j := 10000000000) ⟨by decide, by decide⟩])
    by_cases hl : 0 < l
    · refine ⟨(l.fmod 10000000000).fmod many, ?_, fmod_bd _ hm⟩
      simp [o10, o18, hc, rg1_ok (i := k) ⟨by omega, by omega⟩, h1, h2, hl, op_mod_i (i := l) (j := 10000000000) (by decide), op_mod_i (i := l.fmod 10000000000) (j := many) (by omega)]
    · obtain ⟨v, h3, h4⟩ := draw_tail (cell := cell) hk hk2 hm .no (.val (.int l)) j
      refine ⟨v, ?_, h4⟩
      simp only [runs_cons] at h3
      simp [o10, o18, hc, rg1_ok (i := k) ⟨by omega, by omega⟩, h1, h2, hl]
      simp at h3
      rw [h3]
      rfl
  · obtain ⟨v, h3, h4⟩ := draw_tail (cell := cell) hk hk2 hm .no .no .no
    refine ⟨v, ?_, h4⟩
    simp [o18, hc]
    simp at h3
    rw [h3]
    rfl
end Lw
namespace Lw
open PySem PySem.Spec Dy
/-! ### triples of whole numbers -/
structure Tr where
  x : Int
  y : Int
  z : Int
def tD (t : Tr) : PyData := .tuple [.int t.x, .int t.y, .int t.z]
theorem tD_mk (x y z : Int) : PyData.tuple [.int x, .int y, .int z] = tD ⟨x, y, z⟩ := rfl
def Bd (b : Nat) (t : Tr) : Prop := t.x.natAbs < 2 ^ b ∧ t.y.natAbs < 2 ^ b ∧ t.z.natAbs < 2 ^ b
theorem bits_le {n j k : Nat} (h : n < 2 ^ j) (l : j ≤ k) : n < 2 ^ k := Nat.lt_of_lt_of_le h (Nat.pow_le_pow_right (by decide) l)
theorem Bd.le {j k : Nat} {t : Tr} (h : Bd j t) (l : j ≤ k) : Bd k t := ⟨bits_le h.1 l, bits_le h.2.1 l, bits_le h.2.2 l⟩
def cr (s t : Tr) : Tr := ⟨s.y * t.z - s.z * t.y, s.z * t.x - s.x * t.z, s.x * t.y - s.y * t.x⟩
def dt (s t : Tr) : Int := s.x * t.x + s.y * t.y + s.z * t.z
def ad (s t : Tr) : Tr := ⟨s.x + t.x, s.y + t.y, s.z + t.z⟩
def sb (s t : Tr) : Tr := ⟨s.x - t.x, s.y - t.y, s.z - t.z⟩
def sc (k : Int) (t : Tr) : Tr := ⟨k * t.x, k * t.y, k * t.z⟩
def ng (t : Tr) : Tr := ⟨0 - t.x, 0 - t.y, 0 - t.z⟩
theorem idx_tD0 {t : Tr} : idxD (tD t) (.int 0) = .ok (.int t.x) := idx_t0
theorem idx_tD1 {t : Tr} : idxD (tD t) (.int 1) = .ok (.int t.y) := idx_t1
theorem idx_tD2 {t : Tr} : idxD (tD t) (.int 2) = .ok (.int t.z) := idx_t2
theorem tsets_tD {a b c : Nat} {t : Tr} {ρ : En} : tset (.tp (.cons (.nm a) (.cons (.nm b) (.cons (.nm c) .nil)))) (tD t) ρ = .ok (((List.set ρ a (.val (.int t.x))).set b (.val (.int t.y))).set c (.val (.int t.z))) := rfl
theorem bd_cr {j k : Nat} {s t : Tr} (h : Bd j s) (g : Bd k t) : Bd (j + k + 1) (cr s t) :=
  ⟨sub_bits (mul_bits h.2.1 g.2.2) (mul_bits h.2.2 g.2.1), sub_bits (mul_bits h.2.2 g.1) (mul_bits h.1 g.2.2), sub_bits (mul_bits h.1 g.2.1) (mul_bits h.2.1 g.1)⟩
theorem bd_dt {j k : Nat} {s t : Tr} (h : Bd j s) (g : Bd k t) : (dt s t).natAbs < 2 ^ (j + k + 2) :=
  add_bits (add_bits (mul_bits h.1 g.1) (mul_bits h.2.1 g.2.1)) (bits_le (mul_bits h.2.2 g.2.2) (by omega))
theorem bd_ad {k : Nat} {s t : Tr} (h : Bd k s) (g : Bd k t) : Bd (k + 1) (ad s t) := ⟨add_bits h.1 g.1, add_bits h.2.1 g.2.1, add_bits h.2.2 g.2.2⟩
theorem bd_sb {k : Nat} {s t : Tr} (h : Bd k s) (g : Bd k t) : Bd (k + 1) (sb s t) := ⟨sub_bits h.1 g.1, sub_bits h.2.1 g.2.1, sub_bits h.2.2 g.2.2⟩
theorem bd_ng {k : Nat} {t : Tr} (h : Bd k t) : Bd k (ng t) := by
  unfold Bd ng at *
  simp only [Int.zero_sub, Int.natAbs_neg]
  exact h
theorem bd_sc {j k : Nat} {m : Int} {t : Tr} (hm : m.natAbs < 2 ^ j) (h : Bd k t) : Bd (j + k) (sc m t) := ⟨mul_bits hm h.1, mul_bits hm h.2.1, mul_bits hm h.2.2⟩
/-- .. plus so many times .. -/
def am (s t : Tr) (m : Int) : Tr := ad s (sc m t)
theorem bd_am {k : Nat} {s t : Tr} {m : Int} (h : Bd k s) (g : Bd k t) (hm : m.natAbs < 2 ^ 4) : Bd (k + 5) (am s t m) := by
  have q : Bd (4 + k) (sc m t) := bd_sc hm g
  exact Bd.le (bd_ad (Bd.le h (by omega)) (Bd.le q (Nat.le_refl (4 + k)))) (by omega)
theorem dt_ad (u s t : Tr) : dt u (ad s t) = dt u s + dt u t := by
  simp only [dt, ad]; grind
theorem dt_sc (u : Tr) (m : Int) (t : Tr) : dt u (sc m t) = m * dt u t := by
  simp only [dt, sc]; grind
theorem dt_am (u s t : Tr) (m : Int) : dt u (am s t m) = dt u s + m * dt u t := by rw [am, dt_ad, dt_sc]
theorem dt_sb (u s t : Tr) : dt u (sb s t) = dt u s - dt u t := by
  simp only [dt, sb]; grind
theorem dt_ng (u t : Tr) : dt u (ng t) = - dt u t := by
  simp only [dt, ng]; grind
theorem dt_cr1 (s t : Tr) : dt (cr s t) s = 0 := by
  simp only [dt, cr]; grind
theorem dt_cr2 (s t : Tr) : dt (cr s t) t = 0 := by
  simp only [dt, cr]; grind
theorem shp_tD (t : Tr) : Shp 1 (tD t) := shp_t fun d hd => by
  simp at hd
  rcases hd with rfl | rfl | rfl <;> exact shp_i _
theorem eqv_tD (s t : Tr) : PyData.eqv (tD s) (tD t) = (decide (s.x = t.x) && (decide (s.y = t.y) && decide (s.z = t.z))) := by
  simp only [tD, PyData.eqv, PyData.eqvAll]
  by_cases h1 : s.x = t.x <;> by_cases h2 : s.y = t.y <;> by_cases h3 : s.z = t.z <;> simp [h1, h2, h3]
theorem cmp_eq_tD {s t : Tr} : cmp2 .eq (tD s) (tD t) = .ok (.bool (decide (s.x = t.x) && (decide (s.y = t.y) && decide (s.z = t.z)))) := by
  rw [cmp_eq_s ((shp_tD s).ok (by decide)) ((shp_tD t).ok (by decide)), eqv_tD]
theorem lcross_eq {s t : Tr} {j k : Nat} (h : Bd j s) (g : Bd k t) (l : j + k < 10000) : sem__law_cross [tD s, tD t] = .ok (tD (cr s t)) := by
  unfold sem__law_cross
  rw [def_eq (by rfl)]
  unfold ir__law_cross
  have m := fun (a b : Int) (h1 : a.natAbs < 2 ^ j) (h2 : b.natAbs < 2 ^ k) => op_mul_i (mul_log h1 h2 (by omega))
  simp only [List.map_cons, List.map_nil, List.replicate, List.cons_append, List.nil_append, runs_cons, run_unp, ev_var, getV_0, getV_s, on_ok, tsets_tD, unpF_ok, then_nx, List.set_cons_zero, List.set_cons_succ]
  simp [m _ _ h.2.1 g.2.2, m _ _ h.2.2 g.2.1, m _ _ h.2.2 g.1, m _ _ h.1 g.2.2, m _ _ h.1 g.2.1, m _ _ h.2.1 g.1, sizeLine, cr, tD]
theorem ldot_eq {s t : Tr} {j k : Nat} (h : Bd j s) (g : Bd k t) (l : j + k < 10000) : sem__law_dot [tD s, tD t] = .ok (.int (dt s t)) := by
  unfold sem__law_dot
  rw [def_eq (by rfl)]
  unfold ir__law_dot
  have m := fun (a b : Int) (h1 : a.natAbs < 2 ^ j) (h2 : b.natAbs < 2 ^ k) => op_mul_i (mul_log h1 h2 (by omega))
  simp [idx_tD0, idx_tD1, idx_tD2, m _ _ h.1 g.1, m _ _ h.2.1 g.2.1, m _ _ h.2.2 g.2.2, dt]
theorem cross_eq {s t : Tr} {j k : Nat} (h : Bd j s) (g : Bd k t) (l : j + k < 10000) : sem_cross_of [tD s, tD t] = .ok (tD (cr s t)) := by
  unfold sem_cross_of
  rw [def_eq (by rfl)]
  unfold ir_cross_of
  have m := fun (a b : Int) (h1 : a.natAbs < 2 ^ j) (h2 : b.natAbs < 2 ^ k) => op_mul_i (mul_log h1 h2 (by omega))
  simp only [List.map_cons, List.map_nil, List.replicate, List.cons_append, List.nil_append, runs_cons, run_unp, ev_var, getV_0, getV_s, on_ok, tsets_tD, unpF_ok, then_nx, List.set_cons_zero, List.set_cons_succ]
  simp [m _ _ h.2.1 g.2.2, m _ _ h.2.2 g.2.1, m _ _ h.2.2 g.1, m _ _ h.1 g.2.2, m _ _ h.1 g.2.1, m _ _ h.2.1 g.1, sizeLine, cr, tD]
theorem dot_eq {s t : Tr} {j k : Nat} (h : Bd j s) (g : Bd k t) (l : j + k < 10000) : sem_dot_of [tD s, tD t] = .ok (.int (dt s t)) := by
  unfold sem_dot_of
  rw [def_eq (by rfl)]
  unfold ir_dot_of
  have m := fun (a b : Int) (h1 : a.natAbs < 2 ^ j) (h2 : b.natAbs < 2 ^ k) => op_mul_i (mul_log h1 h2 (by omega))
  simp [idx_tD0, idx_tD1, idx_tD2, m _ _ h.1 g.1, m _ _ h.2.1 g.2.1, m _ _ h.2.2 g.2.2, dt]
theorem tsum_eq {s t : Tr} : sem_triple_sum [tD s, tD t] = .ok (tD (ad s t)) := by
  unfold sem_triple_sum
  rw [def_eq (by rfl)]
  unfold ir_triple_sum
  simp [idx_tD0, idx_tD1, idx_tD2, sizeLine, ad, tD]
theorem tless_eq {s t : Tr} : sem_triple_less [tD s, tD t] = .ok (tD (sb s t)) := by
  unfold sem_triple_less
  rw [def_eq (by rfl)]
  unfold ir_triple_less
  simp [idx_tD0, idx_tD1, idx_tD2, sizeLine, sb, tD]
/-! ### plates -/
structure Pl where
  c : Tr
  s : Tr
  o : Tr
def pD (p : Pl) : PyData := .tuple [tD p.c, tD p.s, tD p.o]
theorem pD_mk (a b c : Tr) : PyData.tuple [tD a, tD b, tD c] = pD ⟨a, b, c⟩ := rfl
theorem idx_pD0 {t : Pl} : idxD (pD t) (.int 0) = .ok (tD t.c) := idx_t0
theorem idx_pD1 {t : Pl} : idxD (pD t) (.int 1) = .ok (tD t.s) := idx_t1
theorem idx_pD2 {t : Pl} : idxD (pD t) (.int 2) = .ok (tD t.o) := idx_t2
theorem tsets_pD {a b c : Nat} {t : Pl} {ρ : En} : tset (.tp (.cons (.nm a) (.cons (.nm b) (.cons (.nm c) .nil)))) (pD t) ρ = .ok (((List.set ρ a (.val (tD t.c))).set b (.val (tD t.s))).set c (.val (tD t.o))) := rfl
def PBd (b : Nat) (p : Pl) : Prop := Bd b p.c ∧ Bd b p.s ∧ Bd b p.o
theorem front_eq {p : Pl} {j : Nat} (h : PBd j p) (l : j < 5000) : sem_front_of [pD p] = .ok (tD (cr p.s p.o)) := by
  unfold sem_front_of
  rw [def_eq (by rfl)]
  unfold ir_front_of
  simp [idx_pD1, idx_pD2, cross_eq h.2.1 h.2.2 (by omega)]
theorem corners_eq {p : Pl} : sem_corners_of [pD p] = .ok (.list [tD p.c, tD (ad p.c p.s), tD (ad (ad p.c p.s) p.o), tD (ad p.c p.o)]) := by
  unfold sem_corners_of
  rw [def_eq (by rfl)]
  unfold ir_corners_of
  simp only [List.map_cons, List.map_nil, List.replicate, List.cons_append, List.nil_append, runs_cons, run_unp, ev_var, getV_0, getV_s, on_ok, tsets_pD, unpF_ok, then_nx, List.set_cons_zero, List.set_cons_succ]
  simp [tsum_eq, sizeLine]
/-! ### drawn ones -/
theorem lnumber_eq (cell : Int) {k : Int} (hk : 0 ≤ k) (hk2 : k < 400) : ∃ v : Int, sem__law_number [.int cell, .int k] = .ok (.int v) ∧ -1000000000 ≤ v ∧ v ≤ 1000000000 := by
  obtain ⟨kd, d1, a1, b1⟩ := draw_eq cell (k := 2 * k) (many := 8) (by omega) (by omega) (by decide)
  unfold sem__law_number
  rw [def_eq (by rfl)]
  unfold ir__law_number
  have l1 := op_mul_i (small_log (a := 2) (b := k) (by decide) (by omega))
  by_cases h5 : kd < 5
  · obtain ⟨v, d2, a2, b2⟩ := draw_eq cell (k := 2 * k + 1) (many := 9) (by omega) (by omega) (by decide)
    exact ⟨v - 4, by simp [l1, d1, d2, h5], by omega, by omega⟩
  · by_cases h7 : kd < 7
    · obtain ⟨v, d2, a2, b2⟩ := draw_eq cell (k := 2 * k + 1) (many := 61) (by omega) (by omega) (by decide)
      exact ⟨v - 30, by simp [l1, d1, d2, h5, h7], by omega, by omega⟩
    · obtain ⟨v, d2, a2, b2⟩ := draw_eq cell (k := 2 * k + 1) (many := 2) (by omega) (by omega) (by decide)
      obtain ⟨w, d3, a3, b3⟩ := draw_eq cell (k := 2 * k) (many := 64) (by omega) (by omega) (by decide)
      have p9 : op2 .pow (.int 10) (.int 9) = .ok (.int 1000000000) := by rw [op_pow_i (by decide)]; rfl
      have f8 := op_fdiv_i (i := w) (j := 8) ⟨by decide, by decide⟩
      have e8 : 0 ≤ w.fdiv 8 ∧ w.fdiv 8 < 8 := by
        rw [Int.fdiv_eq_ediv_of_nonneg _ (by decide)]
        omega
      have hv : v = 0 ∨ v = 1 := by omega
      rcases hv with rfl | rfl
      · have l2 := op_mul_i (small_log (a := 1) (b := 1000000000 - w.fdiv 8) (by decide) (by omega))
        refine ⟨1 * (1000000000 - w.fdiv 8), ?_, by omega, by omega⟩
        simp only [Int.one_mul] at l2 ⊢
        simp [l1, d1, d2, d3, h5, h7, p9, f8, l2, sizeLine]
      · have l2 := op_mul_i (small_log (a := -1) (b := 1000000000 - w.fdiv 8) (by decide) (by omega))
        refine ⟨-1 * (1000000000 - w.fdiv 8), ?_, by omega, by omega⟩
        simp [l1, d1, d2, d3, h5, h7, p9, f8, l2, sizeLine]
theorem ltriple_eq (cell : Int) {k : Int} (hk : 0 ≤ k) (hk2 : k < 390) : ∃ t : Tr, sem__law_triple [.int cell, .int k] = .ok (tD t) ∧ Bd 30 t := by
  obtain ⟨a, d1, a1, b1⟩ := lnumber_eq cell (k := k) hk (by omega)
  obtain ⟨b, d2, a2, b2⟩ := lnumber_eq cell (k := k + 1) (by omega) (by omega)
  obtain ⟨c, d3, a3, b3⟩ := lnumber_eq cell (k := k + 2) (by omega) (by omega)
  refine ⟨⟨a, b, c⟩, ?_, by show a.natAbs < 2 ^ 30; omega, by show b.natAbs < 2 ^ 30; omega, by show c.natAbs < 2 ^ 30; omega⟩
  unfold sem__law_triple
  rw [def_eq (by rfl)]
  unfold ir__law_triple
  simp [d1, d2, d3, sizeLine, tD]
end Lw
namespace Lw
open PySem PySem.Spec Dy
abbrev T0 : Tr := ⟨0, 0, 0⟩
theorem lsum_eq {s t : Tr} {m : Int} {k : Nat} (ht : Bd k t) (hm : m.natAbs < 2 ^ 4) (hk : k < 1000) : sem__law_sum [tD s, tD t, .int m] = .ok (tD (am s t m)) := by
  unfold sem__law_sum
  rw [def_eq (by rfl)]
  unfold ir__law_sum
  have o := fun (b : Int) (h : b.natAbs < 2 ^ k) => op_mul_i (mul_log hm h (by omega))
  have e : lcF (.tp (.cons (.nm 3) (.cons (.nm 4) .nil))) (ev (.cst (.bool true))) (ev (.op .add (.bor 3) (.op .mul (.bor 2) (.bor 4)))) [.val (tD s), .val (tD t), .val (.int m), .no, .no] [.tuple [.int s.x, .int t.x], .tuple [.int s.y, .int t.y], .tuple [.int s.z, .int t.z]]
      = some [.int (s.x + m * t.x), .int (s.y + m * t.y), .int (s.z + m * t.z)] := by
    have f := fun (p : Int × Int) => PyData.int (p.1 + m * p.2)
    refine lcF_maps (fun p : Int × Int => PyData.tuple [.int p.1, .int p.2]) (fun p => .int (p.1 + m * p.2)) (Q := [(s.x, t.x), (s.y, t.y), (s.z, t.z)]) fun p hp => ?_
    refine ⟨[.val (tD s), .val (tD t), .val (.int m), .val (.int p.1), .val (.int p.2)], rfl, rfl, ?_⟩
    have hb : p.2.natAbs < 2 ^ k := by
      simp at hp
      rcases hp with rfl | rfl | rfl
      · exact ht.1
      · exact ht.2.1
      · exact ht.2.2
    simp [o _ hb]
  have z : zipD (tD s) (tD t) = .ok [.tuple [.int s.x, .int t.x], .tuple [.int s.y, .int t.y], .tuple [.int s.z, .int t.z]] := rfl
  simp only [List.map_cons, List.map_nil, List.replicate, List.cons_append, List.nil_append, runs_cons, run_ret, ev_fn, ev_lc, evr_zip, ev_var, getV_0, getV_s, bind_ok, z, wipeE, List.set_cons_zero, List.set_cons_succ]
  rw [if_pos (by simp [sizeLine]), e]
  rfl
theorem plate_eq (cell : Int) : ∃ p : Pl, sem__law_plate [.int cell, .int 0] = .ok (pD p) ∧ PBd 30 p := by
  obtain ⟨a, d1, b1⟩ := ltriple_eq cell (k := 3) (by decide) (by decide)
  obtain ⟨o, d2, b2⟩ := ltriple_eq cell (k := 6) (by decide) (by decide)
  obtain ⟨c, d3, b3⟩ := ltriple_eq cell (k := 0) (by decide) (by decide)
  unfold sem__law_plate
  rw [def_eq (by rfl)]
  unfold ir__law_plate
  obtain ⟨s, hs, bs⟩ : ∃ s : Tr, Bd 30 s ∧ run (.if_ (.cmp .eq (.bor 2) (.tup (.cons (.cst (.int 0)) (.cons (.cst (.int 0)) (.cons (.cst (.int 0)) .nil)))))
      (.cons (.set 2 (.tup (.cons (.cst (.int 1)) (.cons (.cst (.int 0)) (.cons (.cst (.int 0)) .nil))))) .nil) .nil) [.val (.int cell), .val (.int 0), .val (tD a), .no, .no] = .nx [.val (.int cell), .val (.int 0), .val (tD s), .no, .no] := by
    by_cases h : a.x = 0 ∧ a.y = 0 ∧ a.z = 0
    · refine ⟨⟨1, 0, 0⟩, by unfold Bd; decide, ?_⟩
      have e := cmp_eq_tD (s := a) (t := T0)
      simp [sizeLine, tD_mk, e, h.1, h.2.1, h.2.2]
    · refine ⟨a, b1, ?_⟩
      have e := cmp_eq_tD (s := a) (t := T0)
      have h2 : (decide (a.x = T0.x) && (decide (a.y = T0.y) && decide (a.z = T0.z))) = false := by
        rw [Bool.eq_false_iff]
        intro z
        simp at z
        exact h z
      rw [h2] at e
      simp [sizeLine, tD_mk, e]
  obtain ⟨ρ, h1, t, j, ht, h2⟩ := forF_all (t := .nm 4) (b := runs (.cons (.if_ (.cmp .eq (.call "_law_cross" sem__law_cross (.cons (.var 2) (.cons (.var 3) .nil))) (.tup (.cons (.cst (.int 0)) (.cons (.cst (.int 0)) (.cons (.cst (.int 0)) .nil)))))
      (.cons (.set 3 (.var 4)) .nil) .nil) .nil)) (ds := [.tuple [.int 0, .int 1, .int 0], .tuple [.int 0, .int 0, .int 1], .tuple [.int 1, .int 0, .int 0]]) (ρ := [.val (.int cell), .val (.int 0), .val (tD s), .val (tD o), .no])
    (fun _ ρ => ∃ t j, Bd 30 t ∧ ρ = [.val (.int cell), .val (.int 0), .val (tD s), .val (tD t), j]) ⟨o, .no, b2, rfl⟩ (fun i d ρ hd ⟨t, j, ht, e⟩ => by
      subst e
      obtain ⟨u, hu, rfl⟩ : ∃ u : Tr, Bd 30 u ∧ d = tD u := by
        have := List.mem_of_getElem? hd
        simp at this
        rcases this with rfl | rfl | rfl
        · exact ⟨⟨0, 1, 0⟩, by unfold Bd; decide, rfl⟩
        · exact ⟨⟨0, 0, 1⟩, by unfold Bd; decide, rfl⟩
        · exact ⟨⟨1, 0, 0⟩, by unfold Bd; decide, rfl⟩
      have e := cmp_eq_tD (s := cr s t) (t := T0)
      generalize (decide ((cr s t).x = T0.x) && (decide ((cr s t).y = T0.y) && decide ((cr s t).z = T0.z))) = b at e
      cases b with
      | true => exact ⟨_, rfl, [.val (.int cell), .val (.int 0), .val (tD s), .val (tD u), .val (tD u)], by simp [lcross_eq hs ht (by decide), sizeLine, tD_mk, e], u, _, hu, rfl⟩
      | false => exact ⟨_, rfl, [.val (.int cell), .val (.int 0), .val (tD s), .val (tD t), .val (tD u)], by simp [lcross_eq hs ht (by decide), sizeLine, tD_mk, e], t, _, ht, rfl⟩)
  subst h2
  refine ⟨⟨c, s, t⟩, ?_, b3, hs, ht⟩
  simp only [List.map_cons, List.map_nil, List.replicate, List.cons_append, List.nil_append, runs_cons, run_set, ev_call, evs_cons, evs_nil, ev_var, getV_0, getV_s, bind_ok, ev_op, ev_bor, getB_0, getB_s, ev_cst, op_add_i, Int.zero_add, d1, on_ok, then_nx, List.set_cons_zero, List.set_cons_succ]
  rw [bs]
  simp only [runs_cons, run_set, ev_call, evs_cons, evs_nil, ev_var, getV_0, getV_s, bind_ok, ev_op, ev_bor, getB_0, getB_s, ev_cst, op_add_i, Int.zero_add, d2, on_ok, then_nx, List.set_cons_zero, List.set_cons_succ]
  simp only [run_for, evr_it, ev_lst, evs_cons, evs_nil, ev_tup, ev_cst, bind_ok]
  simp only [List.length_cons, List.length_nil, sizeLine]
  simp only [tD_mk] at h1
  simp [h1, d3, tD_mk, pD_mk, sizeLine]
/-- the direction ahead -/
theorem ahead_eq {f d : Tr} (hf : Bd 64 f) (hd : Bd 30 d) : ∃ u : Tr, sem__law_ahead [tD f, tD d] = .ok (tD u) ∧ Bd 34 u ∧ 0 ≤ dt f u := by
  unfold sem__law_ahead
  rw [def_eq (by rfl)]
  unfold ir__law_ahead
  obtain ⟨e, he, h0, hr⟩ : ∃ e : Tr, Bd 31 e ∧ 0 ≤ dt f e ∧ run (.if_ (.cmp .lt (.call "_law_dot" sem__law_dot (.cons (.var 0) (.cons (.var 1) .nil))) (.cst (.int 0)))
      (.cons (.set 1 (.tup (.cons (.op .sub (.cst (.int 0)) (.idx (.bor 1) (.cst (.int 0)))) (.cons (.op .sub (.cst (.int 0)) (.idx (.bor 1) (.cst (.int 1)))) (.cons (.op .sub (.cst (.int 0)) (.idx (.bor 1) (.cst (.int 2)))) .nil))))) .nil) .nil)
      [.val (tD f), .val (tD d), .no, .no, .no, .no] = .nx [.val (tD f), .val (tD e), .no, .no, .no, .no] := by
    by_cases h : dt f d < 0
    · refine ⟨ng d, Bd.le (bd_ng hd) (by decide), by rw [dt_ng]; omega, ?_⟩
      simp [ldot_eq hf hd (by decide), h, idx_tD0, idx_tD1, idx_tD2, sizeLine, tD_mk, ng]
    · refine ⟨d, Bd.le hd (by decide), by omega, ?_⟩
      simp [ldot_eq hf hd (by decide), h]
  obtain ⟨ρ, h1, t, s2, s3, s4, s5, ht, h2, h3⟩ := forF_all (t := .nm 2) (b := runs (.cons (.if_ (.cmp .eq (.call "_law_dot" sem__law_dot (.cons (.var 0) (.cons (.var 1) .nil))) (.cst (.int 0)))
      (.cons (.set 3 (.idx (.lst (.cons (.cst (.int 1)) (.cons (.neg (.cst (.int 1))) .nil))) (.fn .int (.cmp .lt (.call "_law_dot" sem__law_dot (.cons (.var 0) (.cons (.var 2) .nil))) (.cst (.int 0))))))
      (.cons (.set 1 (.fn .tuple (.lc (.tp (.cons (.nm 4) (.cons (.nm 5) .nil))) (.zip (.var 1) (.var 2)) (.cst (.bool true)) [4, 5] (.op .add (.bor 4) (.op .mul (.bor 3) (.bor 5))))))
      .nil)) .nil) .nil)) (ds := [.tuple [.int 0, .int 0, .int 1], .tuple [.int 0, .int 1, .int 0], .tuple [.int 1, .int 0, .int 0]]) (ρ := [.val (tD f), .val (tD e), .no, .no, .no, .no])
    (fun i ρ => ∃ t s2 s3 s4 s5, Bd (31 + i) t ∧ 0 ≤ dt f t ∧ ρ = [.val (tD f), .val (tD t), s2, s3, s4, s5]) ⟨e, .no, .no, .no, .no, he, h0, rfl⟩ (fun i d ρ hdd ⟨t, s2, s3, s4, s5, ht, h0, er⟩ => by
      subst er
      have hi : i < 3 := (List.getElem?_eq_some_iff.mp hdd).1
      obtain ⟨u, hu, hu2, rfl⟩ : ∃ u : Tr, Bd 1 u ∧ (u.x.natAbs ≤ 1 ∧ u.y.natAbs ≤ 1 ∧ u.z.natAbs ≤ 1) ∧ d = tD u := by
        have := List.mem_of_getElem? hdd
        simp at this
        rcases this with rfl | rfl | rfl
        · exact ⟨⟨0, 0, 1⟩, by unfold Bd; decide, by decide, rfl⟩
        · exact ⟨⟨0, 1, 0⟩, by unfold Bd; decide, by decide, rfl⟩
        · exact ⟨⟨1, 0, 0⟩, by unfold Bd; decide, by decide, rfl⟩
      have q1 := ldot_eq hf ht (by omega)
      have q2 := ldot_eq hf hu (by omega)
      by_cases hz : dt f t = 0
      · obtain ⟨sg, hs, hsg⟩ : ∃ sg : Int, (sg = 1 ∨ sg = -1) ∧ 0 ≤ sg * dt f u ∧ idxD (.list [.int 1, .int (-1)]) (.int (if decide (dt f u < 0) = true then 1 else 0)) = .ok (.int sg) := by
          by_cases hn : dt f u < 0
          · exact ⟨-1, .inr rfl, by omega, by rw [if_pos (decide_eq_true hn)]; exact idx_l1⟩
          · exact ⟨1, .inl rfl, by omega, by rw [if_neg (by simp; omega)]; exact idx_l0⟩
        have hl : lcF (.tp (.cons (.nm 4) (.cons (.nm 5) .nil))) (ev (.cst (.bool true))) (ev (.op .add (.bor 4) (.op .mul (.bor 3) (.bor 5)))) [.val (tD f), .val (tD t), .val (tD u), .val (.int sg), .no, .no] [.tuple [.int t.x, .int u.x], .tuple [.int t.y, .int u.y], .tuple [.int t.z, .int u.z]]
            = some [.int (t.x + sg * u.x), .int (t.y + sg * u.y), .int (t.z + sg * u.z)] := by
          refine lcF_maps (fun p : Int × Int => PyData.tuple [.int p.1, .int p.2]) (fun p => .int (p.1 + sg * p.2)) (Q := [(t.x, u.x), (t.y, u.y), (t.z, u.z)]) fun p hp => ?_
          refine ⟨[.val (tD f), .val (tD t), .val (tD u), .val (.int sg), .val (.int p.1), .val (.int p.2)], rfl, rfl, ?_⟩
          have hb : p.2.natAbs ≤ 1 := by
            simp at hp
            rcases hp with rfl | rfl | rfl
            · exact hu2.1
            · exact hu2.2.1
            · exact hu2.2.2
          have o := op_mul_i (small_log (a := sg) (b := p.2) (by rcases hs with rfl | rfl <;> decide) (by omega))
          simp [o]
        have z : zipD (tD t) (tD u) = .ok [.tuple [.int t.x, .int u.x], .tuple [.int t.y, .int u.y], .tuple [.int t.z, .int u.z]] := rfl
        have bt : ∀ a b : Int, a.natAbs < 2 ^ (31 + i) → b.natAbs ≤ 1 → (a + sg * b).natAbs < 2 ^ (31 + (i + 1)) := fun a b h1 h2 => by
          have : (sg * b).natAbs ≤ 1 := by rw [Int.natAbs_mul]; rcases hs with rfl | rfl <;> simpa using h2
          have p0 : 1 ≤ 2 ^ (31 + i) := Nat.one_le_two_pow
          rw [show 31 + (i + 1) = (31 + i) + 1 by omega, Nat.pow_succ]
          omega
        have d0 : dt f ⟨t.x + sg * u.x, t.y + sg * u.y, t.z + sg * u.z⟩ = dt f t + sg * dt f u := by
          simp only [dt]; grind
        refine ⟨_, rfl, [.val (tD f), .val (tD ⟨t.x + sg * u.x, t.y + sg * u.y, t.z + sg * u.z⟩), .val (tD u), .val (.int sg), s4, s5], ?_, ⟨t.x + sg * u.x, t.y + sg * u.y, t.z + sg * u.z⟩, _, _, _, _, ⟨bt _ _ ht.1 hu2.1, bt _ _ ht.2.1 hu2.2.1, bt _ _ ht.2.2 hu2.2.2⟩, by rw [d0, hz]; omega, rfl⟩
        have i1 : fn1 .int (.bool (decide (dt f u < 0))) = .ok (.int (if decide (dt f u < 0) = true then 1 else 0)) := rfl
        simp only [runs_cons, runs_nil, run_if, ev_cmp, ev_call, evs_cons, evs_nil, ev_var, getV_0, getV_s, bind_ok, ev_cst, List.set_cons_zero, List.set_cons_succ, q1, cmp_eq_i, hz, decide_true, on_ok, ifF_t, run_set, ev_idx, ev_lst, ev_neg, int1_i, ev_fn, cmp_lt_i, q2, i1, List.length_cons, List.length_nil]
        rw [if_pos (by decide)]
        simp only [hsg.2, bind_ok, on_ok, then_nx, runs_cons, runs_nil, run_set, ev_fn, List.set_cons_zero, List.set_cons_succ, ev_lc, evr_zip, ev_var, getV_0, getV_s, z, wipeE]
        rw [if_pos (by simp [sizeLine]), hl]
        rfl
      · refine ⟨_, rfl, [.val (tD f), .val (tD t), .val (tD u), s3, s4, s5], ?_, t, _, _, _, _, Bd.le ht (by omega), h0, rfl⟩
        simp [q1, hz])
  subst h3
  refine ⟨t, ?_, ht, h2⟩
  simp only [List.map_cons, List.map_nil, List.replicate, List.cons_append, List.nil_append, runs_cons]
  rw [hr]
  simp only [tD_mk] at h1
  simp [tD_mk, h1, sizeLine]
/-! ### the other plate -/
/-- it shades nothing -/
def Dark (p o : Pl) (d : Tr) : Prop := dt (cr o.s o.o) d = 0 ∨ (dt (cr p.s p.o) (sb o.c p.c) ≤ 0 ∧ dt (cr p.s p.o) (sb (ad o.c o.s) p.c) ≤ 0 ∧ dt (cr p.s p.o) (sb (ad (ad o.c o.s) o.o) p.c) ≤ 0 ∧ dt (cr p.s p.o) (sb (ad o.c o.o) p.c) ≤ 0)
theorem dark_of {p o : Pl} {d : Tr} (h1 : dt (cr p.s p.o) o.c ≤ dt (cr p.s p.o) p.c) (h2 : dt (cr p.s p.o) o.s ≤ 0) (h3 : dt (cr p.s p.o) o.o ≤ 0) : Dark p o d := by
  refine .inr ?_
  simp only [dt_sb, dt_ad]
  omega
theorem other_eq {p : Pl} {d : Tr} (cell : Int) (hp : PBd 30 p) (hd : Bd 34 d) (h0 : 0 ≤ dt (cr p.s p.o) d) : ∃ o : Pl, sem__law_other [pD p, tD d, .int cell] = .ok (pD o) ∧ PBd 60 o ∧ Dark p o d := by
  obtain ⟨w, d0, a0, b0⟩ := draw_eq cell (k := 40) (many := 5) (by decide) (by decide) (by decide)
  obtain ⟨v1, d1, a1, b1⟩ := draw_eq cell (k := 41) (many := 5) (by decide) (by decide) (by decide)
  obtain ⟨v2, d2, a2, b2⟩ := draw_eq cell (k := 42) (many := 5) (by decide) (by decide) (by decide)
  have s1 := lsum_eq (s := p.c) (m := v1 - 2) hp.2.1 (by omega) (by decide)
  have s2 := lsum_eq (s := am p.c p.s (v1 - 2)) (m := v2 - 2) hp.2.2 (by omega) (by decide)
  have z1 : Bd 40 (am (am p.c p.s (v1 - 2)) p.o (v2 - 2)) := bd_am (k := 35) (bd_am hp.1 hp.2.1 (by omega)) (Bd.le hp.2.2 (by decide)) (by omega)
  have c1 := dt_cr1 p.s p.o
  have c2 := dt_cr2 p.s p.o
  have e1 : dt (cr p.s p.o) (am (am p.c p.s (v1 - 2)) p.o (v2 - 2)) = dt (cr p.s p.o) p.c := by rw [dt_am, dt_am, c1, c2]; simp
  unfold sem__law_other
  rw [def_eq (by rfl)]
  unfold ir__law_other
  generalize hat : am (am p.c p.s (v1 - 2)) p.o (v2 - 2) = at_ at s2 z1 e1
  by_cases w0 : w = 0
  · refine ⟨p, by simp [d0, w0, tsets_pD], ⟨Bd.le hp.1 (by decide), Bd.le hp.2.1 (by decide), Bd.le hp.2.2 (by decide)⟩, dark_of (Int.le_refl _) (by omega) (by omega)⟩
  by_cases w1 : w = 1
  · refine ⟨⟨p.c, p.o, p.s⟩, by simp [d0, w1, tsets_pD, sizeLine, pD_mk], ⟨Bd.le hp.1 (by decide), Bd.le hp.2.2 (by decide), Bd.le hp.2.1 (by decide)⟩, dark_of (Int.le_refl _) (by simp only; omega) (by simp only; omega)⟩
  by_cases w2 : w = 2
  · obtain ⟨v3, d3, a3, b3⟩ := draw_eq cell (k := 43) (many := 3) (by decide) (by decide) (by decide)
    have s3 := lsum_eq (s := p.s) (t := p.o) (m := 1) hp.2.2 (by decide) (by decide)
    have s4 := lsum_eq (s := p.o) (t := p.s) (m := 0 - 1 - v3) hp.2.1 (by omega) (by decide)
    refine ⟨⟨at_, am p.s p.o 1, am p.o p.s (0 - 1 - v3)⟩, ?_, ⟨Bd.le z1 (by decide), Bd.le (bd_am hp.2.1 hp.2.2 (by decide)) (by decide), Bd.le (bd_am hp.2.2 hp.2.1 (by omega)) (by decide)⟩, dark_of (by simp only; omega) (by simp only [dt_am, c1, c2]; simp) (by simp only [dt_am, c1, c2]; simp)⟩
    simp only [Int.zero_sub] at s4 ⊢
    simp [d0, d1, d2, d3, w2, tsets_pD, s1, s2, s3, s4, sizeLine, pD_mk]
  by_cases w3 : w = 3
  · obtain ⟨v3, d3, a3, b3⟩ := draw_eq cell (k := 43) (many := 2) (by decide) (by decide) (by decide)
    obtain ⟨v4, d4, a4, b4⟩ := draw_eq cell (k := 44) (many := 3) (by decide) (by decide) (by decide)
    have zb : Bd 34 (ng d) := bd_ng hd
    have s3 := lsum_eq (s := at_) (m := v3) zb (by omega) (by decide)
    have s4 := lsum_eq (s := ng d) (m := v4 - 1) hp.2.2 (by omega) (by decide)
    have hl : lcF (.nm 10) (ev (.cst (.bool true))) (ev (.op .sub (.cst (.int 0)) (.bor 10))) [.val (pD p), .val (tD d), .val (.int cell), .val (.int w), .val (tD p.c), .val (tD p.s), .val (tD p.o), .val (tD at_), .no, .no, .no] [.int d.x, .int d.y, .int d.z]
        = some [.int (0 - d.x), .int (0 - d.y), .int (0 - d.z)] := lcF_maps (fun x : Int => PyData.int x) (fun x => .int (0 - x)) (Q := [d.x, d.y, d.z]) fun x hx =>
      ⟨[.val (pD p), .val (tD d), .val (.int cell), .val (.int w), .val (tD p.c), .val (tD p.s), .val (tD p.o), .val (tD at_), .no, .no, .val (.int x)], rfl, rfl, by simp⟩
    have n1 : dt (cr p.s p.o) (ng d) ≤ 0 := by rw [dt_ng]; omega
    have n2 : v3 * dt (cr p.s p.o) (ng d) ≤ 0 := by
      have hv : v3 = 0 ∨ v3 = 1 := by omega
      rcases hv with rfl | rfl
      · simp
      · simpa using n1
    refine ⟨⟨am at_ (ng d) v3, p.s, am (ng d) p.o (v4 - 1)⟩, ?_, ⟨Bd.le (bd_am z1 (Bd.le zb (by decide)) (by omega)) (by decide), Bd.le hp.2.1 (by decide), Bd.le (bd_am zb (Bd.le hp.2.2 (by decide)) (by omega)) (by decide)⟩, dark_of (by simp only [dt_am]; omega) (by simp only; omega) (by simp only [dt_am, c2]; simpa using n1)⟩
    have hq : seqD (tD d) = .ok [.int d.x, .int d.y, .int d.z] := rfl
    have hng : PyData.tuple [.int (0 - d.x), .int (0 - d.y), .int (0 - d.z)] = tD (ng d) := rfl
    subst w3
    simp only [Int.zero_sub] at hng hl
    simp [d0, d1, d2, d3, d4, tsets_pD, s1, s2, s3, s4, hq, hl, hng, sizeLine, pD_mk]
  · obtain ⟨v3, d3, a3, b3⟩ := draw_eq cell (k := 43) (many := 2) (by decide) (by decide) (by decide)
    have s3 := lsum_eq (s := at_) (m := 1) hd (by decide) (by decide)
    have hv : v3 = 0 ∨ v3 = 1 := by omega
    rcases hv with rfl | rfl
    · refine ⟨⟨am at_ d 1, p.s, d⟩, ?_, ⟨Bd.le (bd_am z1 (Bd.le hd (by decide)) (by decide)) (by decide), Bd.le hp.2.1 (by decide), Bd.le hd (by decide)⟩, .inl (dt_cr2 _ _)⟩
      simp [d0, d1, d2, d3, w0, w1, w2, w3, tsets_pD, s1, s2, s3, sizeLine, pD_mk]
    · refine ⟨⟨am at_ d 1, p.o, d⟩, ?_, ⟨Bd.le (bd_am z1 (Bd.le hd (by decide)) (by decide)) (by decide), Bd.le hp.2.2 (by decide), Bd.le hd (by decide)⟩, .inl (dt_cr2 _ _)⟩
      simp [d0, d1, d2, d3, w0, w1, w2, w3, tsets_pD, s1, s2, s3, sizeLine, pD_mk]
/-! ### shaded by nothing -/
theorem max4 {a b c d : Int} (h1 : a ≤ 0) (h2 : b ≤ 0) (h3 : c ≤ 0) (h4 : d ≤ 0) : maxOf a [b, c, d] ≤ 0 := by
  unfold maxOf maxOf maxOf maxOf
  split <;> split <;> split <;> omega
theorem dark_eq {p o : Pl} {d : Tr} (hp : PBd 30 p) (ho : PBd 60 o) (hd : Bd 34 d) (h : Dark p o d) : sem_shaded_by [pD p, pD o, tD d] = .ok (.list []) := by
  unfold sem_shaded_by
  rw [defN_eq (by rfl)]
  unfold ir_shaded_by
  have f1 := front_eq hp (by decide)
  have f2 := front_eq ho (by decide)
  have d1 := dot_eq (bd_cr ho.2.1 ho.2.2) hd (by decide)
  have bf : Bd 61 (cr p.s p.o) := bd_cr hp.2.1 hp.2.2
  have q1 := dot_eq bf (bd_sb ho.1 (Bd.le hp.1 (by decide))) (by decide)
  have q2 := dot_eq bf (bd_sb (bd_ad ho.1 ho.2.1) (Bd.le hp.1 (by decide))) (by decide)
  have q3 := dot_eq bf (bd_sb (bd_ad (bd_ad ho.1 ho.2.1) (Bd.le ho.2.2 (by decide))) (Bd.le hp.1 (by decide))) (by decide)
  have q4 := dot_eq bf (bd_sb (bd_ad ho.1 ho.2.2) (Bd.le hp.1 (by decide))) (by decide)
  have hl : lcF (.nm 7) (ev (.cst (.bool true))) (ev (.call "dot_of" sem_dot_of (.cons (.var 3) (.cons (.call "triple_less" sem_triple_less (.cons (.var 7) (.cons (.idx (.bor 0) (.cst (.int 0))) .nil))) .nil)))) [.val (pD p), .val (pD o), .val (tD d), .val (tD (cr p.s p.o)), .val (.list [tD o.c, tD (ad o.c o.s), tD (ad (ad o.c o.s) o.o), tD (ad o.c o.o)]), .no, .no, .no, .no, .no] [tD o.c, tD (ad o.c o.s), tD (ad (ad o.c o.s) o.o), tD (ad o.c o.o)]
      = some [.int (dt (cr p.s p.o) (sb o.c p.c)), .int (dt (cr p.s p.o) (sb (ad o.c o.s) p.c)), .int (dt (cr p.s p.o) (sb (ad (ad o.c o.s) o.o) p.c)), .int (dt (cr p.s p.o) (sb (ad o.c o.o) p.c))] := by
    refine lcF_maps tD (fun t => .int (dt (cr p.s p.o) (sb t p.c))) (Q := [o.c, ad o.c o.s, ad (ad o.c o.s) o.o, ad o.c o.o]) fun t ht => ?_
    refine ⟨[.val (pD p), .val (pD o), .val (tD d), .val (tD (cr p.s p.o)), .val (.list [tD o.c, tD (ad o.c o.s), tD (ad (ad o.c o.s) o.o), tD (ad o.c o.o)]), .no, .no, .val (tD t), .no, .no], rfl, rfl, ?_⟩
    have q : sem_dot_of [tD (cr p.s p.o), tD (sb t p.c)] = .ok (.int (dt (cr p.s p.o) (sb t p.c))) := by
      simp at ht
      rcases ht with rfl | rfl | rfl | rfl
      · exact q1
      · exact q2
      · exact q3
      · exact q4
    simp [idx_pD0, tless_eq, q]
  have hm : fn1 .max (.list [.int (dt (cr p.s p.o) (sb o.c p.c)), .int (dt (cr p.s p.o) (sb (ad o.c o.s) p.c)), .int (dt (cr p.s p.o) (sb (ad (ad o.c o.s) o.o) p.c)), .int (dt (cr p.s p.o) (sb (ad o.c o.o) p.c))])
      = .ok (.int (maxOf (dt (cr p.s p.o) (sb o.c p.c)) [dt (cr p.s p.o) (sb (ad o.c o.s) p.c), dt (cr p.s p.o) (sb (ad (ad o.c o.s) o.o) p.c), dt (cr p.s p.o) (sb (ad o.c o.o) p.c)])) := rfl
  rcases h with h | ⟨h1, h2, h3, h4⟩
  · simp [f1, f2, corners_eq, hl, d1, hm, h, sizeLine]
  · have hx := max4 h1 h2 h3 h4
    simp [f1, f2, corners_eq, hl, d1, hm, hx, sizeLine]
end Lw
namespace Lw
open PySem PySem.Spec Dy
theorem shp_ints (l : List Int) : Shp 1 (.list (l.map PyData.int)) := shp_l fun d hd => by
  obtain ⟨i, _, rfl⟩ := List.mem_map.mp hd
  exact shp_i i
theorem shp_nil : Shp 1 (.list []) := shp_ints []
theorem far_eq (p : Pl) : ∃ b, sem__law_far [pD p] = .ok (.bool b) := by
  unfold sem__law_far
  rw [def_eq (by rfl)]
  unfold ir__law_far
  have p9 : op2 .pow (.int 10) (.int 9) = .ok (.int 1000000000) := by rw [op_pow_i (by decide)]; rfl
  have ha : op2 .add (tD p.c) (tD p.s) = .ok (.tuple [.int p.c.x, .int p.c.y, .int p.c.z, .int p.s.x, .int p.s.y, .int p.s.z]) := op_add_t (by simp [sizeLine])
  have hb : op2 .add (.tuple [.int p.c.x, .int p.c.y, .int p.c.z, .int p.s.x, .int p.s.y, .int p.s.z]) (tD p.o) = .ok (.tuple [.int p.c.x, .int p.c.y, .int p.c.z, .int p.s.x, .int p.s.y, .int p.s.z, .int p.o.x, .int p.o.y, .int p.o.z]) := op_add_t (by simp [sizeLine])
  have hl : lcF (.nm 1) (ev (.cmp .gt (.fn .abs (.bor 1)) (.op .pow (.cst (.int 10)) (.cst (.int 9))))) (ev (.var 1)) [.val (pD p), .no] [.int p.c.x, .int p.c.y, .int p.c.z, .int p.s.x, .int p.s.y, .int p.s.z, .int p.o.x, .int p.o.y, .int p.o.z]
      = some (([p.c.x, p.c.y, p.c.z, p.s.x, p.s.y, p.s.z, p.o.x, p.o.y, p.o.z].filter fun i => decide (1000000000 < (i.natAbs : Int))).map PyData.int) := by
    refine lcF_filt PyData.int PyData.int (fun i => decide (1000000000 < (i.natAbs : Int))) (Q := [p.c.x, p.c.y, p.c.z, p.s.x, p.s.y, p.s.z, p.o.x, p.o.y, p.o.z]) fun i hi => ?_
    exact ⟨[.val (pD p), .val (.int i)], rfl, by simp [fn_abs_i, p9], fun _ => by simp⟩
  generalize ([p.c.x, p.c.y, p.c.z, p.s.x, p.s.y, p.s.z, p.o.x, p.o.y, p.o.z].filter fun i => decide (1000000000 < (i.natAbs : Int))) = L at hl
  have hc := cmp_ne_s ((shp_ints L).ok (by decide)) (shp_nil.ok (by decide))
  refine ⟨!PyData.eqv (.list (L.map .int)) (.list []), ?_⟩
  simp [idx_pD0, idx_pD1, idx_pD2, ha, hb, hl, hc, sizeLine]
theorem law_turn (script : PyData) (cell : Int) (s2 s3 s4 s5 : Slot) : ∃ t2 t3 t4 t5, runs (.cons (.set 2 (.call "_law_plate" sem__law_plate (.cons (.var 1) (.cons (.cst (.int 0)) .nil))))
  (.cons (.set 3 (.call "_law_ahead" sem__law_ahead (.cons (.call "_law_cross" sem__law_cross (.cons (.idx (.bor 2) (.cst (.int 1))) (.cons (.idx (.bor 2) (.cst (.int 2))) .nil))) (.cons (.call "_law_triple" sem__law_triple (.cons (.var 1) (.cons (.cst (.int 10)) .nil))) .nil))))
  (.cons (.set 4 (.call "_law_other" sem__law_other (.cons (.var 2) (.cons (.var 3) (.cons (.var 1) .nil)))))
  (.cons (.if_ (.tru (.call "_law_far" sem__law_far (.cons (.var 4) .nil)))
  (.cons (.set 4 (.var 2))
  .nil)
  .nil)
  (.cons (.setN 5 (.call "shaded_by" sem_shaded_by shF (.cons (.var 2) (.cons (.var 4) (.cons (.var 3) .nil)))))
  (.cons (.if_ (.or (.not (.tru (.fn .isList (.bor 5)))) (.eqc true (.boc 5) (.lst .nil)))
  (.cons (.ret (.cst (.bool false)))
  .nil)
  .nil)
  (.cons (.app 5 (.cst (.int 1)))
  (.cons (.if_ (.cmp .ne (.call "shaded_by" sem_shaded_by (.cons (.var 2) (.cons (.var 4) (.cons (.var 3) .nil)))) (.lst .nil))
  (.cons (.ret (.cst (.bool false)))
  .nil)
  .nil)
  .nil)))))))) [.val script, .val (.int cell), s2, s3, s4, s5] = .nx [.val script, .val (.int cell), t2, t3, t4, t5] := by
  obtain ⟨p, h1, hp⟩ := plate_eq cell
  obtain ⟨d, h2, hd⟩ := ltriple_eq cell (k := 10) (by decide) (by decide)
  obtain ⟨u, h3, hu, h0⟩ := ahead_eq (Bd.le (bd_cr hp.2.1 hp.2.2) (by decide)) hd
  obtain ⟨o, h4, ho, hk⟩ := other_eq cell hp hu h0
  obtain ⟨b, h5⟩ := far_eq o
  have c1 := lcross_eq hp.2.1 hp.2.2 (by decide)
  have n1 := cmp_ne_self shp_nil (by decide)
  cases b with
  | false =>
    have h6 := dark_eq hp ho hu hk
    exact ⟨_, _, _, _, by simp [h1, h2, h3, h4, h5, h6, c1, idx_pD1, idx_pD2, n1, sizeLine]; exact ⟨rfl, rfl, rfl, rfl⟩⟩
  | true =>
    have h6 := dark_eq hp (o := p) ⟨Bd.le hp.1 (by decide), Bd.le hp.2.1 (by decide), Bd.le hp.2.2 (by decide)⟩ hu (dark_of (Int.le_refl _) (by have := dt_cr1 p.s p.o; omega) (by have := dt_cr2 p.s p.o; omega))
    exact ⟨_, _, _, _, by simp [h1, h2, h3, h4, h5, h6, c1, idx_pD1, idx_pD2, n1, sizeLine]; exact ⟨rfl, rfl, rfl, rfl⟩⟩
theorem law_true (ns : List Int) (hn : ns.length ≤ 63) : sem_law [.list (ns.map .int)] = .ok (.bool true) := by
  unfold sem_law
  rw [def_eq (by rfl)]
  unfold ir_law
  have hs : op2 .add (.list [.int 3]) (.list ((ns.map .int).take 30)) = .ok (.list ((3 :: ns.take 30).map .int)) := by
    rw [op_add_l]
    · rw [List.map_cons, List.map_take]; rfl
    · rw [List.length_take, List.length_map]
      show 1 + min 30 ns.length ≤ 16777216
      omega
  have hc : slcD (.list (ns.map .int)) none (some 30) = .ok (.list ((ns.map .int).take 30)) := slc_U (k := 30)
  obtain ⟨ρ, h1, t1, t2, t3, t4, t5, h2⟩ := forF_all (t := .nm 1) (ds := (3 :: ns.take 30).map .int) (ρ := [.val (.list (ns.map .int)), .no, .no, .no, .no, .no]) (fun _ ρ => ∃ t1 t2 t3 t4 t5, ρ = [.val (.list (ns.map .int)), t1, t2, t3, t4, t5]) ⟨_, _, _, _, _, rfl⟩
    (fun i d ρ hd ⟨t1, t2, t3, t4, t5, e⟩ => by
      subst e
      obtain ⟨c, _, rfl⟩ := List.mem_map.mp (List.mem_of_getElem? hd)
      obtain ⟨u2, u3, u4, u5, hu⟩ := law_turn (.list (ns.map .int)) c t2 t3 t4 t5
      exact ⟨_, rfl, _, hu, _, _, _, _, _, rfl⟩)
  subst h2
  simp only [List.map_cons, List.map_nil, List.replicate, List.cons_append, List.nil_append, runs_cons, run_for, evr_it, ev_op, ev_lst, evs_cons, evs_nil, ev_cst, bind_ok, ev_slU, ev_bor, getB_0, int1_i, hc]
  rw [if_pos (by decide)]
  simp only [bind_ok, hs, seqD_l, on_ok]
  simp only [List.map_cons] at h1 ⊢
  rw [h1]
  simp
end Lw
namespace Lw
open PySem PySem.Spec PyProof.Rows L2 Dy
def top (i : Nat) : Stmt := PySem.Challenge.pw_dialyard_k75_nothing_shaded.main.body.getD i (.Pass ⟨0, 0, 0, 0⟩)
section
variable {P : Program} {w : World} {K : PySem.W.Frag} {mg : Str → Option Value} {base : Heap} {f : Addr} {fd : FuncData}
abbrev Fd (K : PySem.W.Frag) (x : Str) (i : Nat) (f : Addr) (fd : FuncData) : Prop := FunD K x x (defArgs (top i)) (defBody (top i)) (defScope (top i)) [] [] f fd
theorem sc_is_whole : FnScope ["thing"] ["thing"] (defScope (top 4)) := ⟨rfl, rfl, rfl, by decide +kernel, rfl, by decide +kernel, by decide +kernel⟩
theorem ck_is_whole : cSs ⟨["thing"], defScope (top 4), fun _ => true⟩ ir_is_whole (defBody (top 4)) = true := by kernel_rfl
theorem ok_is_whole (F : Fd K "is_whole" 4 f fd) (hm : mg "is_whole" = some (.ref f)) (b_isinstance : mg "isinstance" = none) (b_int : mg "int" = none) (b_bool : mg "bool" = none) : DOk P w K mg base 1 "is_whole" sem_is_whole :=
  def_ok F sc_is_whole hm (F.bindsN (ps := ["thing"]) fun _ _ _ _ _ _ us hl => match us, hl with | [_], _ => rfl) rfl rfl (And.intro (b_isinstance) (And.intro (b_int) (And.intro (b_isinstance) (And.intro (b_bool) (trivial))))) ck_is_whole
theorem sc_divisor_of : FnScope ["one", "other"] ["one", "other"] (defScope (top 5)) := ⟨rfl, rfl, rfl, by decide +kernel, rfl, by decide +kernel, by decide +kernel⟩
theorem ck_divisor_of : cSs ⟨["one", "other"], defScope (top 5), fun _ => true⟩ ir_divisor_of (defBody (top 5)) = true := by kernel_rfl
theorem ok_divisor_of (F : Fd K "divisor_of" 5 f fd) (hm : mg "divisor_of" = some (.ref f)) (b_abs : mg "abs" = none) : DOk P w K mg base 1 "divisor_of" sem_divisor_of :=
  def_ok F sc_divisor_of hm (F.bindsN (ps := ["one", "other"]) fun _ _ _ _ _ _ us hl => match us, hl with | [_, _], _ => rfl) rfl rfl (And.intro (b_abs) (trivial)) ck_divisor_of
theorem sc_ratio_of : FnScope ["top", "bottom", "by"] ["top", "bottom"] (defScope (top 6)) := ⟨rfl, rfl, rfl, by decide +kernel, rfl, by decide +kernel, by decide +kernel⟩
theorem ck_ratio_of : cSs ⟨["top", "bottom", "by"], defScope (top 6), fun _ => true⟩ ir_ratio_of (defBody (top 6)) = true := by kernel_rfl
theorem ok_ratio_of (F : Fd K "ratio_of" 6 f fd) (hm : mg "ratio_of" = some (.ref f)) (d_is_whole : DOk P w K mg base 1 "is_whole" sem_is_whole) (d_divisor_of : DOk P w K mg base 1 "divisor_of" sem_divisor_of) : DOk P w K mg base 2 "ratio_of" sem_ratio_of :=
  def_ok F sc_ratio_of hm (F.bindsN (ps := ["top", "bottom"]) fun _ _ _ _ _ _ us hl => match us, hl with | [_, _], _ => rfl) rfl rfl (And.intro (d_is_whole) (And.intro (d_is_whole) (And.intro (d_divisor_of) (trivial)))) ck_ratio_of
theorem sc_ratio_sum : FnScope ["one", "other"] ["one", "other"] (defScope (top 7)) := ⟨rfl, rfl, rfl, by decide +kernel, rfl, by decide +kernel, by decide +kernel⟩
theorem ck_ratio_sum : cSs ⟨["one", "other"], defScope (top 7), fun _ => true⟩ ir_ratio_sum (defBody (top 7)) = true := by kernel_rfl
theorem ok_ratio_sum (F : Fd K "ratio_sum" 7 f fd) (hm : mg "ratio_sum" = some (.ref f)) (d_ratio_of : DOk P w K mg base 2 "ratio_of" sem_ratio_of) : DOk P w K mg base 3 "ratio_sum" sem_ratio_sum :=
  def_ok F sc_ratio_sum hm (F.bindsN (ps := ["one", "other"]) fun _ _ _ _ _ _ us hl => match us, hl with | [_, _], _ => rfl) rfl rfl (And.intro (d_ratio_of) (trivial)) ck_ratio_sum
theorem sc_ratio_less : FnScope ["one", "other"] ["one", "other"] (defScope (top 8)) := ⟨rfl, rfl, rfl, by decide +kernel, rfl, by decide +kernel, by decide +kernel⟩
theorem ck_ratio_less : cSs ⟨["one", "other"], defScope (top 8), fun _ => true⟩ ir_ratio_less (defBody (top 8)) = true := by kernel_rfl
theorem ok_ratio_less (F : Fd K "ratio_less" 8 f fd) (hm : mg "ratio_less" = some (.ref f)) (d_ratio_of : DOk P w K mg base 2 "ratio_of" sem_ratio_of) : DOk P w K mg base 3 "ratio_less" sem_ratio_less :=
  def_ok F sc_ratio_less hm (F.bindsN (ps := ["one", "other"]) fun _ _ _ _ _ _ us hl => match us, hl with | [_, _], _ => rfl) rfl rfl (And.intro (d_ratio_of) (trivial)) ck_ratio_less
theorem sc_ratio_times : FnScope ["one", "other"] ["one", "other"] (defScope (top 9)) := ⟨rfl, rfl, rfl, by decide +kernel, rfl, by decide +kernel, by decide +kernel⟩
theorem ck_ratio_times : cSs ⟨["one", "other"], defScope (top 9), fun _ => true⟩ ir_ratio_times (defBody (top 9)) = true := by kernel_rfl
theorem ok_ratio_times (F : Fd K "ratio_times" 9 f fd) (hm : mg "ratio_times" = some (.ref f)) (d_ratio_of : DOk P w K mg base 2 "ratio_of" sem_ratio_of) : DOk P w K mg base 3 "ratio_times" sem_ratio_times :=
  def_ok F sc_ratio_times hm (F.bindsN (ps := ["one", "other"]) fun _ _ _ _ _ _ us hl => match us, hl with | [_, _], _ => rfl) rfl rfl (And.intro (d_ratio_of) (trivial)) ck_ratio_times
theorem sc_ratio_by : FnScope ["one", "other"] ["one", "other"] (defScope (top 10)) := ⟨rfl, rfl, rfl, by decide +kernel, rfl, by decide +kernel, by decide +kernel⟩
theorem ck_ratio_by : cSs ⟨["one", "other"], defScope (top 10), fun _ => true⟩ ir_ratio_by (defBody (top 10)) = true := by kernel_rfl
theorem ok_ratio_by (F : Fd K "ratio_by" 10 f fd) (hm : mg "ratio_by" = some (.ref f)) (d_ratio_of : DOk P w K mg base 2 "ratio_of" sem_ratio_of) : DOk P w K mg base 3 "ratio_by" sem_ratio_by :=
  def_ok F sc_ratio_by hm (F.bindsN (ps := ["one", "other"]) fun _ _ _ _ _ _ us hl => match us, hl with | [_, _], _ => rfl) rfl rfl (And.intro (d_ratio_of) (trivial)) ck_ratio_by
theorem sc_is_under : FnScope ["one", "other"] ["one", "other"] (defScope (top 11)) := ⟨rfl, rfl, rfl, by decide +kernel, rfl, by decide +kernel, by decide +kernel⟩
theorem ck_is_under : cSs ⟨["one", "other"], defScope (top 11), fun _ => true⟩ ir_is_under (defBody (top 11)) = true := by kernel_rfl
theorem ok_is_under (F : Fd K "is_under" 11 f fd) (hm : mg "is_under" = some (.ref f))  : DOk P w K mg base 1 "is_under" sem_is_under :=
  def_ok F sc_is_under hm (F.bindsN (ps := ["one", "other"]) fun _ _ _ _ _ _ us hl => match us, hl with | [_, _], _ => rfl) rfl rfl (trivial) ck_is_under
theorem sc_share_of : FnScope ["part", "found", "k", "one", "other"] ["part"] (defScope (top 14)) := ⟨rfl, rfl, rfl, by decide +kernel, rfl, by decide +kernel, by decide +kernel⟩
theorem ck_share_of : cSs ⟨["part", "found", "k", "one", "other"], defScope (top 14), fun _ => true⟩ ir_share_of (defBody (top 14)) = true := by kernel_rfl
theorem ok_share_of (F : Fd K "share_of" 14 f fd) (hm : mg "share_of" = some (.ref f)) (g_NOUGHT : GOk K mg "NOUGHT" (.tuple [(.int 0), (.int 1)])) (b_range : mg "range" = none) (b_len : mg "len" = none) (d_ratio_sum : DOk P w K mg base 3 "ratio_sum" sem_ratio_sum) (d_ratio_less : DOk P w K mg base 3 "ratio_less" sem_ratio_less) (d_ratio_times : DOk P w K mg base 3 "ratio_times" sem_ratio_times) (d_ratio_of : DOk P w K mg base 2 "ratio_of" sem_ratio_of) : DOk P w K mg base 4 "share_of" sem_share_of :=
  def_ok F sc_share_of hm (F.bindsN (ps := ["part"]) fun _ _ _ _ _ _ us hl => match us, hl with | [_], _ => rfl) rfl rfl (And.intro (g_NOUGHT) (And.intro (b_range) (And.intro (b_len) (And.intro (b_len) (And.intro (d_ratio_sum) (And.intro (d_ratio_less) (And.intro (d_ratio_times) (And.intro (d_ratio_times) (And.intro (d_ratio_times) (And.intro (d_ratio_of.mono (by decide)) (trivial))))))))))) ck_share_of
theorem sc_turn_at : FnScope ["one", "other", "place", "first"] ["one", "other", "place"] (defScope (top 15)) := ⟨rfl, rfl, rfl, by decide +kernel, rfl, by decide +kernel, by decide +kernel⟩
theorem ck_turn_at : cSs ⟨["one", "other", "place", "first"], defScope (top 15), fun _ => true⟩ ir_turn_at (defBody (top 15)) = true := by kernel_rfl
theorem ok_turn_at (F : Fd K "turn_at" 15 f fd) (hm : mg "turn_at" = some (.ref f)) (d_ratio_times : DOk P w K mg base 3 "ratio_times" sem_ratio_times) (d_ratio_less : DOk P w K mg base 3 "ratio_less" sem_ratio_less) : DOk P w K mg base 4 "turn_at" sem_turn_at :=
  def_ok F sc_turn_at hm (F.bindsN (ps := ["one", "other", "place"]) fun _ _ _ _ _ _ us hl => match us, hl with | [_, _, _], _ => rfl) rfl rfl (And.intro (d_ratio_times) (And.intro (d_ratio_less) (And.intro (d_ratio_less) (And.intro (d_ratio_less) (And.intro (d_ratio_times) (And.intro (d_ratio_less) (And.intro (d_ratio_less) (trivial)))))))) ck_turn_at
theorem sc_between : FnScope ["one", "other", "here", "there", "share", "a", "b"] ["one", "other", "here", "there"] (defScope (top 16)) := ⟨rfl, rfl, rfl, by decide +kernel, rfl, by decide +kernel, by decide +kernel⟩
theorem ck_between : cSs ⟨["one", "other", "here", "there", "share", "a", "b"], defScope (top 16), fun _ => true⟩ ir_between (defBody (top 16)) = true := by kernel_rfl
theorem ok_between (F : Fd K "between" 16 f fd) (hm : mg "between" = some (.ref f)) (d_ratio_by : DOk P w K mg base 3 "ratio_by" sem_ratio_by) (d_ratio_less : DOk P w K mg base 3 "ratio_less" sem_ratio_less) (b_tuple : mg "tuple" = none) (b_zip : mg "zip" = none) (d_ratio_sum : DOk P w K mg base 3 "ratio_sum" sem_ratio_sum) (d_ratio_times : DOk P w K mg base 3 "ratio_times" sem_ratio_times) : DOk P w K mg base 4 "between" sem_between :=
  def_ok F sc_between hm (F.bindsN (ps := ["one", "other", "here", "there"]) fun _ _ _ _ _ _ us hl => match us, hl with | [_, _, _, _], _ => rfl) rfl rfl (And.intro (d_ratio_by) (And.intro (d_ratio_less) (And.intro (b_tuple) (And.intro (b_zip) (And.intro (d_ratio_sum) (And.intro (d_ratio_times) (And.intro (d_ratio_less) (trivial)))))))) ck_between
theorem sc_kept_side : FnScope ["corners", "heights", "found", "k", "later"] ["corners", "heights"] (defScope (top 17)) := ⟨rfl, rfl, rfl, by decide +kernel, rfl, by decide +kernel, by decide +kernel⟩
theorem ck_kept_side : cSs ⟨["corners", "heights", "found", "k", "later"], defScope (top 17), fun _ => true⟩ ir_kept_side (defBody (top 17)) = true := by kernel_rfl
theorem ok_kept_side (F : Fd K "kept_side" 17 f fd) (hm : mg "kept_side" = some (.ref f)) (b_range : mg "range" = none) (b_len : mg "len" = none) (d_is_under : DOk P w K mg base 1 "is_under" sem_is_under) (g_NOUGHT : GOk K mg "NOUGHT" (.tuple [(.int 0), (.int 1)])) (d_ratio_times : DOk P w K mg base 3 "ratio_times" sem_ratio_times) (d_between : DOk P w K mg base 4 "between" sem_between) : DOk P w K mg base 5 "kept_side" sem_kept_side :=
  def_ok F sc_kept_side hm (F.bindsN (ps := ["corners", "heights"]) fun _ _ _ _ _ _ us hl => match us, hl with | [_, _], _ => rfl) rfl rfl (And.intro (b_range) (And.intro (b_len) (And.intro (b_len) (And.intro (d_is_under.mono (by decide)) (And.intro (g_NOUGHT) (And.intro (d_is_under.mono (by decide)) (And.intro (d_ratio_times.mono (by decide)) (And.intro (g_NOUGHT) (And.intro (d_between) (trivial)))))))))) ck_kept_side
theorem sc_is_before : FnScope ["one", "other"] ["one", "other"] (defScope (top 18)) := ⟨rfl, rfl, rfl, by decide +kernel, rfl, by decide +kernel, by decide +kernel⟩
theorem ck_is_before : cSs ⟨["one", "other"], defScope (top 18), fun _ => true⟩ ir_is_before (defBody (top 18)) = true := by kernel_rfl
theorem ok_is_before (F : Fd K "is_before" 18 f fd) (hm : mg "is_before" = some (.ref f)) (d_is_under : DOk P w K mg base 1 "is_under" sem_is_under) : DOk P w K mg base 2 "is_before" sem_is_before :=
  def_ok F sc_is_before hm (F.bindsN (ps := ["one", "other"]) fun _ _ _ _ _ _ us hl => match us, hl with | [_, _], _ => rfl) rfl rfl (And.intro (d_is_under) (And.intro (d_is_under) (trivial))) ck_is_before
theorem sc_tidied_part : FnScope ["corners", "unlike", "many", "found", "k", "first"] ["corners"] (defScope (top 19)) := ⟨rfl, rfl, rfl, by decide +kernel, rfl, by decide +kernel, by decide +kernel⟩
theorem ck_tidied_part : cSs ⟨["corners", "unlike", "many", "found", "k", "first"], defScope (top 19), fun _ => true⟩ ir_tidied_part (defBody (top 19)) = true := by kernel_rfl
theorem ok_tidied_part (F : Fd K "tidied_part" 19 f fd) (hm : mg "tidied_part" = some (.ref f)) (b_range : mg "range" = none) (b_len : mg "len" = none) (d_turn_at : DOk P w K mg base 4 "turn_at" sem_turn_at) (g_NOUGHT : GOk K mg "NOUGHT" (.tuple [(.int 0), (.int 1)])) (d_is_under : DOk P w K mg base 1 "is_under" sem_is_under) (d_share_of : DOk P w K mg base 4 "share_of" sem_share_of) (d_is_before : DOk P w K mg base 2 "is_before" sem_is_before) : DOkN P w K mg base 5 "tidied_part" sem_tidied_part shF :=
  def_okN F sc_tidied_part hm (F.bindsN (ps := ["corners"]) fun _ _ _ _ _ _ us hl => match us, hl with | [_], _ => rfl) rfl rfl (And.intro (b_range) (And.intro (b_len) (And.intro (b_len) (And.intro (b_len) (And.intro (b_range) (And.intro (d_turn_at) (And.intro (g_NOUGHT) (And.intro (b_len) (And.intro (d_is_under.mono (by decide)) (And.intro (d_share_of) (And.intro (g_NOUGHT) (And.intro (b_range) (And.intro (b_len) (And.intro (d_is_before.mono (by decide)) (trivial))))))))))))))) ck_tidied_part
theorem sc_both_of : FnScope ["one", "other", "found", "k", "here", "there", "place"] ["one", "other"] (defScope (top 20)) := ⟨rfl, rfl, rfl, by decide +kernel, rfl, by decide +kernel, by decide +kernel⟩
theorem ck_both_of : cSs ⟨["one", "other", "found", "k", "here", "there", "place"], defScope (top 20), fun _ => true⟩ ir_both_of (defBody (top 20)) = true := by kernel_rfl
theorem ok_both_of (F : Fd K "both_of" 20 f fd) (hm : mg "both_of" = some (.ref f)) (b_range : mg "range" = none) (b_len : mg "len" = none) (d_kept_side : DOk P w K mg base 5 "kept_side" sem_kept_side) (d_turn_at : DOk P w K mg base 4 "turn_at" sem_turn_at) (d_tidied_part : DOkN P w K mg base 5 "tidied_part" sem_tidied_part shF) : DOkN P w K mg base 6 "both_of" sem_both_of shF :=
  def_okN F sc_both_of hm (F.bindsN (ps := ["one", "other"]) fun _ _ _ _ _ _ us hl => match us, hl with | [_, _], _ => rfl) rfl rfl (And.intro (b_range) (And.intro (b_len) (And.intro (b_len) (And.intro (d_kept_side) (And.intro (d_turn_at.mono (by decide)) (And.intro (d_tidied_part) (trivial))))))) ck_both_of
theorem sc_triple_sum : FnScope ["one", "other"] ["one", "other"] (defScope (top 22)) := ⟨rfl, rfl, rfl, by decide +kernel, rfl, by decide +kernel, by decide +kernel⟩
theorem ck_triple_sum : cSs ⟨["one", "other"], defScope (top 22), fun _ => true⟩ ir_triple_sum (defBody (top 22)) = true := by kernel_rfl
theorem ok_triple_sum (F : Fd K "triple_sum" 22 f fd) (hm : mg "triple_sum" = some (.ref f))  : DOk P w K mg base 1 "triple_sum" sem_triple_sum :=
  def_ok F sc_triple_sum hm (F.bindsN (ps := ["one", "other"]) fun _ _ _ _ _ _ us hl => match us, hl with | [_, _], _ => rfl) rfl rfl (trivial) ck_triple_sum
theorem sc_triple_less : FnScope ["one", "other"] ["one", "other"] (defScope (top 23)) := ⟨rfl, rfl, rfl, by decide +kernel, rfl, by decide +kernel, by decide +kernel⟩
theorem ck_triple_less : cSs ⟨["one", "other"], defScope (top 23), fun _ => true⟩ ir_triple_less (defBody (top 23)) = true := by kernel_rfl
theorem ok_triple_less (F : Fd K "triple_less" 23 f fd) (hm : mg "triple_less" = some (.ref f))  : DOk P w K mg base 1 "triple_less" sem_triple_less :=
  def_ok F sc_triple_less hm (F.bindsN (ps := ["one", "other"]) fun _ _ _ _ _ _ us hl => match us, hl with | [_, _], _ => rfl) rfl rfl (trivial) ck_triple_less
theorem sc_dot_of : FnScope ["one", "other"] ["one", "other"] (defScope (top 24)) := ⟨rfl, rfl, rfl, by decide +kernel, rfl, by decide +kernel, by decide +kernel⟩
theorem ck_dot_of : cSs ⟨["one", "other"], defScope (top 24), fun _ => true⟩ ir_dot_of (defBody (top 24)) = true := by kernel_rfl
theorem ok_dot_of (F : Fd K "dot_of" 24 f fd) (hm : mg "dot_of" = some (.ref f))  : DOk P w K mg base 1 "dot_of" sem_dot_of :=
  def_ok F sc_dot_of hm (F.bindsN (ps := ["one", "other"]) fun _ _ _ _ _ _ us hl => match us, hl with | [_, _], _ => rfl) rfl rfl (trivial) ck_dot_of
theorem sc_cross_of : FnScope ["one", "other", "a", "b", "c", "d", "e", "f"] ["one", "other"] (defScope (top 25)) := ⟨rfl, rfl, rfl, by decide +kernel, rfl, by decide +kernel, by decide +kernel⟩
theorem ck_cross_of : cSs ⟨["one", "other", "a", "b", "c", "d", "e", "f"], defScope (top 25), fun _ => true⟩ ir_cross_of (defBody (top 25)) = true := by kernel_rfl
theorem ok_cross_of (F : Fd K "cross_of" 25 f fd) (hm : mg "cross_of" = some (.ref f))  : DOk P w K mg base 1 "cross_of" sem_cross_of :=
  def_ok F sc_cross_of hm (F.bindsN (ps := ["one", "other"]) fun _ _ _ _ _ _ us hl => match us, hl with | [_, _], _ => rfl) rfl rfl (trivial) ck_cross_of
theorem sc_front_of : FnScope ["plate"] ["plate"] (defScope (top 27)) := ⟨rfl, rfl, rfl, by decide +kernel, rfl, by decide +kernel, by decide +kernel⟩
theorem ck_front_of : cSs ⟨["plate"], defScope (top 27), fun _ => true⟩ ir_front_of (defBody (top 27)) = true := by kernel_rfl
theorem ok_front_of (F : Fd K "front_of" 27 f fd) (hm : mg "front_of" = some (.ref f)) (d_cross_of : DOk P w K mg base 1 "cross_of" sem_cross_of) : DOk P w K mg base 2 "front_of" sem_front_of :=
  def_ok F sc_front_of hm (F.bindsN (ps := ["plate"]) fun _ _ _ _ _ _ us hl => match us, hl with | [_], _ => rfl) rfl rfl (And.intro (d_cross_of) (trivial)) ck_front_of
theorem sc_point_less : FnScope ["one", "other", "here", "there"] ["one", "other"] (defScope (top 29)) := ⟨rfl, rfl, rfl, by decide +kernel, rfl, by decide +kernel, by decide +kernel⟩
theorem ck_point_less : cSs ⟨["one", "other", "here", "there"], defScope (top 29), fun _ => true⟩ ir_point_less (defBody (top 29)) = true := by kernel_rfl
theorem ok_point_less (F : Fd K "point_less" 29 f fd) (hm : mg "point_less" = some (.ref f)) (b_tuple : mg "tuple" = none) (b_zip : mg "zip" = none) (d_ratio_less : DOk P w K mg base 3 "ratio_less" sem_ratio_less) : DOk P w K mg base 4 "point_less" sem_point_less :=
  def_ok F sc_point_less hm (F.bindsN (ps := ["one", "other"]) fun _ _ _ _ _ _ us hl => match us, hl with | [_, _], _ => rfl) rfl rfl (And.intro (b_tuple) (And.intro (b_zip) (And.intro (d_ratio_less) (trivial)))) ck_point_less
theorem sc_point_dot : FnScope ["point", "triple", "found", "here", "there"] ["point", "triple"] (defScope (top 30)) := ⟨rfl, rfl, rfl, by decide +kernel, rfl, by decide +kernel, by decide +kernel⟩
theorem ck_point_dot : cSs ⟨["point", "triple", "found", "here", "there"], defScope (top 30), fun _ => true⟩ ir_point_dot (defBody (top 30)) = true := by kernel_rfl
theorem ok_point_dot (F : Fd K "point_dot" 30 f fd) (hm : mg "point_dot" = some (.ref f)) (b_zip : mg "zip" = none) (d_ratio_sum : DOk P w K mg base 3 "ratio_sum" sem_ratio_sum) (d_ratio_times : DOk P w K mg base 3 "ratio_times" sem_ratio_times) : DOk P w K mg base 4 "point_dot" sem_point_dot :=
  def_ok F sc_point_dot hm (F.bindsN (ps := ["point", "triple"]) fun _ _ _ _ _ _ us hl => match us, hl with | [_, _], _ => rfl) rfl rfl (And.intro (b_zip) (And.intro (d_ratio_sum) (And.intro (d_ratio_times) (trivial)))) ck_point_dot
theorem sc_meeting_of : FnScope ["plate", "point", "direction", "corner", "side", "other", "bottom", "gap", "s", "t"] ["plate", "point", "direction"] (defScope (top 31)) := ⟨rfl, rfl, rfl, by decide +kernel, rfl, by decide +kernel, by decide +kernel⟩
theorem ck_meeting_of : cSs ⟨["plate", "point", "direction", "corner", "side", "other", "bottom", "gap", "s", "t"], defScope (top 31), fun _ => true⟩ ir_meeting_of (defBody (top 31)) = true := by kernel_rfl
theorem ok_meeting_of (F : Fd K "meeting_of" 31 f fd) (hm : mg "meeting_of" = some (.ref f)) (d_dot_of : DOk P w K mg base 1 "dot_of" sem_dot_of) (d_front_of : DOk P w K mg base 2 "front_of" sem_front_of) (d_point_less : DOk P w K mg base 4 "point_less" sem_point_less) (d_ratio_by : DOk P w K mg base 3 "ratio_by" sem_ratio_by) (d_point_dot : DOk P w K mg base 4 "point_dot" sem_point_dot) (d_cross_of : DOk P w K mg base 1 "cross_of" sem_cross_of) : DOk P w K mg base 5 "meeting_of" sem_meeting_of :=
  def_ok F sc_meeting_of hm (F.bindsN (ps := ["plate", "point", "direction"]) fun _ _ _ _ _ _ us hl => match us, hl with | [_, _, _], _ => rfl) rfl rfl (And.intro (d_dot_of.mono (by decide)) (And.intro (d_front_of.mono (by decide)) (And.intro (d_point_less) (And.intro (d_ratio_by.mono (by decide)) (And.intro (d_point_dot) (And.intro (d_cross_of.mono (by decide)) (And.intro (d_ratio_by.mono (by decide)) (And.intro (d_point_dot) (And.intro (d_cross_of.mono (by decide)) (trivial)))))))))) ck_meeting_of
theorem sc_corners_of : FnScope ["plate", "corner", "side", "other", "far"] ["plate"] (defScope (top 34)) := ⟨rfl, rfl, rfl, by decide +kernel, rfl, by decide +kernel, by decide +kernel⟩
theorem ck_corners_of : cSs ⟨["plate", "corner", "side", "other", "far"], defScope (top 34), fun _ => true⟩ ir_corners_of (defBody (top 34)) = true := by kernel_rfl
theorem ok_corners_of (F : Fd K "corners_of" 34 f fd) (hm : mg "corners_of" = some (.ref f)) (d_triple_sum : DOk P w K mg base 1 "triple_sum" sem_triple_sum) : DOk P w K mg base 2 "corners_of" sem_corners_of :=
  def_ok F sc_corners_of hm (F.bindsN (ps := ["plate"]) fun _ _ _ _ _ _ us hl => match us, hl with | [_], _ => rfl) rfl rfl (And.intro (d_triple_sum) (And.intro (d_triple_sum) (And.intro (d_triple_sum) (trivial)))) ck_corners_of
theorem sc_as_point : FnScope ["triple", "number"] ["triple"] (defScope (top 35)) := ⟨rfl, rfl, rfl, by decide +kernel, rfl, by decide +kernel, by decide +kernel⟩
theorem ck_as_point : cSs ⟨["triple", "number"], defScope (top 35), fun _ => true⟩ ir_as_point (defBody (top 35)) = true := by kernel_rfl
theorem ok_as_point (F : Fd K "as_point" 35 f fd) (hm : mg "as_point" = some (.ref f)) (b_tuple : mg "tuple" = none) : DOk P w K mg base 1 "as_point" sem_as_point :=
  def_ok F sc_as_point hm (F.bindsN (ps := ["triple"]) fun _ _ _ _ _ _ us hl => match us, hl with | [_], _ => rfl) rfl rfl (And.intro (b_tuple) (trivial)) ck_as_point
theorem sc_shaded_by : FnScope ["plate", "other", "direction", "front", "corners", "heights", "ahead", "corner", "height", "point"] ["plate", "other", "direction"] (defScope (top 36)) := ⟨rfl, rfl, rfl, by decide +kernel, rfl, by decide +kernel, by decide +kernel⟩
theorem ck_shaded_by : cSs ⟨["plate", "other", "direction", "front", "corners", "heights", "ahead", "corner", "height", "point"], defScope (top 36), fun _ => true⟩ ir_shaded_by (defBody (top 36)) = true := by kernel_rfl
theorem ok_shaded_by (F : Fd K "shaded_by" 36 f fd) (hm : mg "shaded_by" = some (.ref f)) (d_front_of : DOk P w K mg base 2 "front_of" sem_front_of) (d_corners_of : DOk P w K mg base 2 "corners_of" sem_corners_of) (d_dot_of : DOk P w K mg base 1 "dot_of" sem_dot_of) (d_triple_less : DOk P w K mg base 1 "triple_less" sem_triple_less) (b_max : mg "max" = none) (d_kept_side : DOk P w K mg base 5 "kept_side" sem_kept_side) (d_as_point : DOk P w K mg base 1 "as_point" sem_as_point) (d_both_of : DOkN P w K mg base 6 "both_of" sem_both_of shF) (d_tidied_part : DOkN P w K mg base 5 "tidied_part" sem_tidied_part shF) (d_meeting_of : DOk P w K mg base 5 "meeting_of" sem_meeting_of) (b_list : mg "list" = none) (g_WHOLE : GOk K mg "WHOLE" (.list [(.tuple [(.tuple [(.int 0), (.int 1)]), (.tuple [(.int 0), (.int 1)])]), (.tuple [(.tuple [(.int 1), (.int 1)]), (.tuple [(.int 0), (.int 1)])]), (.tuple [(.tuple [(.int 1), (.int 1)]), (.tuple [(.int 1), (.int 1)])]), (.tuple [(.tuple [(.int 0), (.int 1)]), (.tuple [(.int 1), (.int 1)])])])) : DOkN P w K mg base 7 "shaded_by" sem_shaded_by shF :=
  def_okN F sc_shaded_by hm (F.bindsN (ps := ["plate", "other", "direction"]) fun _ _ _ _ _ _ us hl => match us, hl with | [_, _, _], _ => rfl) rfl rfl (And.intro (d_front_of.mono (by decide)) (And.intro (d_corners_of.mono (by decide)) (And.intro (d_dot_of.mono (by decide)) (And.intro (d_triple_less.mono (by decide)) (And.intro (d_dot_of.mono (by decide)) (And.intro (d_front_of.mono (by decide)) (And.intro (b_max) (And.intro (d_kept_side.mono (by decide)) (And.intro (d_as_point.mono (by decide)) (And.intro (d_both_of) (And.intro ((d_tidied_part.mono (by decide)).data shF_d) (And.intro (d_meeting_of.mono (by decide)) (And.intro (b_list) (And.intro (g_WHOLE) (trivial))))))))))))))) ck_shaded_by
theorem sc__law_cell_at : FnScope ["script", "k"] ["script", "k"] (defScope (top 38)) := ⟨rfl, rfl, rfl, by decide +kernel, rfl, by decide +kernel, by decide +kernel⟩
theorem ck__law_cell_at : cSs ⟨["script", "k"], defScope (top 38), fun _ => true⟩ ir__law_cell_at (defBody (top 38)) = true := by kernel_rfl
theorem ok__law_cell_at (F : Fd K "_law_cell_at" 38 f fd) (hm : mg "_law_cell_at" = some (.ref f)) (b_len : mg "len" = none) : DOk P w K mg base 1 "_law_cell_at" sem__law_cell_at :=
  def_ok F sc__law_cell_at hm (F.bindsN (ps := ["script", "k"]) fun _ _ _ _ _ _ us hl => match us, hl with | [_, _], _ => rfl) rfl rfl (And.intro (b_len) (trivial)) ck__law_cell_at
theorem sc__law_draw : FnScope ["cell", "k", "many", "number", "left", "j"] ["cell", "k", "many"] (defScope (top 39)) := ⟨rfl, rfl, rfl, by decide +kernel, rfl, by decide +kernel, by decide +kernel⟩
theorem ck__law_draw : cSs ⟨["cell", "k", "many", "number", "left", "j"], defScope (top 39), fun _ => true⟩ ir__law_draw (defBody (top 39)) = true := by kernel_rfl
theorem ok__law_draw (F : Fd K "_law_draw" 39 f fd) (hm : mg "_law_draw" = some (.ref f)) (b_range : mg "range" = none) : DOk P w K mg base 1 "_law_draw" sem__law_draw :=
  def_ok F sc__law_draw hm (F.bindsN (ps := ["cell", "k", "many"]) fun _ _ _ _ _ _ us hl => match us, hl with | [_, _, _], _ => rfl) rfl rfl (And.intro (b_range) (trivial)) ck__law_draw
theorem sc__law_number : FnScope ["cell", "k", "kind"] ["cell", "k"] (defScope (top 40)) := ⟨rfl, rfl, rfl, by decide +kernel, rfl, by decide +kernel, by decide +kernel⟩
theorem ck__law_number : cSs ⟨["cell", "k", "kind"], defScope (top 40), fun _ => true⟩ ir__law_number (defBody (top 40)) = true := by kernel_rfl
theorem ok__law_number (F : Fd K "_law_number" 40 f fd) (hm : mg "_law_number" = some (.ref f)) (d__law_draw : DOk P w K mg base 1 "_law_draw" sem__law_draw) : DOk P w K mg base 2 "_law_number" sem__law_number :=
  def_ok F sc__law_number hm (F.bindsN (ps := ["cell", "k"]) fun _ _ _ _ _ _ us hl => match us, hl with | [_, _], _ => rfl) rfl rfl (And.intro (d__law_draw) (And.intro (d__law_draw) (And.intro (d__law_draw) (And.intro (d__law_draw) (And.intro (d__law_draw) (trivial)))))) ck__law_number
theorem sc__law_triple : FnScope ["cell", "k"] ["cell", "k"] (defScope (top 41)) := ⟨rfl, rfl, rfl, by decide +kernel, rfl, by decide +kernel, by decide +kernel⟩
theorem ck__law_triple : cSs ⟨["cell", "k"], defScope (top 41), fun _ => true⟩ ir__law_triple (defBody (top 41)) = true := by kernel_rfl
theorem ok__law_triple (F : Fd K "_law_triple" 41 f fd) (hm : mg "_law_triple" = some (.ref f)) (d__law_number : DOk P w K mg base 2 "_law_number" sem__law_number) : DOk P w K mg base 3 "_law_triple" sem__law_triple :=
  def_ok F sc__law_triple hm (F.bindsN (ps := ["cell", "k"]) fun _ _ _ _ _ _ us hl => match us, hl with | [_, _], _ => rfl) rfl rfl (And.intro (d__law_number) (And.intro (d__law_number) (And.intro (d__law_number) (trivial)))) ck__law_triple
theorem sc__law_cross : FnScope ["one", "other", "a", "b", "c", "d", "e", "f"] ["one", "other"] (defScope (top 42)) := ⟨rfl, rfl, rfl, by decide +kernel, rfl, by decide +kernel, by decide +kernel⟩
theorem ck__law_cross : cSs ⟨["one", "other", "a", "b", "c", "d", "e", "f"], defScope (top 42), fun _ => true⟩ ir__law_cross (defBody (top 42)) = true := by kernel_rfl
theorem ok__law_cross (F : Fd K "_law_cross" 42 f fd) (hm : mg "_law_cross" = some (.ref f))  : DOk P w K mg base 1 "_law_cross" sem__law_cross :=
  def_ok F sc__law_cross hm (F.bindsN (ps := ["one", "other"]) fun _ _ _ _ _ _ us hl => match us, hl with | [_, _], _ => rfl) rfl rfl (trivial) ck__law_cross
theorem sc__law_dot : FnScope ["one", "other"] ["one", "other"] (defScope (top 43)) := ⟨rfl, rfl, rfl, by decide +kernel, rfl, by decide +kernel, by decide +kernel⟩
theorem ck__law_dot : cSs ⟨["one", "other"], defScope (top 43), fun _ => true⟩ ir__law_dot (defBody (top 43)) = true := by kernel_rfl
theorem ok__law_dot (F : Fd K "_law_dot" 43 f fd) (hm : mg "_law_dot" = some (.ref f))  : DOk P w K mg base 1 "_law_dot" sem__law_dot :=
  def_ok F sc__law_dot hm (F.bindsN (ps := ["one", "other"]) fun _ _ _ _ _ _ us hl => match us, hl with | [_, _], _ => rfl) rfl rfl (trivial) ck__law_dot
theorem sc__law_plate : FnScope ["cell", "k", "side", "other", "unit"] ["cell", "k"] (defScope (top 44)) := ⟨rfl, rfl, rfl, by decide +kernel, rfl, by decide +kernel, by decide +kernel⟩
theorem ck__law_plate : cSs ⟨["cell", "k", "side", "other", "unit"], defScope (top 44), fun _ => true⟩ ir__law_plate (defBody (top 44)) = true := by kernel_rfl
theorem ok__law_plate (F : Fd K "_law_plate" 44 f fd) (hm : mg "_law_plate" = some (.ref f)) (d__law_triple : DOk P w K mg base 3 "_law_triple" sem__law_triple) (d__law_cross : DOk P w K mg base 1 "_law_cross" sem__law_cross) : DOk P w K mg base 4 "_law_plate" sem__law_plate :=
  def_ok F sc__law_plate hm (F.bindsN (ps := ["cell", "k"]) fun _ _ _ _ _ _ us hl => match us, hl with | [_, _], _ => rfl) rfl rfl (And.intro (d__law_triple) (And.intro (d__law_triple) (And.intro (d__law_cross.mono (by decide)) (And.intro (d__law_triple) (trivial))))) ck__law_plate
theorem sc__law_ahead : FnScope ["front", "found", "unit", "sign", "one", "more"] ["front", "found"] (defScope (top 45)) := ⟨rfl, rfl, rfl, by decide +kernel, rfl, by decide +kernel, by decide +kernel⟩
theorem ck__law_ahead : cSs ⟨["front", "found", "unit", "sign", "one", "more"], defScope (top 45), fun _ => true⟩ ir__law_ahead (defBody (top 45)) = true := by kernel_rfl
theorem ok__law_ahead (F : Fd K "_law_ahead" 45 f fd) (hm : mg "_law_ahead" = some (.ref f)) (d__law_dot : DOk P w K mg base 1 "_law_dot" sem__law_dot) (b_int : mg "int" = none) (b_tuple : mg "tuple" = none) (b_zip : mg "zip" = none) : DOk P w K mg base 2 "_law_ahead" sem__law_ahead :=
  def_ok F sc__law_ahead hm (F.bindsN (ps := ["front", "found"]) fun _ _ _ _ _ _ us hl => match us, hl with | [_, _], _ => rfl) rfl rfl (And.intro (d__law_dot) (And.intro (d__law_dot) (And.intro (b_int) (And.intro (d__law_dot) (And.intro (b_tuple) (And.intro (b_zip) (trivial))))))) ck__law_ahead
theorem sc__law_sum : FnScope ["one", "other", "many", "a", "b"] ["one", "other", "many"] (defScope (top 46)) := ⟨rfl, rfl, rfl, by decide +kernel, rfl, by decide +kernel, by decide +kernel⟩
theorem ck__law_sum : cSs ⟨["one", "other", "many", "a", "b"], defScope (top 46), fun _ => true⟩ ir__law_sum (defBody (top 46)) = true := by kernel_rfl
theorem ok__law_sum (F : Fd K "_law_sum" 46 f fd) (hm : mg "_law_sum" = some (.ref f)) (b_tuple : mg "tuple" = none) (b_zip : mg "zip" = none) : DOk P w K mg base 1 "_law_sum" sem__law_sum :=
  def_ok F sc__law_sum hm (F.bindsN (ps := ["one", "other", "many"]) fun _ _ _ _ _ _ us hl => match us, hl with | [_, _, _], _ => rfl) rfl rfl (And.intro (b_tuple) (And.intro (b_zip) (trivial))) ck__law_sum
theorem sc__law_other : FnScope ["plate", "direction", "cell", "way", "corner", "side", "other", "at", "along", "back", "one"] ["plate", "direction", "cell"] (defScope (top 47)) := ⟨rfl, rfl, rfl, by decide +kernel, rfl, by decide +kernel, by decide +kernel⟩
theorem ck__law_other : cSs ⟨["plate", "direction", "cell", "way", "corner", "side", "other", "at", "along", "back", "one"], defScope (top 47), fun _ => true⟩ ir__law_other (defBody (top 47)) = true := by kernel_rfl
theorem ok__law_other (F : Fd K "_law_other" 47 f fd) (hm : mg "_law_other" = some (.ref f)) (d__law_draw : DOk P w K mg base 1 "_law_draw" sem__law_draw) (d__law_sum : DOk P w K mg base 1 "_law_sum" sem__law_sum) (b_tuple : mg "tuple" = none) : DOk P w K mg base 2 "_law_other" sem__law_other :=
  def_ok F sc__law_other hm (F.bindsN (ps := ["plate", "direction", "cell"]) fun _ _ _ _ _ _ us hl => match us, hl with | [_, _, _], _ => rfl) rfl rfl (And.intro (d__law_draw) (And.intro (d__law_sum) (And.intro (d__law_sum) (And.intro (d__law_draw) (And.intro (d__law_draw) (And.intro (d__law_sum) (And.intro (d__law_sum) (And.intro (d__law_draw) (And.intro (b_tuple) (And.intro (d__law_sum) (And.intro (d__law_draw) (And.intro (d__law_sum) (And.intro (d__law_draw) (And.intro (d__law_draw) (And.intro (d__law_sum) (trivial)))))))))))))))) ck__law_other
theorem sc__law_far : FnScope ["plate", "number"] ["plate"] (defScope (top 48)) := ⟨rfl, rfl, rfl, by decide +kernel, rfl, by decide +kernel, by decide +kernel⟩
theorem ck__law_far : cSs ⟨["plate", "number"], defScope (top 48), fun _ => true⟩ ir__law_far (defBody (top 48)) = true := by kernel_rfl
theorem ok__law_far (F : Fd K "_law_far" 48 f fd) (hm : mg "_law_far" = some (.ref f)) (b_abs : mg "abs" = none) : DOk P w K mg base 1 "_law_far" sem__law_far :=
  def_ok F sc__law_far hm (F.bindsN (ps := ["plate"]) fun _ _ _ _ _ _ us hl => match us, hl with | [_], _ => rfl) rfl rfl (And.intro (b_abs) (trivial)) ck__law_far
theorem sc_law : FnScope ["script", "cell", "plate", "direction", "other", "found"] ["script"] (defScope (top 49)) := ⟨rfl, rfl, rfl, by decide +kernel, rfl, by decide +kernel, by decide +kernel⟩
theorem ck_law : cSs ⟨["script", "cell", "plate", "direction", "other", "found"], defScope (top 49), fun _ => true⟩ ir_law (defBody (top 49)) = true := by kernel_rfl
theorem ok_law (F : Fd K "law" 49 f fd) (d__law_plate : DOk P w K mg base 4 "_law_plate" sem__law_plate) (d__law_ahead : DOk P w K mg base 2 "_law_ahead" sem__law_ahead) (d__law_cross : DOk P w K mg base 1 "_law_cross" sem__law_cross) (d__law_triple : DOk P w K mg base 3 "_law_triple" sem__law_triple) (d__law_other : DOk P w K mg base 2 "_law_other" sem__law_other) (d__law_far : DOk P w K mg base 1 "_law_far" sem__law_far) (d_shaded_by : DOkN P w K mg base 7 "shaded_by" sem_shaded_by shF) (b_isinstance : mg "isinstance" = none) (b_list : mg "list" = none) : FnOk P w K mg base (L2.CX P w) 8 f fd ["script"] (spec K mg 1 sem_law) :=
  def_fn F sc_law rfl rfl (And.intro (d__law_plate.mono (by decide)) (And.intro (d__law_ahead.mono (by decide)) (And.intro (d__law_cross.mono (by decide)) (And.intro (d__law_triple.mono (by decide)) (And.intro (d__law_other.mono (by decide)) (And.intro (d__law_far.mono (by decide)) (And.intro (d_shaded_by) (And.intro (b_isinstance) (And.intro (b_list) (And.intro ((d_shaded_by).data shF_d) (trivial))))))))))) ck_law
end
def dD (x : Str) (i : Nat) : He.DefD := ⟨(x, none), x, x, defArgs (top i), defBody (top i), defScope (top i), [], []⟩
def fn : List He.DefD := ([dD "is_whole" 4, dD "divisor_of" 5, dD "ratio_of" 6, dD "ratio_sum" 7, dD "ratio_less" 8, dD "ratio_times" 9, dD "ratio_by" 10, dD "is_under" 11, dD "share_of" 14, dD "turn_at" 15, dD "between" 16, dD "kept_side" 17, dD "is_before" 18, dD "tidied_part" 19, dD "both_of" 20, dD "triple_sum" 22, dD "triple_less" 23, dD "dot_of" 24, dD "cross_of" 25, dD "front_of" 27, dD "point_less" 29, dD "point_dot" 30, dD "meeting_of" 31, dD "corners_of" 34, dD "as_point" 35, dD "shaded_by" 36, dD "_law_cell_at" 38, dD "_law_draw" 39, dD "_law_number" 40, dD "_law_triple" 41] : List He.DefD) ++ ([dD "_law_cross" 42, dD "_law_dot" 43, dD "_law_plate" 44, dD "_law_ahead" 45, dD "_law_sum" 46, dD "_law_other" 47, dD "_law_far" 48, dD "law" 49] : List He.DefD)
def fa : List He.Fa := ([.glo "is_whole", .glo "divisor_of", .glo "ratio_of", .glo "ratio_sum", .glo "ratio_less", .glo "ratio_times", .glo "ratio_by", .glo "is_under", .glo "share_of", .glo "turn_at", .glo "between", .glo "kept_side", .glo "is_before", .glo "tidied_part", .glo "both_of", .glo "triple_sum", .glo "triple_less", .glo "dot_of", .glo "cross_of", .glo "front_of", .glo "point_less", .glo "point_dot", .glo "meeting_of", .glo "corners_of", .glo "as_point", .glo "shaded_by", .glo "_law_cell_at", .glo "_law_draw", .glo "_law_number", .glo "_law_triple"] : List He.Fa) ++ ([.glo "_law_cross", .glo "_law_dot", .glo "_law_plate", .glo "_law_ahead", .glo "_law_sum", .glo "_law_other", .glo "_law_far", .glo "law", .free "abs", .free "bool", .free "int", .free "isinstance", .free "len", .free "list", .free "max", .free "range", .free "tuple", .free "zip"] : List He.Fa)
def gs : List (Str × PyData) := [("NOUGHT", (.tuple [(.int 0), (.int 1)])), ("WHOLE", (.list [(.tuple [(.tuple [(.int 0), (.int 1)]), (.tuple [(.int 0), (.int 1)])]), (.tuple [(.tuple [(.int 1), (.int 1)]), (.tuple [(.int 0), (.int 1)])]), (.tuple [(.tuple [(.int 1), (.int 1)]), (.tuple [(.int 1), (.int 1)])]), (.tuple [(.tuple [(.int 0), (.int 1)]), (.tuple [(.int 1), (.int 1)])])]))]
def loose : List Str := (["YardError", "NoNumber", "is_whole", "divisor_of", "ratio_of", "ratio_sum", "ratio_less", "ratio_times", "ratio_by", "is_under", "NOUGHT", "share_of", "turn_at", "between", "kept_side", "is_before", "tidied_part", "both_of", "triple_sum", "triple_less", "dot_of", "cross_of", "front_of", "point_less", "point_dot", "meeting_of", "WHOLE", "corners_of", "as_point", "shaded_by"] : List Str) ++ (["_law_cell_at", "_law_draw", "_law_number", "_law_triple", "_law_cross", "_law_dot", "_law_plate", "_law_ahead", "_law_sum", "_law_other", "_law_far"] : List Str)
abbrev R : PySem.W.OpenRow := PySem.W.OpenLaw.row PySem.Challenge.rw_dialyard_k75_nothing_shaded
abbrev hk : PySem.W.Hook := He.hookX 4 fa fn [] [] (gsB gs)
def ob (s : PySem.W.SharedT) : He.AlX := He.obsX 4 fa fn [] [] (gsB gs) (HandSHeadRun.getT s)
theorem ob_eq (s : PySem.W.SharedT) : ob s = hk.obs s.abs := He.obsX_eq (HandSHeadRun.getT_eq s)
theorem run (w : World) : HandSHeadRun.RunEq R (PySem.W.view R.prog [49]) hk ob 20000 loose w := by
  intro os
  kernel_rfl
theorem facts {P : Program} {w : World} {K : PySem.W.Frag} {h : Heap} {mg : Str → Option Value} {f : Addr} (X : K.In h) (G : h.Ns mainGlobals mg) (hfa : mg ("law" : Str) = some (.ref f)) (c : He.SaysD fa fn K) (cg : gsB gs K = true) :
    ∃ fd : FuncData, (∀ (s : Shared) (v : Value), BindsTo s fd ⟨[v], []⟩ [("script", v)]) ∧ ∀ base : Heap, K.In base → base.Ns mainGlobals mg → FnOk P w K mg base (L2.CX P w) 8 f fd ["script"] (spec K mg 1 sem_law) := by
  obtain ⟨fd_is_whole, F_is_whole⟩ := c.def_ 0 (d := dD "is_whole" 4) rfl
  obtain ⟨fd_divisor_of, F_divisor_of⟩ := c.def_ 1 (d := dD "divisor_of" 5) rfl
  obtain ⟨fd_ratio_of, F_ratio_of⟩ := c.def_ 2 (d := dD "ratio_of" 6) rfl
  obtain ⟨fd_ratio_sum, F_ratio_sum⟩ := c.def_ 3 (d := dD "ratio_sum" 7) rfl
  obtain ⟨fd_ratio_less, F_ratio_less⟩ := c.def_ 4 (d := dD "ratio_less" 8) rfl
  obtain ⟨fd_ratio_times, F_ratio_times⟩ := c.def_ 5 (d := dD "ratio_times" 9) rfl
  obtain ⟨fd_ratio_by, F_ratio_by⟩ := c.def_ 6 (d := dD "ratio_by" 10) rfl
  obtain ⟨fd_is_under, F_is_under⟩ := c.def_ 7 (d := dD "is_under" 11) rfl
  obtain ⟨fd_share_of, F_share_of⟩ := c.def_ 8 (d := dD "share_of" 14) rfl
  obtain ⟨fd_turn_at, F_turn_at⟩ := c.def_ 9 (d := dD "turn_at" 15) rfl
  obtain ⟨fd_between, F_between⟩ := c.def_ 10 (d := dD "between" 16) rfl
  obtain ⟨fd_kept_side, F_kept_side⟩ := c.def_ 11 (d := dD "kept_side" 17) rfl
  obtain ⟨fd_is_before, F_is_before⟩ := c.def_ 12 (d := dD "is_before" 18) rfl
  obtain ⟨fd_tidied_part, F_tidied_part⟩ := c.def_ 13 (d := dD "tidied_part" 19) rfl
  obtain ⟨fd_both_of, F_both_of⟩ := c.def_ 14 (d := dD "both_of" 20) rfl
  obtain ⟨fd_triple_sum, F_triple_sum⟩ := c.def_ 15 (d := dD "triple_sum" 22) rfl
  obtain ⟨fd_triple_less, F_triple_less⟩ := c.def_ 16 (d := dD "triple_less" 23) rfl
  obtain ⟨fd_dot_of, F_dot_of⟩ := c.def_ 17 (d := dD "dot_of" 24) rfl
  obtain ⟨fd_cross_of, F_cross_of⟩ := c.def_ 18 (d := dD "cross_of" 25) rfl
  obtain ⟨fd_front_of, F_front_of⟩ := c.def_ 19 (d := dD "front_of" 27) rfl
  obtain ⟨fd_point_less, F_point_less⟩ := c.def_ 20 (d := dD "point_less" 29) rfl
  obtain ⟨fd_point_dot, F_point_dot⟩ := c.def_ 21 (d := dD "point_dot" 30) rfl
  obtain ⟨fd_meeting_of, F_meeting_of⟩ := c.def_ 22 (d := dD "meeting_of" 31) rfl
  obtain ⟨fd_corners_of, F_corners_of⟩ := c.def_ 23 (d := dD "corners_of" 34) rfl
  obtain ⟨fd_as_point, F_as_point⟩ := c.def_ 24 (d := dD "as_point" 35) rfl
  obtain ⟨fd_shaded_by, F_shaded_by⟩ := c.def_ 25 (d := dD "shaded_by" 36) rfl
  obtain ⟨fd__law_cell_at, F__law_cell_at⟩ := c.def_ 26 (d := dD "_law_cell_at" 38) rfl
  obtain ⟨fd__law_draw, F__law_draw⟩ := c.def_ 27 (d := dD "_law_draw" 39) rfl
  obtain ⟨fd__law_number, F__law_number⟩ := c.def_ 28 (d := dD "_law_number" 40) rfl
  obtain ⟨fd__law_triple, F__law_triple⟩ := c.def_ 29 (d := dD "_law_triple" 41) rfl
  obtain ⟨fd__law_cross, F__law_cross⟩ := c.def_ 30 (d := dD "_law_cross" 42) rfl
  obtain ⟨fd__law_dot, F__law_dot⟩ := c.def_ 31 (d := dD "_law_dot" 43) rfl
  obtain ⟨fd__law_plate, F__law_plate⟩ := c.def_ 32 (d := dD "_law_plate" 44) rfl
  obtain ⟨fd__law_ahead, F__law_ahead⟩ := c.def_ 33 (d := dD "_law_ahead" 45) rfl
  obtain ⟨fd__law_sum, F__law_sum⟩ := c.def_ 34 (d := dD "_law_sum" 46) rfl
  obtain ⟨fd__law_other, F__law_other⟩ := c.def_ 35 (d := dD "_law_other" 47) rfl
  obtain ⟨fd__law_far, F__law_far⟩ := c.def_ 36 (d := dD "_law_far" 48) rfl
  obtain ⟨fd_law, F_law⟩ := c.def_ 37 (d := dD "law" 49) rfl
  have m_is_whole := He.glo_ok X G (c.fact 0 (f := .glo "is_whole") rfl)
  have m_divisor_of := He.glo_ok X G (c.fact 1 (f := .glo "divisor_of") rfl)
  have m_ratio_of := He.glo_ok X G (c.fact 2 (f := .glo "ratio_of") rfl)
  have m_ratio_sum := He.glo_ok X G (c.fact 3 (f := .glo "ratio_sum") rfl)
  have m_ratio_less := He.glo_ok X G (c.fact 4 (f := .glo "ratio_less") rfl)
  have m_ratio_times := He.glo_ok X G (c.fact 5 (f := .glo "ratio_times") rfl)
  have m_ratio_by := He.glo_ok X G (c.fact 6 (f := .glo "ratio_by") rfl)
  have m_is_under := He.glo_ok X G (c.fact 7 (f := .glo "is_under") rfl)
  have m_share_of := He.glo_ok X G (c.fact 8 (f := .glo "share_of") rfl)
  have m_turn_at := He.glo_ok X G (c.fact 9 (f := .glo "turn_at") rfl)
  have m_between := He.glo_ok X G (c.fact 10 (f := .glo "between") rfl)
  have m_kept_side := He.glo_ok X G (c.fact 11 (f := .glo "kept_side") rfl)
  have m_is_before := He.glo_ok X G (c.fact 12 (f := .glo "is_before") rfl)
  have m_tidied_part := He.glo_ok X G (c.fact 13 (f := .glo "tidied_part") rfl)
  have m_both_of := He.glo_ok X G (c.fact 14 (f := .glo "both_of") rfl)
  have m_triple_sum := He.glo_ok X G (c.fact 15 (f := .glo "triple_sum") rfl)
  have m_triple_less := He.glo_ok X G (c.fact 16 (f := .glo "triple_less") rfl)
  have m_dot_of := He.glo_ok X G (c.fact 17 (f := .glo "dot_of") rfl)
  have m_cross_of := He.glo_ok X G (c.fact 18 (f := .glo "cross_of") rfl)
  have m_front_of := He.glo_ok X G (c.fact 19 (f := .glo "front_of") rfl)
  have m_point_less := He.glo_ok X G (c.fact 20 (f := .glo "point_less") rfl)
  have m_point_dot := He.glo_ok X G (c.fact 21 (f := .glo "point_dot") rfl)
  have m_meeting_of := He.glo_ok X G (c.fact 22 (f := .glo "meeting_of") rfl)
  have m_corners_of := He.glo_ok X G (c.fact 23 (f := .glo "corners_of") rfl)
  have m_as_point := He.glo_ok X G (c.fact 24 (f := .glo "as_point") rfl)
  have m_shaded_by := He.glo_ok X G (c.fact 25 (f := .glo "shaded_by") rfl)
  have m__law_cell_at := He.glo_ok X G (c.fact 26 (f := .glo "_law_cell_at") rfl)
  have m__law_draw := He.glo_ok X G (c.fact 27 (f := .glo "_law_draw") rfl)
  have m__law_number := He.glo_ok X G (c.fact 28 (f := .glo "_law_number") rfl)
  have m__law_triple := He.glo_ok X G (c.fact 29 (f := .glo "_law_triple") rfl)
  have m__law_cross := He.glo_ok X G (c.fact 30 (f := .glo "_law_cross") rfl)
  have m__law_dot := He.glo_ok X G (c.fact 31 (f := .glo "_law_dot") rfl)
  have m__law_plate := He.glo_ok X G (c.fact 32 (f := .glo "_law_plate") rfl)
  have m__law_ahead := He.glo_ok X G (c.fact 33 (f := .glo "_law_ahead") rfl)
  have m__law_sum := He.glo_ok X G (c.fact 34 (f := .glo "_law_sum") rfl)
  have m__law_other := He.glo_ok X G (c.fact 35 (f := .glo "_law_other") rfl)
  have m__law_far := He.glo_ok X G (c.fact 36 (f := .glo "_law_far") rfl)
  have e := hfa.symm.trans (He.glo_ok X G (c.fact 37 (f := .glo "law") rfl))
  cases e
  have b_abs : mg "abs" = none := He.free_ok X G (c.fact 38 (f := .free "abs") rfl)
  have b_bool : mg "bool" = none := He.free_ok X G (c.fact 39 (f := .free "bool") rfl)
  have b_int : mg "int" = none := He.free_ok X G (c.fact 40 (f := .free "int") rfl)
  have b_isinstance : mg "isinstance" = none := He.free_ok X G (c.fact 41 (f := .free "isinstance") rfl)
  have b_len : mg "len" = none := He.free_ok X G (c.fact 42 (f := .free "len") rfl)
  have b_list : mg "list" = none := He.free_ok X G (c.fact 43 (f := .free "list") rfl)
  have b_max : mg "max" = none := He.free_ok X G (c.fact 44 (f := .free "max") rfl)
  have b_range : mg "range" = none := He.free_ok X G (c.fact 45 (f := .free "range") rfl)
  have b_tuple : mg "tuple" = none := He.free_ok X G (c.fact 46 (f := .free "tuple") rfl)
  have b_zip : mg "zip" = none := He.free_ok X G (c.fact 47 (f := .free "zip") rfl)
  have g_NOUGHT : GOk K mg "NOUGHT" (.tuple [(.int 0), (.int 1)]) := gB_ok X G cg 0 (p := ("NOUGHT", (.tuple [(.int 0), (.int 1)]))) rfl
  have g_WHOLE : GOk K mg "WHOLE" (.list [(.tuple [(.tuple [(.int 0), (.int 1)]), (.tuple [(.int 0), (.int 1)])]), (.tuple [(.tuple [(.int 1), (.int 1)]), (.tuple [(.int 0), (.int 1)])]), (.tuple [(.tuple [(.int 1), (.int 1)]), (.tuple [(.int 1), (.int 1)])]), (.tuple [(.tuple [(.int 0), (.int 1)]), (.tuple [(.int 1), (.int 1)])])]) := gB_ok X G cg 1 (p := ("WHOLE", (.list [(.tuple [(.tuple [(.int 0), (.int 1)]), (.tuple [(.int 0), (.int 1)])]), (.tuple [(.tuple [(.int 1), (.int 1)]), (.tuple [(.int 0), (.int 1)])]), (.tuple [(.tuple [(.int 1), (.int 1)]), (.tuple [(.int 1), (.int 1)])]), (.tuple [(.tuple [(.int 0), (.int 1)]), (.tuple [(.int 1), (.int 1)])])]))) rfl
  have bb := FunD.bindsA (ps := ["script"]) F_law fun _ _ _ _ _ _ us hl => match us, hl with | [_], _ => rfl
  refine ⟨fd_law, fun s v => bb s [v] rfl, fun base _ _ => ?_⟩
  have d_is_whole := ok_is_whole (P := P) (w := w) (base := base) F_is_whole m_is_whole b_isinstance b_int b_bool
  have d_divisor_of := ok_divisor_of (P := P) (w := w) (base := base) F_divisor_of m_divisor_of b_abs
  have d_ratio_of := ok_ratio_of (P := P) (w := w) (base := base) F_ratio_of m_ratio_of d_is_whole d_divisor_of
  have d_ratio_sum := ok_ratio_sum (P := P) (w := w) (base := base) F_ratio_sum m_ratio_sum d_ratio_of
  have d_ratio_less := ok_ratio_less (P := P) (w := w) (base := base) F_ratio_less m_ratio_less d_ratio_of
  have d_ratio_times := ok_ratio_times (P := P) (w := w) (base := base) F_ratio_times m_ratio_times d_ratio_of
  have d_ratio_by := ok_ratio_by (P := P) (w := w) (base := base) F_ratio_by m_ratio_by d_ratio_of
  have d_is_under := ok_is_under (P := P) (w := w) (base := base) F_is_under m_is_under 
  have d_share_of := ok_share_of (P := P) (w := w) (base := base) F_share_of m_share_of g_NOUGHT b_range b_len d_ratio_sum d_ratio_less d_ratio_times d_ratio_of
  have d_turn_at := ok_turn_at (P := P) (w := w) (base := base) F_turn_at m_turn_at d_ratio_times d_ratio_less
  have d_between := ok_between (P := P) (w := w) (base := base) F_between m_between d_ratio_by d_ratio_less b_tuple b_zip d_ratio_sum d_ratio_times
  have d_kept_side := ok_kept_side (P := P) (w := w) (base := base) F_kept_side m_kept_side b_range b_len d_is_under g_NOUGHT d_ratio_times d_between
  have d_is_before := ok_is_before (P := P) (w := w) (base := base) F_is_before m_is_before d_is_under
  have d_tidied_part := ok_tidied_part (P := P) (w := w) (base := base) F_tidied_part m_tidied_part b_range b_len d_turn_at g_NOUGHT d_is_under d_share_of d_is_before
  have d_both_of := ok_both_of (P := P) (w := w) (base := base) F_both_of m_both_of b_range b_len d_kept_side d_turn_at d_tidied_part
  have d_triple_sum := ok_triple_sum (P := P) (w := w) (base := base) F_triple_sum m_triple_sum 
  have d_triple_less := ok_triple_less (P := P) (w := w) (base := base) F_triple_less m_triple_less 
  have d_dot_of := ok_dot_of (P := P) (w := w) (base := base) F_dot_of m_dot_of 
  have d_cross_of := ok_cross_of (P := P) (w := w) (base := base) F_cross_of m_cross_of 
  have d_front_of := ok_front_of (P := P) (w := w) (base := base) F_front_of m_front_of d_cross_of
  have d_point_less := ok_point_less (P := P) (w := w) (base := base) F_point_less m_point_less b_tuple b_zip d_ratio_less
  have d_point_dot := ok_point_dot (P := P) (w := w) (base := base) F_point_dot m_point_dot b_zip d_ratio_sum d_ratio_times
  have d_meeting_of := ok_meeting_of (P := P) (w := w) (base := base) F_meeting_of m_meeting_of d_dot_of d_front_of d_point_less d_ratio_by d_point_dot d_cross_of
  have d_corners_of := ok_corners_of (P := P) (w := w) (base := base) F_corners_of m_corners_of d_triple_sum
  have d_as_point := ok_as_point (P := P) (w := w) (base := base) F_as_point m_as_point b_tuple
  have d_shaded_by := ok_shaded_by (P := P) (w := w) (base := base) F_shaded_by m_shaded_by d_front_of d_corners_of d_dot_of d_triple_less b_max d_kept_side d_as_point d_both_of d_tidied_part d_meeting_of b_list g_WHOLE
  have d__law_cell_at := ok__law_cell_at (P := P) (w := w) (base := base) F__law_cell_at m__law_cell_at b_len
  have d__law_draw := ok__law_draw (P := P) (w := w) (base := base) F__law_draw m__law_draw b_range
  have d__law_number := ok__law_number (P := P) (w := w) (base := base) F__law_number m__law_number d__law_draw
  have d__law_triple := ok__law_triple (P := P) (w := w) (base := base) F__law_triple m__law_triple d__law_number
  have d__law_cross := ok__law_cross (P := P) (w := w) (base := base) F__law_cross m__law_cross 
  have d__law_dot := ok__law_dot (P := P) (w := w) (base := base) F__law_dot m__law_dot 
  have d__law_plate := ok__law_plate (P := P) (w := w) (base := base) F__law_plate m__law_plate d__law_triple d__law_cross
  have d__law_ahead := ok__law_ahead (P := P) (w := w) (base := base) F__law_ahead m__law_ahead d__law_dot b_int b_tuple b_zip
  have d__law_sum := ok__law_sum (P := P) (w := w) (base := base) F__law_sum m__law_sum b_tuple b_zip
  have d__law_other := ok__law_other (P := P) (w := w) (base := base) F__law_other m__law_other d__law_draw d__law_sum b_tuple
  have d__law_far := ok__law_far (P := P) (w := w) (base := base) F__law_far m__law_far b_abs
  exact ok_law F_law d__law_plate d__law_ahead d__law_cross d__law_triple d__law_other d__law_far d_shaded_by b_isinstance b_list
end Lw
open PySem PySem.W PySem.Calls PyProof.Rows in
theorem PySem.Challenge.cw_dialyard_k75_nothing_shaded_holds : PySem.Challenge.rw_dialyard_k75_nothing_shaded.Holds := by
  w_on; o_law
  refine HandSHeadRun.head_any (r := OpenLaw.row PySem.Challenge.rw_dialyard_k75_nothing_shaded) (q := view (OpenLaw.row PySem.Challenge.rw_dialyard_k75_nothing_shaded).prog [49]) (H := Lw.hk) (ob := Lw.ob) (M := 20000) (loose := Lw.loose) (d := HandSHeadRun.topDef (OpenLaw.row PySem.Challenge.rw_dialyard_k75_nothing_shaded).prog 49) (kwd := []) Lw.ob_eq
    (by kernel_rfl) (fun s => by kernel_rfl) Lw.run (by kernel_rfl) (by kernel_rfl) (by kernel_rfl) (by rfl) (by first | assumption | decide +kernel) (by decide +kernel) ⟨rfl, rfl, rfl, rfl, rfl, by decide +kernel⟩ ?hw ?hc
  case hw => w_witness2
  case hc =>
    refine Dy.law_end (l := PySem.Challenge.rw_dialyard_k75_nothing_shaded) (k := 8) (g := Lw.sem_law) rfl (by decide) (by kernel_rfl) ⟨rfl, by decide, by decide⟩ Lw.law_true ?F
    intro w mg fa h Y G hmg0
    obtain ⟨K, KX, c⟩ := Y
    have hmg : mg ("law" : PySem.Str) = some (.ref fa) := by
      have e : (HandSHeadRun.topDef (OpenLaw.row PySem.Challenge.rw_dialyard_k75_nothing_shaded).prog 49).name = ("law" : PySem.Str) := by kernel_rfl
      rw [← e]
      exact hmg0
    obtain ⟨fd, hb, hF⟩ := Lw.facts (P := (PySem.Challenge.rw_dialyard_k75_nothing_shaded).prog) (w := w) KX G hmg c.t.d c.more
    exact ⟨K, fd, KX, hb, hF⟩
